import PyProof.Rows.All
import Wide.All
import OpenK.AllK
import Wide.FinOn
import HandS.ForMost
import HandS.Flow
import HandS.Conv
import HandS.Style
import HandS.NoneIn
import HandS.Walk
import HandS.Zip
import HandS.Rev
import HandS.SortKw
import HandS.TupAny
import HandS.Deep
import KE.SortData
import KE.SortKeyHeap
import KE.KTupSum
import KE.GoesEnum
import HandS.IsInst
import HandS.TupLe
import PySem.Challenge.RW_manysheets_k39_exchanges_put_together
set_option Elab.async false
set_option linter.all false
set_option maxRecDepth 100000
set_option maxHeartbeats 1000000
/-! MsA: data D, what represents it in an abstract heap (Rep), the state of a def's run at the data level (Sx), and how both go together (RepS). -/
namespace Ms
open PySem PySem.Spec PyProof.Rows L2
set_option autoImplicit false
/-- a frame's slots in the hand layer -/
abbrev Sg := List (Option V)

/-- plain data; rd: a list that is only read (the script); ob k: the k-th long-lived list; cr i: the list that slot i owns -/
inductive D where
  | non | bl (b : Bool) | int (i : Int) | str (x : Str)
  | tup (l : List D) | lst (l : List D) | rd (l : List D)
  | ob (k : Nat) | cr (i : Nat)
instance : Inhabited D := ⟨.non⟩

/-- long-lived objects: a list -/
inductive Wo where
  | lst (l : List D)
instance : Inhabited Wo := ⟨.lst []⟩
/-- a slot: nothing, a value, a list of its own -/
inductive Sl where
  | un | val (d : D) | cell (l : List D)
instance : Inhabited Sl := ⟨.un⟩
structure Sx where
  env : List Sl
  w : List Wo

/-- where data stands: hb the heap of what never changes, wa the long-lived objects' addresses; h0, m0: the heap at the def's entry and what it may change of it -/
structure Ph where
  hb : Hp
  wa : List Addr
  h0 : Hp
  m0 : Addr → Prop

mutual
inductive Rep (K : PySem.W.Frag) (P : Ph) : V → D → Prop
  | non : Rep K P .non .non
  | bl (b : Bool) : Rep K P (.bl b) (.bl b)
  | int (i : Int) : Rep K P (.int i) (.int i)
  | str (x : Str) : Rep K P (.str x) (.str x)
  | tup {a : Addr} {vs : List V} {ds : List D} : SqT K P.hb a vs → RepL K P vs ds → Rep K P (.ref a) (.tup ds)
  | lst {a : Addr} {vs : List V} {ds : List D} : P.hb a = some (.lst vs) → RepL K P vs ds → Rep K P (.ref a) (.lst ds)
  | rd {a : Addr} {vs : List V} {ds : List D} : SqL K P.hb a vs → RepL K P vs ds → Rep K P (.ref a) (.rd ds)
  | ob {a : Addr} {k : Nat} : P.wa[k]? = some a → Rep K P (.ref a) (.ob k)
inductive RepL (K : PySem.W.Frag) (P : Ph) : List V → List D → Prop
  | nil : RepL K P [] []
  | cons {v : V} {vs : List V} {d : D} {ds : List D} : Rep K P v d → RepL K P vs ds → RepL K P (v :: vs) (d :: ds)
end

structure Ph.Le (P P' : Ph) : Prop where
  hb : Same P.hb P'.hb
  new : ∀ a, P.hb a = none → P'.hb a ≠ none → P.h0 a = none ∨ P.m0 a
  wa : ∃ more, P'.wa = P.wa ++ more
  h0 : P'.h0 = P.h0
  m0 : P'.m0 = P.m0
theorem Ph.Le.refl (P : Ph) : P.Le P := ⟨Same.refl _, fun a h h' => absurd h h', ⟨[], by simp⟩, rfl, rfl⟩
theorem Ph.Le.trans {P P1 P2 : Ph} (a : P.Le P1) (b : P1.Le P2) : P.Le P2 := by
  refine ⟨a.hb.trans b.hb, fun x h h' => ?_, ?_, b.h0.trans a.h0, b.m0.trans a.m0⟩
  · cases q : P1.hb x with
    | none => rw [← a.h0, ← a.m0]; exact b.new x q h'
    | some o => exact a.new x h (by rw [q]; simp)
  · obtain ⟨m, e⟩ := a.wa
    obtain ⟨m', e'⟩ := b.wa
    exact ⟨m ++ m', by rw [e', e, List.append_assoc]⟩
theorem Ph.Le.at {P P' : Ph} (a : P.Le P') {k : Nat} {x : Addr} (h : P.wa[k]? = some x) : P'.wa[k]? = some x := by
  obtain ⟨m, e⟩ := a.wa
  rw [e, List.getElem?_append_left (List.getElem?_eq_some_iff.mp h).1]
  exact h
theorem sameT {K : PySem.W.Frag} {H H' : Hp} {a : Addr} {xs : List V} (e : Same H H') (h : SqT K H a xs) : SqT K H' a xs := by
  rcases h with (h | ⟨o, h⟩) | h
  · exact .inl (.inl (e _ _ h))
  · exact .inl (.inr ⟨o, e _ _ h⟩)
  · exact .inr h
mutual
theorem Rep.mono {K : PySem.W.Frag} {P P' : Ph} (e : P.Le P') : ∀ {v : V} {d : D}, Rep K P v d → Rep K P' v d
  | _, _, .non => .non
  | _, _, .bl b => .bl b
  | _, _, .int i => .int i
  | _, _, .str x => .str x
  | _, _, .tup h r => .tup (sameT e.hb h) (RepL.mono e r)
  | _, _, .lst h r => .lst (e.hb _ _ h) (RepL.mono e r)
  | _, _, .rd h r => .rd (e.hb.seq h) (RepL.mono e r)
  | _, _, .ob h => .ob (e.at h)
theorem RepL.mono {K : PySem.W.Frag} {P P' : Ph} (e : P.Le P') : ∀ {vs : List V} {ds : List D}, RepL K P vs ds → RepL K P' vs ds
  | _, _, .nil => .nil
  | _, _, .cons r t => .cons (Rep.mono e r) (RepL.mono e t)
end
section
variable {K : PySem.W.Frag} {P : Ph}
theorem RepL.length : ∀ {vs : List V} {ds : List D}, RepL K P vs ds → vs.length = ds.length
  | _, _, .nil => rfl
  | _, _, .cons _ t => by simp [RepL.length t]
theorem RepL.get : ∀ {vs : List V} {ds : List D} {i : Nat} {d : D}, RepL K P vs ds → ds[i]? = some d → ∃ v, vs[i]? = some v ∧ Rep K P v d
  | _, _, i, d, .nil, h => by simp at h
  | _, _, 0, d, .cons r _, h => by simp at h; subst h; exact ⟨_, rfl, r⟩
  | _, _, i + 1, d, .cons _ t, h => by
    obtain ⟨v, h1, h2⟩ := RepL.get (i := i) t (by simpa using h)
    exact ⟨v, by simpa using h1, h2⟩
theorem RepL.append : ∀ {vs ws : List V} {ds es : List D}, RepL K P vs ds → RepL K P ws es → RepL K P (vs ++ ws) (ds ++ es)
  | _, _, _, _, .nil, t => t
  | _, _, _, _, .cons r t, t' => .cons r (RepL.append t t')
theorem RepL.take (n : Nat) : ∀ {vs : List V} {ds : List D}, RepL K P vs ds → RepL K P (vs.take n) (ds.take n)
  | _, _, .nil => by simp; exact .nil
  | _, _, .cons r t => by
    cases n with
    | zero => exact .nil
    | succ n => exact .cons r (RepL.take n t)
theorem RepL.drop (n : Nat) : ∀ {vs : List V} {ds : List D}, RepL K P vs ds → RepL K P (vs.drop n) (ds.drop n)
  | _, _, .nil => by simp; exact .nil
  | _, _, .cons r t => by
    cases n with
    | zero => exact .cons r t
    | succ n => exact RepL.drop n t
theorem RepL.reverse : ∀ {vs : List V} {ds : List D}, RepL K P vs ds → RepL K P vs.reverse ds.reverse
  | _, _, .nil => .nil
  | _, _, .cons r t => by
    rw [List.reverse_cons, List.reverse_cons]
    exact (RepL.reverse t).append (.cons r .nil)
theorem RepL.set {x : V} {d : D} (r : Rep K P x d) : ∀ {vs : List V} {ds : List D} (i : Nat), RepL K P vs ds → RepL K P (vs.set i x) (ds.set i d)
  | _, _, _, .nil => .nil
  | _, _, 0, .cons _ t => .cons r t
  | _, _, i + 1, .cons q t => .cons q (RepL.set r i t)
theorem RepL.eraseIdx : ∀ {vs : List V} {ds : List D} (i : Nat), RepL K P vs ds → RepL K P (vs.eraseIdx i) (ds.eraseIdx i)
  | _, _, _, .nil => .nil
  | _, _, 0, .cons _ t => t
  | _, _, i + 1, .cons q t => .cons q (RepL.eraseIdx i t)
theorem RepL.dropLast {vs : List V} {ds : List D} (h : RepL K P vs ds) : RepL K P vs.dropLast ds.dropLast := by
  rw [List.dropLast_eq_take, List.dropLast_eq_take, h.length]
  exact h.take _
theorem RepL.rep {vs : List V} {ds : List D} (h : RepL K P vs ds) : ∀ k : Nat, RepL K P (List.replicate k vs).flatten (List.replicate k ds).flatten
  | 0 => .nil
  | k + 1 => by
    rw [List.replicate_succ, List.replicate_succ, List.flatten_cons, List.flatten_cons]
    exact h.append (RepL.rep h k)
theorem RepL.ints : ∀ (ns : List Int), RepL K P (ns.map V.int) (ns.map D.int)
  | [] => .nil
  | n :: ns => .cons (.int n) (RepL.ints ns)
end

/-- an address that some long-lived list has -/
def MutW (P : Ph) (W : List Wo) (a : Addr) : Prop := ∃ (k : Nat) (l : List D), P.wa[k]? = some a ∧ W[k]? = some (.lst l)
def RepWo (K : PySem.W.Frag) (P : Ph) (H : Hp) (a : Addr) : Wo → Prop
  | .lst l => ∃ vs, H a = some (.lst vs) ∧ RepL K P vs l
structure RepW (K : PySem.W.Frag) (P : Ph) (W : List Wo) (H : Hp) : Prop where
  same : Same P.hb H
  len : P.wa.length = W.length
  wo : ∀ (k : Nat) (a : Addr) (o : Wo), P.wa[k]? = some a → W[k]? = some o → RepWo K P H a o
  dis : ∀ (j k : Nat) (a : Addr) (l l' : List D), P.wa[j]? = some a → P.wa[k]? = some a → W[j]? = some (.lst l) → W[k]? = some (.lst l') → j = k
  nhb : ∀ a, MutW P W a → P.hb a = none
  frame : ∀ a o, P.h0 a = some o → ¬ P.m0 a → H a = some o
  live : ∀ a, P.m0 a → H a ≠ none
  wfree : ∀ a, MutW P W a → P.m0 a ∨ P.h0 a = none
/-- slot i of the frame -/
def SlR (K : PySem.W.Frag) (P : Ph) (W : List Wo) (H : Hp) (o : Option (Option V)) : Sl → Prop
  | .un => True
  | .val d => ∃ v, o = some (some v) ∧ Rep K P v d
  | .cell l => ∃ a vs, o = some (some (.ref a)) ∧ H a = some (.lst vs) ∧ RepL K P vs l ∧ P.hb a = none ∧ (P.h0 a = none ∨ P.m0 a) ∧ ¬ MutW P W a
structure RepS (K : PySem.W.Frag) (P : Ph) (S : Sx) (σ : Sg) (H : Hp) : Prop where
  w : RepW K P S.w H
  len : S.env.length = σ.length
  sl : ∀ (i : Nat) (s : Sl), S.env[i]? = some s → SlR K P S.w H σ[i]? s
  dis : ∀ (i j : Nat) (a : Addr) (l l' : List D), S.env[i]? = some (.cell l) → S.env[j]? = some (.cell l') → σ[i]? = some (some (.ref a)) → σ[j]? = some (some (.ref a)) → i = j
/-- the value of an expression -/
def RepR (K : PySem.W.Frag) (P : Ph) (σ : Sg) (v : V) : D → Prop
  | .cr i => σ[i]? = some (some v)
  | d => Rep K P v d
theorem Rep.toR {K : PySem.W.Frag} {P : Ph} {σ : Sg} {v : V} {d : D} (r : Rep K P v d) : RepR K P σ v d := by
  cases r <;> first
    | exact .non | exact .bl _ | exact .int _ | exact .str _
    | exact .tup (by assumption) (by assumption)
    | exact .lst (by assumption) (by assumption)
    | exact .rd (by assumption) (by assumption)
    | exact .ob (by assumption)
theorem RepR.mono {K : PySem.W.Frag} {P P' : Ph} {σ : Sg} (e : P.Le P') {v : V} {d : D} (r : RepR K P σ v d) : RepR K P' σ v d := by
  cases d <;> first
    | exact r
    | exact Rep.mono e r
mutual
/-- what data is does not hang on the def's entry -/
theorem Rep.rebase {K : PySem.W.Frag} {P : Ph} {h0 : Hp} {m0 : Addr → Prop} : ∀ {v : V} {d : D}, Rep K P v d → Rep K { P with h0 := h0, m0 := m0 } v d
  | _, _, .non => .non
  | _, _, .bl b => .bl b
  | _, _, .int i => .int i
  | _, _, .str x => .str x
  | _, _, .tup h r => .tup h (RepL.rebase r)
  | _, _, .lst h r => .lst h (RepL.rebase r)
  | _, _, .rd h r => .rd h (RepL.rebase r)
  | _, _, .ob h => .ob h
theorem RepL.rebase {K : PySem.W.Frag} {P : Ph} {h0 : Hp} {m0 : Addr → Prop} : ∀ {vs : List V} {ds : List D}, RepL K P vs ds → RepL K { P with h0 := h0, m0 := m0 } vs ds
  | _, _, .nil => .nil
  | _, _, .cons r t => .cons (Rep.rebase r) (RepL.rebase t)
end
theorem RepR.rebase {K : PySem.W.Frag} {P : Ph} {σ : Sg} {h0 : Hp} {m0 : Addr → Prop} {v : V} {d : D} (r : RepR K P σ v d) : RepR K { P with h0 := h0, m0 := m0 } σ v d := by
  cases d <;> first
    | exact r
    | exact Rep.rebase r
def D.isCr : D → Bool
  | .cr _ => true
  | _ => false
theorem RepR.rep {K : PySem.W.Frag} {P : Ph} {σ : Sg} {v : V} {d : D} (r : RepR K P σ v d) (h : d.isCr = false) : Rep K P v d := by
  cases d <;> first
    | exact r
    | cases h

/-! ### the heap grows -/
section
variable {K : PySem.W.Frag} {P : Ph} {W : List Wo} {S : Sx} {σ : Sg} {H : Hp}
theorem RepW.h0_none (r : RepW K P W H) {p : Addr} (hp : H p = none) : P.h0 p = none := by
  cases q : P.h0 p with
  | none => rfl
  | some o =>
    by_cases m : P.m0 p
    · exact absurd hp (r.live p m)
    · rw [r.frame p o q m] at hp; cases hp
theorem RepW.hb_none (r : RepW K P W H) {p : Addr} (hp : H p = none) : P.hb p = none := r.same.free hp
theorem RepW.notMut (r : RepW K P W H) {p : Addr} (hp : H p = none) : ¬ MutW P W p := fun ⟨k, l, h1, h2⟩ => by
  obtain ⟨vs, h, _⟩ := r.wo k p _ h1 h2
  rw [hp] at h; cases h
theorem RepW.notM0 (r : RepW K P W H) {p : Addr} (hp : H p = none) : ¬ P.m0 p := fun m => r.live p m hp
/-- a new frozen object -/
def Ph.add (P : Ph) (p : Addr) (o : HO) : Ph := { P with hb := upd P.hb p o }
theorem same_upd {H : Hp} {p : Addr} {o : HO} (hp : H p = none) : Same H (upd H p o) := fun b u e => by
  rw [upd_ne (ne_of_none e hp)]; exact e
theorem le_add {p : Addr} {o : HO} (hp : P.hb p = none) (h0 : P.h0 p = none ∨ P.m0 p) : P.Le (P.add p o) := by
  refine ⟨same_upd hp, fun a h h' => ?_, ⟨[], by simp [Ph.add]⟩, rfl, rfl⟩
  by_cases e : a = p
  · rw [e]; exact h0
  · have : (P.add p o).hb a = P.hb a := upd_ne e
    rw [this, h] at h'
    exact absurd rfl h'
theorem MutW.iff_add {p : Addr} {o : HO} {a : Addr} : MutW (P.add p o) W a ↔ MutW P W a := Iff.rfl
theorem RepWo.mono {P' : Ph} {H' : Hp} (e : P.Le P') (s : Same H H') {a : Addr} {o : Wo} (h : RepWo K P H a o) : RepWo K P' H' a o := by
  cases o with
  | lst l => obtain ⟨vs, h1, h2⟩ := h; exact ⟨vs, s _ _ h1, h2.mono e⟩
/-- an object is made and kept unchanged from now on -/
theorem RepW.alloc (r : RepW K P W H) {p : Addr} {o : HO} (hp : H p = none) : RepW K (P.add p o) W (upd H p o) where
  same := fun a u e => by
    by_cases q : a = p
    · subst q
      have e' : upd P.hb a o a = some u := e
      rw [upd_same] at e'; cases e'
      exact upd_same
    · have e' : P.hb a = some u := by
        have : (P.add p o).hb a = P.hb a := upd_ne q
        rw [this] at e; exact e
      rw [upd_ne q]; exact r.same _ _ e'
  len := r.len
  wo := fun k a u h1 h2 => (r.wo k a u h1 h2).mono (le_add (r.hb_none hp) (.inl (r.h0_none hp))) (same_upd hp)
  dis := r.dis
  nhb := fun a m => by
    have : a ≠ p := fun e => r.notMut hp (by rw [← e]; exact m)
    show upd P.hb p o a = none
    rw [upd_ne this]; exact r.nhb a m
  frame := fun a u h m => same_upd hp _ _ (r.frame a u h m)
  live := fun a m => by
    have h := r.live a m
    cases q : H a with
    | none => exact absurd q h
    | some u => rw [same_upd (o := o) hp a u q]; simp
  wfree := r.wfree
/-- an object is made that is no one's yet -/
theorem RepW.loose (r : RepW K P W H) {p : Addr} {o : HO} (hp : H p = none) : RepW K P W (upd H p o) where
  same := fun a u e => same_upd hp _ _ (r.same a u e)
  len := r.len
  wo := fun k a u h1 h2 => (r.wo k a u h1 h2).mono (Ph.Le.refl P) (same_upd hp)
  dis := r.dis
  nhb := r.nhb
  frame := fun a u h m => same_upd hp _ _ (r.frame a u h m)
  live := fun a m => by
    have h := r.live a m
    cases q : H a with
    | none => exact absurd q h
    | some u => rw [same_upd (o := o) hp a u q]; simp
  wfree := r.wfree
theorem SlR.mono {P' : Ph} {H' : Hp} (e : P.Le P') (s : Same H H') (hw : P'.wa = P.wa) (hn : ∀ a, H a ≠ none → P.hb a = none → P'.hb a = none) {o : Option (Option V)} {x : Sl} (h : SlR K P W H o x) : SlR K P' W H' o x := by
  cases x with
  | un => trivial
  | val d => obtain ⟨v, h1, h2⟩ := h; exact ⟨v, h1, h2.mono e⟩
  | cell l =>
    obtain ⟨a, vs, h1, h2, h3, h4, h5, h7⟩ := h
    refine ⟨a, vs, h1, s _ _ h2, h3.mono e, hn a (by rw [h2]; simp) h4, by rw [e.h0, e.m0]; exact h5, fun ⟨k, l, q1, q2⟩ => h7 ⟨k, l, by rw [← hw]; exact q1, q2⟩⟩
theorem RepS.alloc (r : RepS K P S σ H) {p : Addr} {o : HO} (hp : H p = none) : RepS K (P.add p o) S σ (upd H p o) where
  w := r.w.alloc hp
  len := r.len
  sl := fun i s h => (r.sl i s h).mono (le_add (r.w.hb_none hp) (.inl (r.w.h0_none hp))) (same_upd hp) rfl (fun a ha hb => by
    have : a ≠ p := fun e => ha (by rw [e]; exact hp)
    show upd P.hb p o a = none
    rw [upd_ne this]; exact hb)
  dis := r.dis
theorem RepS.loose (r : RepS K P S σ H) {p : Addr} {o : HO} (hp : H p = none) : RepS K P S σ (upd H p o) where
  w := r.w.loose hp
  len := r.len
  sl := fun i s h => (r.sl i s h).mono (Ph.Le.refl P) (same_upd hp) rfl (fun a _ hb => hb)
  dis := r.dis
theorem RepS.le_alloc (r : RepS K P S σ H) {p : Addr} {o : HO} (hp : H p = none) : P.Le (P.add p o) := le_add (r.w.hb_none hp) (.inl (r.w.h0_none hp))

/-! ### a list is changed -/
/-- the content at b, a list that is no frozen one, is changed -/
theorem RepW.put_other (r : RepW K P W H) {b : Addr} {ys : List V} {o : HO} (hb : H b = some (.lst ys)) (nb : P.hb b = none) (nw : ¬ MutW P W b) (nf : P.h0 b = none ∨ P.m0 b) : RepW K P W (upd H b o) where
  same := fun a u e => by rw [upd_ne (ne_of_none e nb)]; exact r.same a u e
  len := r.len
  wo := fun k a u h1 h2 => by
    have h := r.wo k a u h1 h2
    cases u with
    | lst l =>
      obtain ⟨vs, h3, h4⟩ := h
      have : a ≠ b := fun e => nw ⟨k, l, by rw [← e]; exact h1, h2⟩
      exact ⟨vs, by rw [upd_ne this]; exact h3, h4⟩
  dis := r.dis
  nhb := r.nhb
  frame := fun a u h m => by
    have : a ≠ b := fun e => by
      rcases nf with q | q
      · rw [e, q] at h; cases h
      · exact m (by rw [e]; exact q)
    rw [upd_ne this]; exact r.frame a u h m
  live := fun a m => by
    by_cases e : a = b
    · rw [e, upd_same]; simp
    · rw [upd_ne e]; exact r.live a m
  wfree := r.wfree
theorem getElem?_set_some {α : Type} {l : List α} {i j : Nat} {x y : α} (h : (l.set i x)[j]? = some y) : (j = i ∧ y = x) ∨ (j ≠ i ∧ l[j]? = some y) := by
  by_cases e : i = j
  · subst e
    by_cases hl : i < l.length
    · rw [List.getElem?_set_self hl] at h; exact .inl ⟨rfl, (Option.some.inj h).symm⟩
    · rw [List.getElem?_eq_none (by simpa using hl)] at h; cases h
  · rw [List.getElem?_set_ne e] at h; exact .inr ⟨fun q => e q.symm, h⟩
theorem MutW.set {k : Nat} {l l' : List D} (hk : W[k]? = some (.lst l)) (a : Addr) : MutW P (W.set k (.lst l')) a ↔ MutW P W a := by
  constructor
  · rintro ⟨j, m, h1, h2⟩
    rcases getElem?_set_some h2 with ⟨e, _⟩ | ⟨_, q⟩
    · subst e; exact ⟨j, l, h1, hk⟩
    · exact ⟨j, m, h1, q⟩
  · rintro ⟨j, m, h1, h2⟩
    by_cases e : k = j
    · subst e; exact ⟨k, l', h1, List.getElem?_set_self (List.getElem?_eq_some_iff.mp hk).1⟩
    · exact ⟨j, m, h1, by rw [List.getElem?_set_ne e]; exact h2⟩
/-- a long-lived list is changed -/
theorem RepW.put_ob (r : RepW K P W H) {k : Nat} {b : Addr} {l l' : List D} {vs' : List V} (hk : P.wa[k]? = some b) (hw : W[k]? = some (.lst l)) (rl : RepL K P vs' l') : RepW K P (W.set k (.lst l')) (upd H b (.lst vs')) := by
  obtain ⟨ys, hb, _⟩ := r.wo k b _ hk hw
  have mb : MutW P W b := ⟨k, l, hk, hw⟩
  exact {
    same := fun a u e => by rw [upd_ne (ne_of_none e (r.nhb b mb))]; exact r.same a u e
    len := by rw [List.length_set]; exact r.len
    wo := fun j a u h1 h2 => by
      rcases getElem?_set_some h2 with ⟨e, e'⟩ | ⟨e, h2⟩
      · subst e e'
        rw [hk] at h1; cases h1
        exact ⟨vs', upd_same, rl⟩
      · have h := r.wo j a u h1 h2
        cases u with
        | lst m =>
          obtain ⟨zs, h3, h4⟩ := h
          have : a ≠ b := fun q => e (r.dis j k a m l h1 (by rw [q]; exact hk) h2 hw)
          exact ⟨zs, by rw [upd_ne this]; exact h3, h4⟩
    dis := fun i j a m m' h1 h2 h3 h4 => by
      have f : ∀ {i : Nat} {m : List D}, (W.set k (.lst l'))[i]? = some (.lst m) → ∃ m, W[i]? = some (.lst m) := fun {i m} h => by
        rcases getElem?_set_some h with ⟨e, _⟩ | ⟨_, q⟩
        · subst e; exact ⟨l, hw⟩
        · exact ⟨m, q⟩
      obtain ⟨m1, h3⟩ := f h3
      obtain ⟨m2, h4⟩ := f h4
      exact r.dis i j a m1 m2 h1 h2 h3 h4
    nhb := fun a m => r.nhb a ((MutW.set hw a).mp m)
    frame := fun a u h m => by
      have : a ≠ b := fun e => by
        rcases r.wfree b mb with q | q
        · exact m (by rw [e]; exact q)
        · rw [e, q] at h; cases h
      rw [upd_ne this]; exact r.frame a u h m
    live := fun a m => by
      by_cases e : a = b
      · rw [e, upd_same]; simp
      · rw [upd_ne e]; exact r.live a m
    wfree := fun a m => r.wfree a ((MutW.set hw a).mp m) }
theorem RepS.put_ob (r : RepS K P S σ H) {k : Nat} {b : Addr} {l l' : List D} {vs' : List V} (hk : P.wa[k]? = some b) (hw : S.w[k]? = some (.lst l)) (rl : RepL K P vs' l') :
    RepS K P { S with w := S.w.set k (.lst l') } σ (upd H b (.lst vs')) where
  w := r.w.put_ob hk hw rl
  len := r.len
  sl := fun i s h => by
    have q := r.sl i s h
    cases s with
    | un => trivial
    | val d => exact q
    | cell m =>
      obtain ⟨a, vs, h1, h2, h3, h4, h5, h7⟩ := q
      have : a ≠ b := fun e => h7 ⟨k, l, by rw [e]; exact hk, hw⟩
      exact ⟨a, vs, h1, by rw [upd_ne this]; exact h2, h3, h4, h5, fun m => h7 ((MutW.set hw a).mp m)⟩
  dis := r.dis
/-- a slot's own list is changed -/
theorem RepS.put_cell (r : RepS K P S σ H) {i : Nat} {b : Addr} {l l' : List D} {vs' : List V} (hs : σ[i]? = some (some (.ref b))) (he : S.env[i]? = some (.cell l)) (rl : RepL K P vs' l') :
    RepS K P { S with env := S.env.set i (.cell l') } σ (upd H b (.lst vs')) := by
  obtain ⟨a, ys, h1, h2, h3, h4, h5, h7⟩ := r.sl i _ he
  rw [hs] at h1; cases h1
  exact {
    w := r.w.put_other h2 h4 h7 h5
    len := by rw [List.length_set]; exact r.len
    sl := fun j s h => by
      rcases getElem?_set_some h with ⟨e, e'⟩ | ⟨e, h⟩
      · subst e e'
        exact ⟨b, vs', hs, upd_same, rl, h4, h5, h7⟩
      · have q := r.sl j s h
        cases s with
        | un => trivial
        | val d => exact q
        | cell m =>
          obtain ⟨a, vs, g1, g2, g3, g4, g5, g7⟩ := q
          have : a ≠ b := fun z => e (r.dis j i b m l h he (by rw [← z]; exact g1) hs)
          exact ⟨a, vs, g1, by rw [upd_ne this]; exact g2, g3, g4, g5, g7⟩
    dis := fun j k a m m' q1 q2 q3 q4 => by
      have f : ∀ {j : Nat} {m : List D}, (S.env.set i (.cell l'))[j]? = some (.cell m) → ∃ m, S.env[j]? = some (.cell m) := fun {j m} h => by
        rcases getElem?_set_some h with ⟨e, _⟩ | ⟨_, q⟩
        · subst e; exact ⟨l, he⟩
        · exact ⟨m, q⟩
      obtain ⟨m1, q1⟩ := f q1
      obtain ⟨m2, q2⟩ := f q2
      exact r.dis j k a m1 m2 q1 q2 q3 q4 }
/-- a slot's own list is changed no more -/
theorem RepS.freeze (r : RepS K P S σ H) {i : Nat} {l : List D} (he : S.env[i]? = some (.cell l)) :
    ∃ a vs, σ[i]? = some (some (.ref a)) ∧ H a = some (.lst vs) ∧ P.Le (P.add a (.lst vs)) ∧ RepS K (P.add a (.lst vs)) { S with env := S.env.set i (.val (.lst l)) } σ H ∧ Rep K (P.add a (.lst vs)) (.ref a) (.lst l) := by
  obtain ⟨a, vs, h1, h2, h3, h4, h5, h7⟩ := r.sl i _ he
  have le : P.Le (P.add a (.lst vs)) := le_add h4 h5
  have rep : Rep K (P.add a (.lst vs)) (.ref a) (.lst l) := .lst (show upd P.hb a (.lst vs) a = _ from upd_same) (h3.mono le)
  refine ⟨a, vs, h1, h2, le, ⟨⟨?_, r.w.len, fun k b o q1 q2 => (r.w.wo k b o q1 q2).mono le (Same.refl H), r.w.dis, ?_, r.w.frame, r.w.live, r.w.wfree⟩, by rw [List.length_set]; exact r.len, ?_, ?_⟩, rep⟩
  · intro b u e
    by_cases q : b = a
    · subst q
      have e' : upd P.hb b (.lst vs) b = some u := e
      rw [upd_same] at e'; cases e'
      exact h2
    · have : (P.add a (.lst vs)).hb b = P.hb b := upd_ne q
      rw [this] at e; exact r.w.same _ _ e
  · intro b m
    have : b ≠ a := fun e => h7 (by rw [← e]; exact m)
    show upd P.hb a (.lst vs) b = none
    rw [upd_ne this]; exact r.w.nhb b m
  · intro j s h
    rcases getElem?_set_some h with ⟨e, e'⟩ | ⟨e, h⟩
    · subst e e'; exact ⟨_, h1, rep⟩
    · have q := r.sl j s h
      cases s with
      | un => trivial
      | val d => obtain ⟨v, q1, q2⟩ := q; exact ⟨v, q1, q2.mono le⟩
      | cell m =>
        obtain ⟨b, ws, g1, g2, g3, g4, g5, g7⟩ := q
        have : b ≠ a := fun z => e (r.dis j i a m l h he (by rw [← z]; exact g1) h1)
        exact ⟨b, ws, g1, g2, g3.mono le, (by show upd P.hb a (.lst vs) b = none; rw [upd_ne this]; exact g4), g5, g7⟩
  · intro j k b m m' q1 q2 q3 q4
    rcases getElem?_set_some q1 with ⟨_, e⟩ | ⟨_, q1⟩
    · cases e
    · rcases getElem?_set_some q2 with ⟨_, e⟩ | ⟨_, q2⟩
      · cases e
      · exact r.dis j k b m m' q1 q2 q3 q4

/-! ### slots are stored -/
theorem RepS.store_val (r : RepS K P S σ H) {i : Nat} {v : V} {d : D} (hv : Rep K P v d) : RepS K P { S with env := S.env.set i (.val d) } (σ.set i (some v)) H where
  w := r.w
  len := by rw [List.length_set, List.length_set]; exact r.len
  sl := fun j s h => by
    rcases getElem?_set_some h with ⟨e, e'⟩ | ⟨e, h⟩
    · subst e e'
      have hl : j < σ.length := by
        rw [← r.len]
        have := (List.getElem?_eq_some_iff.mp h).1
        rw [List.length_set] at this; exact this
      exact ⟨v, List.getElem?_set_self hl, hv⟩
    · rw [List.getElem?_set_ne (fun q => e q.symm)]; exact r.sl j s h
  dis := fun j k a m m' q1 q2 q3 q4 => by
    rcases getElem?_set_some q1 with ⟨_, e⟩ | ⟨e1, q1⟩
    · cases e
    · rcases getElem?_set_some q2 with ⟨_, e⟩ | ⟨e2, q2⟩
      · cases e
      · rw [List.getElem?_set_ne (fun q => e1 q.symm)] at q3
        rw [List.getElem?_set_ne (fun q => e2 q.symm)] at q4
        exact r.dis j k a m m' q1 q2 q3 q4
/-- a new list, no one's yet, becomes slot i's own -/
theorem RepS.store_cell (r : RepS K P S σ H) {i : Nat} {p : Addr} {vs : List V} {l : List D} (hp : H p = none) (hl : RepL K P vs l) : RepS K P { S with env := S.env.set i (.cell l) } (σ.set i (some (.ref p))) (upd H p (.lst vs)) where
  w := r.w.loose hp
  len := by rw [List.length_set, List.length_set]; exact r.len
  sl := fun j s h => by
    rcases getElem?_set_some h with ⟨e, e'⟩ | ⟨e, h⟩
    · subst e e'
      have hlt : j < σ.length := by
        rw [← r.len]
        have := (List.getElem?_eq_some_iff.mp h).1
        rw [List.length_set] at this; exact this
      exact ⟨p, vs, List.getElem?_set_self hlt, upd_same, hl, r.w.hb_none hp, .inl (r.w.h0_none hp), r.w.notMut hp⟩
    · rw [List.getElem?_set_ne (fun q => e q.symm)]
      exact (r.sl j s h).mono (Ph.Le.refl P) (same_upd hp) rfl (fun a _ hb => hb)
  dis := fun j k a m m' q1 q2 q3 q4 => by
    have far : ∀ {j : Nat} {m : List D}, S.env[j]? = some (.cell m) → σ[j]? ≠ some (some (.ref p)) := fun {j m} h z => by
      obtain ⟨b, ws, g1, g2, _⟩ := r.sl j _ h
      rw [z] at g1; cases g1
      rw [hp] at g2; cases g2
    have hlt : ∀ {j : Nat}, j < (S.env.set i (.cell l)).length → j < σ.length := fun h => by rw [List.length_set, r.len] at h; exact h
    rcases getElem?_set_some q1 with ⟨e1, _⟩ | ⟨e1, q1'⟩
    · rcases getElem?_set_some q2 with ⟨e2, _⟩ | ⟨e2, q2'⟩
      · rw [e1, e2]
      · subst e1
        rw [List.getElem?_set_self (hlt (List.getElem?_eq_some_iff.mp q1).1)] at q3; cases q3
        rw [List.getElem?_set_ne (fun q => e2 q.symm)] at q4
        exact absurd q4 (far q2')
    · rw [List.getElem?_set_ne (fun q => e1 q.symm)] at q3
      rcases getElem?_set_some q2 with ⟨e2, _⟩ | ⟨e2, q2'⟩
      · subst e2
        rw [List.getElem?_set_self (hlt (List.getElem?_eq_some_iff.mp q2).1)] at q4; cases q4
        exact absurd q3 (far q1')
      · rw [List.getElem?_set_ne (fun q => e2 q.symm)] at q4
        exact r.dis j k a m m' q1' q2' q3 q4
/-- a slot is forgotten -/
theorem RepS.forget (r : RepS K P S σ H) {i : Nat} {o : Option V} : RepS K P { S with env := S.env.set i .un } (σ.set i o) H where
  w := r.w
  len := by rw [List.length_set, List.length_set]; exact r.len
  sl := fun j s h => by
    rcases getElem?_set_some h with ⟨e, e'⟩ | ⟨e, h⟩
    · subst e'; trivial
    · rw [List.getElem?_set_ne (fun q => e q.symm)]; exact r.sl j s h
  dis := fun j k a m m' q1 q2 q3 q4 => by
    rcases getElem?_set_some q1 with ⟨_, e⟩ | ⟨e1, q1⟩
    · cases e
    · rcases getElem?_set_some q2 with ⟨_, e⟩ | ⟨e2, q2⟩
      · cases e
      · rw [List.getElem?_set_ne (fun q => e1 q.symm)] at q3
        rw [List.getElem?_set_ne (fun q => e2 q.symm)] at q4
        exact r.dis j k a m m' q1 q2 q3 q4
/-- a new list, no one's yet, becomes a long-lived one -/
def Ph.addW (P : Ph) (p : Addr) : Ph := { P with wa := P.wa ++ [p] }
theorem le_addW (p : Addr) : P.Le (P.addW p) := ⟨Same.refl _, fun a h h' => absurd h h', ⟨[p], rfl⟩, rfl, rfl⟩
theorem get_snoc {α : Type} {l : List α} {x y : α} {k : Nat} (h : (l ++ [x])[k]? = some y) : l[k]? = some y ∨ (k = l.length ∧ y = x) := by
  by_cases q : k < l.length
  · rw [List.getElem?_append_left q] at h; exact .inl h
  · have h2 : k < (l ++ [x]).length := (List.getElem?_eq_some_iff.mp h).1
    rw [List.length_append, List.length_singleton] at h2
    have e : k = l.length := by omega
    subst e
    rw [List.getElem?_append_right (Nat.le_refl _)] at h
    simp at h
    exact .inr ⟨rfl, h.symm⟩
/-! ### a part of the run is looked at by itself: what it does not own stands -/
def CellAt (S : Sx) (τ : Sg) (a : Addr) : Prop := ∃ (i : Nat) (l : List D), S.env[i]? = some (.cell l) ∧ τ[i]? = some (some (.ref a))
def Ph.base (P : Ph) (S : Sx) (τ : Sg) (H : Hp) : Ph := { P with h0 := H, m0 := fun a => MutW P S.w a ∨ CellAt S τ a }
theorem RepS.cell_h0 (r : RepS K P S σ H) {a : Addr} (c : CellAt S σ a) : P.h0 a = none ∨ P.m0 a := by
  obtain ⟨i, l, h1, h2⟩ := c
  obtain ⟨b, vs, g1, g2, g3, g4, g5, g7⟩ := r.sl i _ h1
  rw [h2] at g1; cases g1
  exact g5
theorem RepS.own_h0 (r : RepS K P S σ H) {a : Addr} (c : MutW P S.w a ∨ CellAt S σ a) : P.h0 a = none ∨ P.m0 a := by
  rcases c with c | c
  · exact (r.w.wfree a c).symm
  · exact r.cell_h0 c
theorem RepS.base (r : RepS K P S σ H) : RepS K (P.base S σ H) S σ H where
  w := {
    same := r.w.same
    len := r.w.len
    wo := fun k a o h1 h2 => by
      have q := r.w.wo k a o h1 h2
      cases o with
      | lst l => obtain ⟨vs, q1, q2⟩ := q; exact ⟨vs, q1, q2.rebase⟩
    dis := r.w.dis
    nhb := r.w.nhb
    frame := fun a o h _ => h
    live := fun a m => by
      rcases m with ⟨k, l, h1, h2⟩ | ⟨i, l, h1, h2⟩
      · obtain ⟨vs, q, _⟩ := r.w.wo k a _ h1 h2
        rw [q]; simp
      · obtain ⟨b, vs, g1, g2, _⟩ := r.sl i _ h1
        rw [h2] at g1; cases g1
        rw [g2]; simp
    wfree := fun a m => .inl (.inl m) }
  len := r.len
  sl := fun i s h => by
    have q := r.sl i s h
    cases s with
    | un => trivial
    | val d => obtain ⟨v, h1, h2⟩ := q; exact ⟨v, h1, h2.rebase⟩
    | cell l =>
      obtain ⟨a, vs, g1, g2, g3, g4, g5, g7⟩ := q
      exact ⟨a, vs, g1, g2, g3.rebase, g4, .inr (.inr ⟨i, l, h, g1⟩), g7⟩
  dis := r.dis
def Ph.back (P : Ph) (P1 : Ph) : Ph := { P1 with h0 := P.h0, m0 := P.m0 }
theorem RepS.back (r : RepS K P S σ H) {P1 : Ph} {S1 : Sx} {τ : Sg} {H1 : Hp} (le : (P.base S σ H).Le P1) (r1 : RepS K P1 S1 τ H1) : P.Le (P.back P1) ∧ RepS K (P.back P1) S1 τ H1 := by
  have eh : P1.h0 = H := le.h0
  have em : P1.m0 = fun a => MutW P S.w a ∨ CellAt S σ a := le.m0
  have fr : ∀ {a : Addr}, P1.h0 a = none ∨ P1.m0 a → P.h0 a = none ∨ P.m0 a := fun {a} h => by
    rw [eh, em] at h
    rcases h with h | h
    · exact .inl (r.w.h0_none h)
    · exact r.own_h0 h
  refine ⟨⟨le.hb, fun a h h' => ?_, le.wa, rfl, rfl⟩, ⟨?_, r1.len, fun i s h => ?_, r1.dis⟩⟩
  · rcases le.new a h h' with q | q
    · exact .inl (r.w.h0_none q)
    · exact r.own_h0 q
  · exact {
      same := r1.w.same
      len := r1.w.len
      wo := fun k a o h1 h2 => by
        have q := r1.w.wo k a o h1 h2
        cases o with
        | lst l => obtain ⟨vs, q1, q2⟩ := q; exact ⟨vs, q1, q2.rebase⟩
      dis := r1.w.dis
      nhb := r1.w.nhb
      frame := fun a o h m => by
        refine r1.w.frame a o (by rw [eh]; exact r.w.frame a o h m) fun q => ?_
        rw [em] at q
        rcases r.own_h0 q with z | z
        · have h' : P.h0 a = some o := h
          rw [z] at h'; cases h'
        · exact m z
      live := fun a m => by
        by_cases q : P1.m0 a
        · exact r1.w.live a q
        · have hl := r.w.live a m
          cases z : H a with
          | none => exact absurd z hl
          | some o => rw [r1.w.frame a o (by rw [eh]; exact z) q]; simp
      wfree := fun a m => (fr (r1.w.wfree a m).symm).symm }
  · have q := r1.sl i s h
    cases s with
    | un => trivial
    | val d => obtain ⟨v, h1, h2⟩ := q; exact ⟨v, h1, h2.rebase⟩
    | cell l =>
      obtain ⟨a, vs, g1, g2, g3, g4, g5, g7⟩ := q
      exact ⟨a, vs, g1, g2, g3.rebase, g4, fr g5, g7⟩
/-- a list that is no one's yet -/
structure Loose (P : Ph) (S : Sx) (τ : Sg) (H : Hp) (p : Addr) (vs : List V) : Prop where
  at_ : H p = some (.lst vs)
  hb : P.hb p = none
  mu : ¬ MutW P S.w p
  cell : ¬ CellAt S τ p
  h0 : P.h0 p = none ∨ P.m0 p
theorem RepS.cell_ne (r : RepS K P S σ H) {p : Addr} (hp : H p = none) : ¬ CellAt S σ p := fun ⟨i, l, h1, h2⟩ => by
  obtain ⟨b, vs, g1, g2, _⟩ := r.sl i _ h1
  rw [h2] at g1; cases g1
  rw [hp] at g2; cases g2
/-- .. stays so while a part of the run goes on -/
theorem Loose.stay (r : RepS K P S σ H) {p : Addr} {vs : List V} (L : Loose P S σ H p vs) {P1 : Ph} {S1 : Sx} {τ : Sg} {H1 : Hp} (le : (P.base S σ H).Le P1) (r1 : RepS K P1 S1 τ H1) : Loose (P.back P1) S1 τ H1 p vs := by
  have eh : P1.h0 = H := le.h0
  have em : P1.m0 = fun a => MutW P S.w a ∨ CellAt S σ a := le.m0
  have nm : ¬ P1.m0 p := fun q => by
    rw [em] at q
    rcases q with q | q
    · exact L.mu q
    · exact L.cell q
  have nn : ¬ (P1.h0 p = none ∨ P1.m0 p) := fun q => by
    rcases q with q | q
    · rw [eh, L.at_] at q; cases q
    · exact nm q
  refine ⟨r1.w.frame p _ (by rw [eh]; exact L.at_) nm, ?_, fun q => nn (r1.w.wfree p q).symm, fun ⟨i, l, h1, h2⟩ => ?_, L.h0⟩
  · cases q : P1.hb p with
    | none => exact q
    | some o =>
      refine absurd (le.new p L.hb (by rw [q]; simp)) fun z => ?_
      rcases z with z | z
      · have z' : H p = none := z
        rw [L.at_] at z'; cases z'
      · rcases z with z | z
        · exact L.mu z
        · exact L.cell z
  · obtain ⟨b, ws, g1, g2, g3, g4, g5, g7⟩ := r1.sl i _ h1
    rw [h2] at g1; cases g1
    exact nn g5
/-- .. its content changes -/
theorem RepS.put_loose (r : RepS K P S σ H) {p : Addr} {vs ws : List V} (L : Loose P S σ H p vs) : RepS K P S σ (upd H p (.lst ws)) ∧ Loose P S σ (upd H p (.lst ws)) p ws := by
  refine ⟨⟨r.w.put_other L.at_ L.hb L.mu L.h0, r.len, fun i s h => ?_, r.dis⟩, ⟨upd_same, L.hb, L.mu, L.cell, L.h0⟩⟩
  have q := r.sl i s h
  cases s with
  | un => trivial
  | val d => exact q
  | cell m =>
    obtain ⟨a, us, g1, g2, g3, g4, g5, g7⟩ := q
    have : a ≠ p := fun e => L.cell ⟨i, m, h, by rw [← e]; exact g1⟩
    exact ⟨a, us, g1, by rw [upd_ne this]; exact g2, g3, g4, g5, g7⟩
theorem RepS.new_loose (r : RepS K P S σ H) {p : Addr} {vs : List V} (hp : H p = none) : RepS K P S σ (upd H p (.lst vs)) ∧ Loose P S σ (upd H p (.lst vs)) p vs :=
  ⟨r.loose hp, ⟨upd_same, r.w.hb_none hp, r.w.notMut hp, r.cell_ne hp, .inl (r.w.h0_none hp)⟩⟩
/-- .. it is frozen -/
theorem RepS.freeze_loose (r : RepS K P S σ H) {p : Addr} {vs : List V} (L : Loose P S σ H p vs) : P.Le (P.add p (.lst vs)) ∧ RepS K (P.add p (.lst vs)) S σ H := by
  have le : P.Le (P.add p (.lst vs)) := le_add L.hb L.h0
  refine ⟨le, ⟨⟨fun a u e => ?_, r.w.len, fun k a o h1 h2 => (r.w.wo k a o h1 h2).mono le (Same.refl H), r.w.dis, fun a m => ?_, r.w.frame, r.w.live, r.w.wfree⟩, r.len, fun i s h => ?_, r.dis⟩⟩
  · by_cases q : a = p
    · subst q
      have e' : upd P.hb a (.lst vs) a = some u := e
      rw [upd_same] at e'; cases e'
      exact L.at_
    · have : (P.add p (.lst vs)).hb a = P.hb a := upd_ne q
      rw [this] at e; exact r.w.same _ _ e
  · have : a ≠ p := fun e => L.mu (by rw [← e]; exact m)
    show upd P.hb p (.lst vs) a = none
    rw [upd_ne this]; exact r.w.nhb a m
  · have q := r.sl i s h
    cases s with
    | un => trivial
    | val d => obtain ⟨v, q1, q2⟩ := q; exact ⟨v, q1, q2.mono le⟩
    | cell m =>
      obtain ⟨b, ws, g1, g2, g3, g4, g5, g7⟩ := q
      have : b ≠ p := fun e => L.cell ⟨i, m, h, by rw [← e]; exact g1⟩
      exact ⟨b, ws, g1, g2, g3.mono le, (by show upd P.hb p (.lst vs) b = none; rw [upd_ne this]; exact g4), g5, g7⟩
/-- .. it becomes slot i's own -/
theorem RepS.own_loose (r : RepS K P S σ H) {i : Nat} {p : Addr} {vs : List V} {l : List D} (L : Loose P S σ H p vs) (hl : RepL K P vs l) : RepS K P { S with env := S.env.set i (.cell l) } (σ.set i (some (.ref p))) H where
  w := r.w
  len := by rw [List.length_set, List.length_set]; exact r.len
  sl := fun j s h => by
    rcases getElem?_set_some h with ⟨e, e'⟩ | ⟨e, h⟩
    · subst e e'
      have hlt : j < σ.length := by
        rw [← r.len]
        have := (List.getElem?_eq_some_iff.mp h).1
        rw [List.length_set] at this; exact this
      exact ⟨p, vs, List.getElem?_set_self hlt, L.at_, hl, L.hb, L.h0, L.mu⟩
    · rw [List.getElem?_set_ne (fun q => e q.symm)]
      exact r.sl j s h
  dis := fun j k a m m' q1 q2 q3 q4 => by
    have hlt : ∀ {j : Nat}, j < (S.env.set i (.cell l)).length → j < σ.length := fun h => by rw [List.length_set, r.len] at h; exact h
    rcases getElem?_set_some q1 with ⟨e1, _⟩ | ⟨e1, q1'⟩
    · rcases getElem?_set_some q2 with ⟨e2, _⟩ | ⟨e2, q2'⟩
      · rw [e1, e2]
      · subst e1
        rw [List.getElem?_set_self (hlt (List.getElem?_eq_some_iff.mp q1).1)] at q3; cases q3
        rw [List.getElem?_set_ne (fun q => e2 q.symm)] at q4
        exact absurd ⟨k, m', q2', q4⟩ L.cell
    · rw [List.getElem?_set_ne (fun q => e1 q.symm)] at q3
      rcases getElem?_set_some q2 with ⟨e2, _⟩ | ⟨e2, q2'⟩
      · subst e2
        rw [List.getElem?_set_self (hlt (List.getElem?_eq_some_iff.mp q2).1)] at q4; cases q4
        exact absurd ⟨j, m, q1', q3⟩ L.cell
      · rw [List.getElem?_set_ne (fun q => e2 q.symm)] at q4
        exact r.dis j k a m m' q1' q2' q3 q4
/-- .. it becomes a long-lived one -/
theorem RepS.ob_loose (r : RepS K P S σ H) {p : Addr} {vs : List V} {l : List D} (L : Loose P S σ H p vs) (hl : RepL K P vs l) : RepS K (P.addW p) { S with w := S.w ++ [.lst l] } σ H := by
  have le := le_addW (P := P) p
  have back : ∀ {k : Nat} {a : Addr} {o : Wo}, (P.addW p).wa[k]? = some a → (S.w ++ [.lst l])[k]? = some o → (P.wa[k]? = some a ∧ S.w[k]? = some o) ∨ (k = S.w.length ∧ a = p ∧ o = .lst l) := fun {k a o} h1 h2 => by
    rcases get_snoc h1 with g1 | ⟨g1, e1⟩
    · rcases get_snoc h2 with g2 | ⟨g2, e2⟩
      · exact .inl ⟨g1, g2⟩
      · have := (List.getElem?_eq_some_iff.mp g1).1
        have := r.w.len
        omega
    · rcases get_snoc h2 with g2 | ⟨g2, e2⟩
      · have := (List.getElem?_eq_some_iff.mp g2).1
        have := r.w.len
        omega
      · exact .inr ⟨g2, e1, e2⟩
  have mu1 : ∀ {a : Addr}, MutW (P.addW p) (S.w ++ [.lst l]) a → MutW P S.w a ∨ a = p := fun {a} ⟨k, m, h1, h2⟩ => by
    rcases back h1 h2 with ⟨g1, g2⟩ | ⟨_, e, _⟩
    · exact .inl ⟨k, m, g1, g2⟩
    · exact .inr e
  refine ⟨{
    same := r.w.same
    len := by simp [Ph.addW, r.w.len]
    wo := fun k a o h1 h2 => by
      rcases back h1 h2 with ⟨g1, g2⟩ | ⟨_, e, e'⟩
      · exact (r.w.wo k a o g1 g2).mono le (Same.refl H)
      · subst e e'; exact ⟨vs, L.at_, hl.mono le⟩
    dis := fun j k a m m' h1 h2 h3 h4 => by
      rcases back h1 h3 with ⟨g1, g3⟩ | ⟨g1, e1, _⟩
      · rcases back h2 h4 with ⟨g2, g4⟩ | ⟨g2, e2, _⟩
        · exact r.w.dis j k a m m' g1 g2 g3 g4
        · subst e2; exact absurd ⟨j, m, g1, g3⟩ L.mu
      · rcases back h2 h4 with ⟨g2, g4⟩ | ⟨g2, e2, _⟩
        · subst e1; exact absurd ⟨k, m', g2, g4⟩ L.mu
        · rw [g1, g2]
    nhb := fun a m => by
      rcases mu1 m with q | q
      · exact r.w.nhb a q
      · rw [q]; exact L.hb
    frame := r.w.frame
    live := r.w.live
    wfree := fun a m => by
      rcases mu1 m with q | q
      · exact r.w.wfree a q
      · rw [q]; exact L.h0.symm }, r.len, fun i s h => ?_, r.dis⟩
  have q := r.sl i s h
  cases s with
  | un => trivial
  | val d => obtain ⟨v, h1, h2⟩ := q; exact ⟨v, h1, h2.mono le⟩
  | cell m =>
    obtain ⟨a, ws, h1, h2, h3, h4, h5, h7⟩ := q
    refine ⟨a, ws, h1, h2, h3.mono le, h4, h5, fun c => ?_⟩
    rcases mu1 c with z | z
    · exact h7 z
    · exact L.cell ⟨i, m, h, by rw [← z]; exact h1⟩
end
end Ms
set_option Elab.async false
set_option linter.all false
set_option maxRecDepth 100000
set_option maxHeartbeats 1000000
/-! MsB: data-level runs of expressions, tests, arguments; what a reading of the hand layer owes them (SemE, SemT, SemA). -/
namespace Ms
open PySem PySem.Spec PyProof.Rows L2
set_option autoImplicit false

abbrev Mx (α : Type) : Type := Sx → Option (α × Sx)
def mret {α : Type} (a : α) : Mx α := fun S => some (a, S)
def mfail {α : Type} : Mx α := fun _ => none
def mbind {α β : Type} (f : Mx α) (g : α → Mx β) : Mx β := fun S => match f S with
  | some (a, S') => g a S'
  | none => none
theorem mbind_some {α β : Type} {f : Mx α} {g : α → Mx β} {S S2 : Sx} {b : β} (h : mbind f g S = some (b, S2)) : ∃ a S1, f S = some (a, S1) ∧ g a S1 = some (b, S2) := by
  unfold mbind at h
  split at h
  · rename_i a S1 e
    exact ⟨a, S1, e, h⟩
  · cases h

def PostE (K : PySem.W.Frag) (P : Ph) (S' : Sx) (σ : Sg) (d : D) (Q : VK) : Prop :=
  ∀ (v : V) (H' : Hp) (P' : Ph), P.Le P' → RepS K P' S' σ H' → RepR K P' σ v d → Q v H'
def SemE (K : PySem.W.Frag) (t : TE) (f : Mx D) : Prop :=
  ∀ (S S' : Sx) (σ : Sg) (H : Hp) (P : Ph) (d : D), RepS K P S σ H → f S = some (d, S') → ∀ Q : VK, PostE K P S' σ d Q → t σ H Q
def PostT (K : PySem.W.Frag) (P : Ph) (S' : Sx) (σ : Sg) (b : Bool) (Q : Bool → Hp → Prop) : Prop :=
  ∀ (H' : Hp) (P' : Ph), P.Le P' → RepS K P' S' σ H' → Q b H'
def SemT (K : PySem.W.Frag) (t : TT) (f : Mx Bool) : Prop :=
  ∀ (S S' : Sx) (σ : Sg) (H : Hp) (P : Ph) (b : Bool), RepS K P S σ H → f S = some (b, S') → ∀ Q : Bool → Hp → Prop, PostT K P S' σ b Q → t σ H Q
/-- several values -/
inductive RepRL (K : PySem.W.Frag) (P : Ph) (σ : Sg) : List V → List D → Prop
  | nil : RepRL K P σ [] []
  | cons {v : V} {vs : List V} {d : D} {ds : List D} : RepR K P σ v d → RepRL K P σ vs ds → RepRL K P σ (v :: vs) (d :: ds)
def PostA (K : PySem.W.Frag) (P : Ph) (S' : Sx) (σ : Sg) (ds : List D) (Q : List V → Hp → Prop) : Prop :=
  ∀ (vs : List V) (H' : Hp) (P' : Ph), P.Le P' → RepS K P' S' σ H' → RepRL K P' σ vs ds → Q vs H'
def SemA (K : PySem.W.Frag) (t : TA) (f : Mx (List D)) : Prop :=
  ∀ (S S' : Sx) (σ : Sg) (H : Hp) (P : Ph) (ds : List D), RepS K P S σ H → f S = some (ds, S') → ∀ Q : List V → Hp → Prop, PostA K P S' σ ds Q → t σ H Q

section
variable {K : PySem.W.Frag} {P : Ph} {S : Sx} {σ : Sg} {H : Hp}
theorem RepRL.mono {P' : Ph} {σ : Sg} (e : P.Le P') : ∀ {vs : List V} {ds : List D}, RepRL K P σ vs ds → RepRL K P' σ vs ds
  | _, _, .nil => .nil
  | _, _, .cons r t => .cons (r.mono e) (RepRL.mono e t)
theorem PostE.now {d : D} {Q : VK} (h : PostE K P S σ d Q) {v : V} {H' : Hp} {P' : Ph} (le : P.Le P') (r : RepS K P' S σ H') (rv : RepR K P' σ v d) : Q v H' := h v H' P' le r rv
theorem PostT.now {b : Bool} {Q : Bool → Hp → Prop} (h : PostT K P S σ b Q) {H' : Hp} {P' : Ph} (le : P.Le P') (r : RepS K P' S σ H') : Q b H' := h H' P' le r
theorem PostA.now {ds : List D} {Q : List V → Hp → Prop} (h : PostA K P S σ ds Q) {vs : List V} {H' : Hp} {P' : Ph} (le : P.Le P') (r : RepS K P' S σ H') (rv : RepRL K P' σ vs ds) : Q vs H' := h vs H' P' le r rv
theorem PostE.later {S' : Sx} {d : D} {Q : VK} {P' : Ph} (h : PostE K P S' σ d Q) (le : P.Le P') : PostE K P' S' σ d Q := fun v H' P2 le2 r rv => h v H' P2 (le.trans le2) r rv
theorem PostT.later {S' : Sx} {b : Bool} {Q : Bool → Hp → Prop} {P' : Ph} (h : PostT K P S' σ b Q) (le : P.Le P') : PostT K P' S' σ b Q := fun H' P2 le2 r => h H' P2 (le.trans le2) r
theorem PostA.later {S' : Sx} {ds : List D} {Q : List V → Hp → Prop} {P' : Ph} (h : PostA K P S' σ ds Q) (le : P.Le P') : PostA K P' S' σ ds Q := fun v H' P2 le2 r rv => h v H' P2 (le.trans le2) r rv
end

/-! ### what a list or tuple holds -/
def lstC (S : Sx) : D → Option (List D)
  | .lst l => some l
  | .cr i => match S.env[i]? with
    | some (.cell l) => some l
    | _ => none
  | .ob k => match S.w[k]? with
    | some (.lst l) => some l
    | _ => none
  | _ => none
/-- .. or a list that is only read -/
def lstR (S : Sx) : D → Option (List D)
  | .rd l => some l
  | d => lstC S d
def seqC (S : Sx) : D → Option (List D)
  | .tup l => some l
  | d => lstR S d
/-- the list that can be changed gets another content -/
def putC (S : Sx) (l' : List D) : D → Option Sx
  | .cr i => match S.env[i]? with
    | some (.cell _) => some { S with env := S.env.set i (.cell l') }
    | _ => none
  | .ob k => match S.w[k]? with
    | some (.lst _) => some { S with w := S.w.set k (.lst l') }
    | _ => none
  | _ => none
section
variable {K : PySem.W.Frag} {P : Ph} {S : Sx} {σ : Sg} {H : Hp}
theorem lstC_sound (r : RepS K P S σ H) {v : V} {d : D} {l : List D} (rv : RepR K P σ v d) (h : lstC S d = some l) : ∃ a vs, v = .ref a ∧ H a = some (.lst vs) ∧ RepL K P vs l := by
  cases d with
  | lst m =>
    cases h
    cases (show Rep K P v (.lst l) from rv) with
    | lst h1 h2 => exact ⟨_, _, rfl, r.w.same _ _ h1, h2⟩
  | cr i =>
    have hv : σ[i]? = some (some v) := rv
    unfold lstC at h
    cases he : S.env[i]? with
    | none => simp [he] at h
    | some s =>
      cases s with
      | cell m =>
        simp [he] at h
        subst h
        obtain ⟨a, vs, h1, h2, h3, _⟩ := r.sl i _ he
        rw [hv] at h1
        have e : v = .ref a := by simpa using h1
        exact ⟨a, vs, e, h2, h3⟩
      | un => simp [he] at h
      | val d => simp [he] at h
  | ob k =>
    cases (show Rep K P v (.ob k) from rv) with
    | ob h1 =>
      unfold lstC at h
      cases he : S.w[k]? with
      | none => simp [he] at h
      | some s =>
        cases s with
        | lst m =>
          simp [he] at h
          subst h
          obtain ⟨vs, h2, h3⟩ := r.w.wo k _ _ h1 he
          exact ⟨_, vs, rfl, h2, h3⟩
  | _ => cases h
theorem lstR_sound (r : RepS K P S σ H) {v : V} {d : D} {l : List D} (rv : RepR K P σ v d) (h : lstR S d = some l) : ∃ a vs, v = .ref a ∧ SqL K H a vs ∧ RepL K P vs l := by
  have go : lstC S d = some l → ∃ a vs, v = .ref a ∧ SqL K H a vs ∧ RepL K P vs l := fun h => by
    obtain ⟨a, vs, e, h1, h2⟩ := lstC_sound r rv h
    exact ⟨a, vs, e, SqL.of h1, h2⟩
  cases d with
  | rd m =>
    cases h
    cases (show Rep K P v (.rd l) from rv) with
    | rd h1 h2 => exact ⟨_, _, rfl, r.w.same.seq h1, h2⟩
  | _ => exact go h
theorem tup_sound (r : RepS K P S σ H) {v : V} {l : List D} (rv : RepR K P σ v (.tup l)) : ∃ a vs, v = .ref a ∧ SqT K H a vs ∧ RepL K P vs l := by
  cases (show Rep K P v (.tup l) from rv) with
  | tup h1 h2 => exact ⟨_, _, rfl, sameT r.w.same h1, h2⟩
theorem seqC_sound (r : RepS K P S σ H) {v : V} {d : D} {l : List D} (rv : RepR K P σ v d) (h : seqC S d = some l) : ∃ a vs, v = .ref a ∧ (SqL K H a vs ∨ SqT K H a vs) ∧ RepL K P vs l := by
  cases d with
  | tup m =>
    cases h
    obtain ⟨a, vs, e, h1, h2⟩ := tup_sound r rv
    exact ⟨a, vs, e, .inr h1, h2⟩
  | _ =>
    obtain ⟨a, vs, e, h1, h2⟩ := lstR_sound r rv h
    exact ⟨a, vs, e, .inl h1, h2⟩
theorem putC_sound (r : RepS K P S σ H) {v : V} {d : D} {l' : List D} {S' : Sx} (rv : RepR K P σ v d) (h : putC S l' d = some S') :
    ∃ a vs l, v = .ref a ∧ H a = some (.lst vs) ∧ lstC S d = some l ∧ RepL K P vs l ∧ ∀ vs', RepL K P vs' l' → RepS K P S' σ (upd H a (.lst vs')) := by
  cases d with
  | cr i =>
    have hv : σ[i]? = some (some v) := rv
    unfold putC at h
    cases he : S.env[i]? with
    | none => simp [he] at h
    | some s =>
      cases s with
      | cell m =>
        simp [he] at h
        subst h
        obtain ⟨a, vs, h1, h2, h3, _⟩ := r.sl i _ he
        rw [hv] at h1
        have e : v = .ref a := by simpa using h1
        subst e
        exact ⟨a, vs, m, rfl, h2, by simp [lstC, he], h3, fun vs' rl => r.put_cell hv he rl⟩
      | un => simp [he] at h
      | val d => simp [he] at h
  | ob k =>
    cases (show Rep K P v (.ob k) from rv) with
    | ob h1 =>
      unfold putC at h
      cases he : S.w[k]? with
      | none => simp [he] at h
      | some s =>
        cases s with
        | lst m =>
          simp [he] at h
          subst h
          obtain ⟨vs, h2, h3⟩ := r.w.wo k _ _ h1 he
          exact ⟨_, vs, m, rfl, h2, by simp [lstC, he], h3, fun vs' rl => r.put_ob h1 he rl⟩
  | _ => cases h
end

/-! ### names, constants -/
def eVar (i : Nat) : Mx D := fun S => match S.env[i]? with
  | some (.val d) => some (d, S)
  | some (.cell _) => some (.cr i, S)
  | _ => none
/-- a name whose list is changed no more -/
def eFrz (i : Nat) : Mx D := fun S => match S.env[i]? with
  | some (.val d) => some (d, S)
  | some (.cell l) => some (.lst l, { S with env := S.env.set i (.val (.lst l)) })
  | _ => none
def eK (d : D) : Mx D := mret d
section
variable {K : PySem.W.Frag}
theorem sem_var {i : Nat} : SemE K (tVar i) (eVar i) := by
  intro S S' σ H P d r hf Q q
  unfold eVar at hf
  cases he : S.env[i]? with
  | none => simp [he] at hf
  | some s =>
    have sl := r.sl i s he
    cases s with
    | un => simp [he] at hf
    | val d' =>
      simp [he] at hf
      obtain ⟨rfl, rfl⟩ := hf
      obtain ⟨v, h1, h2⟩ := sl
      exact ⟨v, h1, q.now (Ph.Le.refl P) r h2.toR⟩
    | cell l =>
      simp [he] at hf
      obtain ⟨rfl, rfl⟩ := hf
      obtain ⟨a, vs, h1, _⟩ := sl
      exact ⟨.ref a, h1, q.now (Ph.Le.refl P) r h1⟩
theorem sem_frz {i : Nat} : SemE K (tVar i) (eFrz i) := by
  intro S S' σ H P d r hf Q q
  unfold eFrz at hf
  cases he : S.env[i]? with
  | none => simp [he] at hf
  | some s =>
    have sl := r.sl i s he
    cases s with
    | un => simp [he] at hf
    | val d' =>
      simp [he] at hf
      obtain ⟨rfl, rfl⟩ := hf
      obtain ⟨v, h1, h2⟩ := sl
      exact ⟨v, h1, q.now (Ph.Le.refl P) r h2.toR⟩
    | cell l =>
      simp [he] at hf
      obtain ⟨rfl, rfl⟩ := hf
      obtain ⟨a, vs, h1, _, le, r2, rv⟩ := r.freeze he
      exact ⟨.ref a, h1, q.now le r2 rv.toR⟩
theorem sem_k {v : V} {d : D} (h : ∀ P, Rep K P v d) : SemE K (tC v) (eK d) := by
  intro S S' σ H P d' r hf Q q
  cases hf
  exact q.now (Ph.Le.refl P) r (h P).toR
theorem sem_int {i : Int} : SemE K (tC (.int i)) (eK (.int i)) := sem_k fun _ => .int i
theorem sem_bl {b : Bool} : SemE K (tC (.bl b)) (eK (.bl b)) := sem_k fun _ => .bl b
theorem sem_non : SemE K (tC .non) (eK .non) := sem_k fun _ => .non
theorem sem_str {x : Str} : SemE K (tC (.str x)) (eK (.str x)) := sem_k fun _ => .str x

/-! ### operators by values -/
def e2 (g : D → D → Mx D) (a b : Mx D) : Mx D := mbind a fun x => mbind b fun y => g x y
def e1 (g : D → Mx D) (a : Mx D) : Mx D := mbind a g
def OpD (K : PySem.W.Frag) (r : R2) (g : D → D → Mx D) : Prop :=
  ∀ (S S' : Sx) (σ : Sg) (H : Hp) (P : Ph) (x y : V) (dx dy d : D), RepS K P S σ H → RepR K P σ x dx → RepR K P σ y dy → g dx dy S = some (d, S') → ∀ Q : VK, PostE K P S' σ d Q → r x y H Q
def UnD (K : PySem.W.Frag) (r : V → Hp → VK → Prop) (g : D → Mx D) : Prop :=
  ∀ (S S' : Sx) (σ : Sg) (H : Hp) (P : Ph) (x : V) (dx d : D), RepS K P S σ H → RepR K P σ x dx → g dx S = some (d, S') → ∀ Q : VK, PostE K P S' σ d Q → r x H Q
def CallD (K : PySem.W.Frag) (r : List V → Hp → VK → Prop) (g : List D → Mx D) : Prop :=
  ∀ (S S' : Sx) (σ : Sg) (H : Hp) (P : Ph) (xs : List V) (ds : List D) (d : D), RepS K P S σ H → RepRL K P σ xs ds → g ds S = some (d, S') → ∀ Q : VK, PostE K P S' σ d Q → r xs H Q
theorem sem_op {r : R2} {g : D → D → Mx D} {ta tb : TE} {fa fb : Mx D} (hg : OpD K r g) (ha : SemE K ta fa) (hb : SemE K tb fb) : SemE K (tOp r ta tb) (e2 g fa fb) := by
  intro S S' σ H P d r0 hf Q q
  obtain ⟨dx, S1, h1, hf⟩ := mbind_some hf
  obtain ⟨dy, S2, h2, hf⟩ := mbind_some hf
  refine ha S S1 σ H P dx r0 h1 _ fun x H1 P1 le1 r1 rx => ?_
  refine hb S1 S2 σ H1 P1 dy r1 h2 _ fun y H2 P2 le2 r2 ry => ?_
  exact hg S2 S' σ H2 P2 x y dx dy d r2 (rx.mono le2) ry hf Q ((q.later le1).later le2)
theorem sem_un {r : V → Hp → VK → Prop} {g : D → Mx D} {ta : TE} {fa : Mx D} (hg : UnD K r g) (ha : SemE K ta fa) : SemE K (tUn r ta) (e1 g fa) := by
  intro S S' σ H P d r0 hf Q q
  obtain ⟨dx, S1, h1, hf⟩ := mbind_some hf
  refine ha S S1 σ H P dx r0 h1 _ fun x H1 P1 le1 r1 rx => ?_
  exact hg S1 S' σ H1 P1 x dx d r1 rx hf Q (q.later le1)
/-! ### arguments -/
def aNil : Mx (List D) := mret []
def aCons (a : Mx D) (as : Mx (List D)) : Mx (List D) := mbind a fun x => mbind as fun xs => mret (x :: xs)
theorem sem_anil : SemA K tNil aNil := by
  intro S S' σ H P ds r hf Q q
  cases hf
  exact q.now (Ph.Le.refl P) r .nil
theorem sem_acons {te : TE} {t : TA} {fe : Mx D} {f : Mx (List D)} (he : SemE K te fe) (h : SemA K t f) : SemA K (tCons te t) (aCons fe f) := by
  intro S S' σ H P ds r hf Q q
  obtain ⟨dx, S1, h1, hf⟩ := mbind_some hf
  obtain ⟨dxs, S2, h2, hf⟩ := mbind_some hf
  cases hf
  refine he S S1 σ H P dx r h1 _ fun x H1 P1 le1 r1 rx => ?_
  refine h S1 _ σ H1 P1 dxs r1 h2 _ fun xs H2 P2 le2 r2 rxs => ?_
  exact ((q.later le1).later le2).now (Ph.Le.refl P2) r2 (.cons (rx.mono le2) rxs)
def eC (g : List D → Mx D) (as : Mx (List D)) : Mx D := mbind as g
theorem sem_c {r : List V → Hp → VK → Prop} {g : List D → Mx D} {t : TA} {f : Mx (List D)} (hg : CallD K r g) (h : SemA K t f) : SemE K (tCB r t) (eC g f) := by
  intro S S' σ H P d r0 hf Q q
  obtain ⟨dx, S1, h1, hf⟩ := mbind_some hf
  refine h S S1 σ H P dx r0 h1 _ fun x H1 P1 le1 r1 rx => ?_
  exact hg S1 S' σ H1 P1 x dx d r1 rx hf Q (q.later le1)
/-- no value here is a slot's own list -/
def plainL : List D → Bool
  | [] => true
  | d :: ds => !d.isCr && plainL ds
theorem RepRL.plain {P : Ph} {σ : Sg} : ∀ {vs : List V} {ds : List D}, RepRL K P σ vs ds → plainL ds = true → RepL K P vs ds
  | _, _, .nil, _ => .nil
  | _, _, .cons r t, h => by
    simp only [plainL, Bool.and_eq_true, Bool.not_eq_true'] at h
    exact .cons (r.rep h.1) (RepRL.plain t h.2)
theorem RepRL.length {P : Ph} {σ : Sg} : ∀ {vs : List V} {ds : List D}, RepRL K P σ vs ds → vs.length = ds.length
  | _, _, .nil => rfl
  | _, _, .cons _ t => by simp [RepRL.length t]
/-! ### displays -/
def mostL : Nat := 1000000
theorem le_line {k : Nat} (h : k ≤ mostL) : k ≤ sizeLine := Nat.le_trans h (by decide)
/-- (a, b, ..) -/
def mkTup (ds : List D) : Mx D := fun S => if plainL ds = true ∧ ds.length ≤ mostL then some (.tup ds, S) else none
theorem tup_new {P : Ph} {S : Sx} {σ : Sg} {H : Hp} (r : RepS K P S σ H) {vs : List V} {ds : List D} (h : RepL K P vs ds) {p : Addr} (hp : H p = none) : P.Le (P.add p (.tup vs)) ∧ RepS K (P.add p (.tup vs)) S σ (upd H p (.tup vs)) ∧ Rep K (P.add p (.tup vs)) (.ref p) (.tup ds) :=
  ⟨r.le_alloc hp, r.alloc hp, .tup (.inl (.inl (show upd P.hb p _ p = _ from upd_same))) (h.mono (r.le_alloc hp))⟩
theorem lst_new {P : Ph} {S : Sx} {σ : Sg} {H : Hp} (r : RepS K P S σ H) {vs : List V} {ds : List D} (h : RepL K P vs ds) {p : Addr} (hp : H p = none) : P.Le (P.add p (.lst vs)) ∧ RepS K (P.add p (.lst vs)) S σ (upd H p (.lst vs)) ∧ Rep K (P.add p (.lst vs)) (.ref p) (.lst ds) :=
  ⟨r.le_alloc hp, r.alloc hp, .lst (show upd P.hb p _ p = _ from upd_same) (h.mono (r.le_alloc hp))⟩
theorem RepS.len' {P : Ph} {S : Sx} {σ : Sg} {H : Hp} (r : RepS K P S σ H) : S.env.length = σ.length := r.len
/-- what a reading that makes a list anywhere owes -/
def NewQ (xs : List V) (H : Hp) (Q : VK) : Prop := ∀ p, H p = none → Q (.ref p) (upd H p (.lst xs))
/-- an expression that makes a new list: its content -/
def PostN (K : PySem.W.Frag) (P : Ph) (S' : Sx) (σ : Sg) (ds : List D) (Q : VK) : Prop :=
  ∀ (p : Addr) (vs : List V) (H' : Hp) (P' : Ph), P.Le P' → RepS K P' S' σ H' → Loose P' S' σ H' p vs → RepL K P' vs ds → Q (.ref p) H'
def SemN (K : PySem.W.Frag) (t : TE) (f : Mx (List D)) : Prop :=
  ∀ (S S' : Sx) (σ : Sg) (H : Hp) (P : Ph) (ds : List D), RepS K P S σ H → f S = some (ds, S') → ∀ Q : VK, PostN K P S' σ ds Q → t σ H Q
theorem PostN.later {P P' : Ph} {S' : Sx} {σ : Sg} {ds : List D} {Q : VK} (h : PostN K P S' σ ds Q) (le : P.Le P') : PostN K P' S' σ ds Q := fun p vs H' P2 le2 r L rv => h p vs H' P2 (le.trans le2) r L rv
theorem PostN.new {P : Ph} {S' : Sx} {σ : Sg} {ds : List D} {Q : VK} (h : PostN K P S' σ ds Q) {vs : List V} {H' : Hp} {P' : Ph} (le : P.Le P') (r : RepS K P' S' σ H') (rl : RepL K P' vs ds) : NewQ vs H' Q := fun p hp => by
  obtain ⟨r2, L⟩ := r.new_loose (vs := vs) hp
  exact h p vs _ P' le r2 L rl
/-- the new list is never changed -/
def eLst (f : Mx (List D)) : Mx D := mbind f fun ds => mret (.lst ds)
/-- the new list lives long -/
def eOb (f : Mx (List D)) : Mx D := mbind f fun ds S => some (.ob S.w.length, { S with w := S.w ++ [.lst ds] })
theorem frz_new {P : Ph} {S' : Sx} {σ : Sg} {ds : List D} {Q : VK} (q : PostE K P S' σ (.lst ds) Q) : PostN K P S' σ ds Q := fun p vs H1 P1 le1 r1 L rl => by
  obtain ⟨le, r2⟩ := r1.freeze_loose L
  exact (q.later le1).now le r2 (Rep.toR (.lst (show upd P1.hb p _ p = _ from upd_same) (rl.mono le)))
theorem sem_eLst {t : TE} {f : Mx (List D)} (h : SemN K t f) : SemE K t (eLst f) := by
  intro S S' σ H P d r hf Q q
  obtain ⟨ds, S1, h1, hf⟩ := mbind_some hf
  cases hf
  exact h S _ σ H P ds r h1 Q (frz_new q)
theorem sem_eOb {t : TE} {f : Mx (List D)} (h : SemN K t f) : SemE K t (eOb f) := by
  intro S S' σ H P d r hf Q q
  obtain ⟨ds, S1, h1, hf⟩ := mbind_some hf
  cases hf
  refine h S _ σ H P ds r h1 Q fun p vs H1 P1 le1 r1 L rl => ?_
  refine (q.later le1).now (le_addW p) (r1.ob_loose L rl) (Rep.toR (.ob ?_))
  show (P1.wa ++ [p])[S1.w.length]? = some p
  rw [← r1.w.len, List.getElem?_append_right (Nat.le_refl _)]
  simp
theorem sem_tup {t : TA} {f : Mx (List D)} (h : SemA K t f) : SemE K (tTup t) (eC mkTup f) := by
  intro S S' σ H P d r0 hf Q q
  obtain ⟨ds, S1, h1, hf⟩ := mbind_some hf
  unfold mkTup at hf
  split at hf
  · rename_i hc
    cases hf
    refine h S _ σ H P ds r0 h1 _ fun vs H1 P1 le1 r1 rx => ⟨?_, fun p hp => ?_⟩
    · rw [rx.length]; exact le_line hc.2
    · obtain ⟨le, r2, rv⟩ := tup_new r1 (rx.plain hc.1) hp
      exact (q.later le1).now le r2 rv.toR
  · cases hf
def nLst (f : Mx (List D)) : Mx (List D) := mbind f fun ds S => if plainL ds = true ∧ ds.length ≤ mostL then some (ds, S) else none
theorem sem_lst {t : TA} {f : Mx (List D)} (h : SemA K t f) : SemN K (tLst t) (nLst f) := by
  intro S S' σ H P d r0 hf Q q
  obtain ⟨ds, S1, h1, hf⟩ := mbind_some hf
  split at hf
  · rename_i hc
    cases hf
    refine h S _ σ H P _ r0 h1 _ fun vs H1 P1 le1 r1 rx => ⟨?_, q.new le1 r1 (rx.plain hc.1)⟩
    rw [rx.length]; exact le_line hc.2
  · cases hf
end

/-! ### tests -/
section
variable {K : PySem.W.Frag}
def cVal (f : Mx D) : Mx Bool := mbind f fun d S => match d with
  | .bl b => some (b, S)
  | _ => none
theorem cVal_some {f : Mx D} {S S' : Sx} {b : Bool} (h : cVal f S = some (b, S')) : f S = some (.bl b, S') := by
  obtain ⟨d, S1, h1, h2⟩ := mbind_some h
  cases d with
  | bl c => cases h2; exact h1
  | _ => cases h2
theorem rep_bl {P : Ph} {σ : Sg} {v : V} {b : Bool} (r : RepR K P σ v (.bl b)) : v = .bl b := by
  cases (show Rep K P v (.bl b) from r); rfl
theorem rep_int {P : Ph} {σ : Sg} {v : V} {i : Int} (r : RepR K P σ v (.int i)) : v = .int i := by
  cases (show Rep K P v (.int i) from r); rfl
theorem rep_str {P : Ph} {σ : Sg} {v : V} {i : Str} (r : RepR K P σ v (.str i)) : v = .str i := by
  cases (show Rep K P v (.str i) from r); rfl
theorem rep_non {P : Ph} {σ : Sg} {v : V} (r : RepR K P σ v .non) : v = .non := by
  cases (show Rep K P v .non from r); rfl
theorem sem_cval {t : TE} {f : Mx D} (h : SemE K t f) : SemT K (tB t) (cVal f) := by
  intro S S' σ H P b r0 hf Q q
  refine h S S' σ H P (.bl b) r0 (cVal_some hf) _ fun v H1 P1 le1 r1 rx => ⟨b, rep_bl rx, q H1 P1 le1 r1⟩
theorem sem_test {t : TE} {f : Mx D} (h : SemE K t f) : SemT K (tTest t) (cVal f) := by
  intro S S' σ H P b r0 hf Q q
  refine h S S' σ H P (.bl b) r0 (cVal_some hf) _ fun v H1 P1 le1 r1 rx => ⟨b, rep_bl rx, q H1 P1 le1 r1⟩
def cAnd (f g : Mx Bool) : Mx Bool := mbind f fun b => if b = true then g else mret false
def cOr (f g : Mx Bool) : Mx Bool := mbind f fun b => if b = true then mret true else g
def cNot (f : Mx Bool) : Mx Bool := mbind f fun b => mret (!b)
theorem sem_cand {t u : TT} {f g : Mx Bool} (h1 : SemT K t f) (h2 : SemT K u g) : SemT K (tAnd t u) (cAnd f g) := by
  intro S S' σ H P b r0 hf Q q
  obtain ⟨c, S1, e1, hf⟩ := mbind_some hf
  refine h1 S S1 σ H P c r0 e1 _ fun H1 P1 le1 r1 => ?_
  cases c with
  | true => exact h2 S1 S' σ H1 P1 b r1 hf Q (q.later le1)
  | false => cases hf; exact q H1 P1 le1 r1
theorem sem_cor {t u : TT} {f g : Mx Bool} (h1 : SemT K t f) (h2 : SemT K u g) : SemT K (tOr t u) (cOr f g) := by
  intro S S' σ H P b r0 hf Q q
  obtain ⟨c, S1, e1, hf⟩ := mbind_some hf
  refine h1 S S1 σ H P c r0 e1 _ fun H1 P1 le1 r1 => ?_
  cases c with
  | false => exact h2 S1 S' σ H1 P1 b r1 hf Q (q.later le1)
  | true => cases hf; exact q H1 P1 le1 r1
theorem sem_cnot {t : TT} {f : Mx Bool} (h1 : SemT K t f) : SemT K (tNot t) (cNot f) := by
  intro S S' σ H P b r0 hf Q q
  obtain ⟨c, S1, e1, hf⟩ := mbind_some hf
  cases hf
  exact h1 S _ σ H P c r0 e1 _ fun H1 P1 le1 r1 => q H1 P1 le1 r1
/-- a test's answer as a value -/
def eIf (c : Mx Bool) (a b : Mx D) : Mx D := mbind c fun k => if k = true then a else b
theorem sem_if {c : TT} {ta tb : TE} {fc : Mx Bool} {fa fb : Mx D} (hc : SemT K c fc) (ha : SemE K ta fa) (hb : SemE K tb fb) : SemE K (tIf c ta tb) (eIf fc fa fb) := by
  intro S S' σ H P d r0 hf Q q
  obtain ⟨k, S1, e1, hf⟩ := mbind_some hf
  refine hc S S1 σ H P k r0 e1 _ fun H1 P1 le1 r1 => ?_
  cases k with
  | true => exact ha S1 S' σ H1 P1 d r1 hf Q (q.later le1)
  | false => exact hb S1 S' σ H1 P1 d r1 hf Q (q.later le1)
/-- and, or, not as values, of bools -/
def eAnd (a b : Mx D) : Mx D := mbind (cVal a) fun k => if k = true then b else mret (.bl false)
def eOr (a b : Mx D) : Mx D := mbind (cVal a) fun k => if k = true then mret (.bl true) else b
def eNot (a : Mx D) : Mx D := mbind (cVal a) fun k => mret (.bl (!k))
theorem sem_eand {ta tb : TE} {fa fb : Mx D} (ha : SemE K ta fa) (hb : SemE K tb fb) : SemE K (tAndV ta tb) (eAnd fa fb) := by
  intro S S' σ H P d r0 hf Q q
  obtain ⟨k, S1, e1, hf⟩ := mbind_some hf
  refine ha S S1 σ H P _ r0 (cVal_some e1) _ fun v H1 P1 le1 r1 rx => ⟨k, rep_bl rx, ?_⟩
  cases k with
  | true => exact hb S1 S' σ H1 P1 d r1 hf Q (q.later le1)
  | false => cases hf; exact (q.later le1).now (Ph.Le.refl P1) r1 (Rep.toR (.bl false))
theorem sem_eor {ta tb : TE} {fa fb : Mx D} (ha : SemE K ta fa) (hb : SemE K tb fb) : SemE K (tOrV ta tb) (eOr fa fb) := by
  intro S S' σ H P d r0 hf Q q
  obtain ⟨k, S1, e1, hf⟩ := mbind_some hf
  refine ha S S1 σ H P _ r0 (cVal_some e1) _ fun v H1 P1 le1 r1 rx => ⟨k, rep_bl rx, ?_⟩
  cases k with
  | false => exact hb S1 S' σ H1 P1 d r1 hf Q (q.later le1)
  | true => cases hf; exact (q.later le1).now (Ph.Le.refl P1) r1 (Rep.toR (.bl true))
theorem sem_enot {ta : TE} {fa : Mx D} (ha : SemE K ta fa) : SemE K (tNotV ta) (eNot fa) := by
  intro S S' σ H P d r0 hf Q q
  obtain ⟨k, S1, e1, hf⟩ := mbind_some hf
  cases hf
  refine ha S _ σ H P _ r0 (cVal_some e1) _ fun v H1 P1 le1 r1 rx => ⟨k, rep_bl rx, ?_⟩
  exact (q.later le1).now (Ph.Le.refl P1) r1 (Rep.toR (.bl (!k)))
/-- by truth -/
def truD (S : Sx) : D → Option Bool
  | .non => some false
  | .bl b => some b
  | .int i => some (i != 0)
  | .str x => if x.length ≤ mostL then some (x.length != 0) else none
  | d => match seqC S d with
    | some l => some (!l.isEmpty)
    | none => none
def cTru (f : Mx D) : Mx Bool := mbind f fun d S => match truD S d with
  | some b => some (b, S)
  | none => none
end
end Ms
set_option Elab.async false
set_option linter.all false
set_option maxRecDepth 100000
set_option maxHeartbeats 1000000
/-! MsC: operators, comparisons, subscripts, slices, calls of built-ins, methods of lists: at the data level, and sound. -/
namespace Ms
open PySem PySem.Spec PyProof.Rows L2
set_option autoImplicit false

/-! ### whole numbers -/
def iop (g : Int → Int → Int) (x y : D) : Mx D := fun S => match x, y with
  | .int i, .int j => some (.int (g i j), S)
  | _, _ => none
def iopC (c : Int → Int → Bool) (g : Int → Int → Int) (x y : D) : Mx D := fun S => match x, y with
  | .int i, .int j => if c i j = true then some (.int (g i j), S) else none
  | _, _ => none
def icmp (p : Int → Int → Bool) (x y : D) : Mx D := fun S => match x, y with
  | .int i, .int j => some (.bl (p i j), S)
  | _, _ => none
theorem iop_some {g : Int → Int → Int} {x y d : D} {S S' : Sx} (h : iop g x y S = some (d, S')) : ∃ i j, x = .int i ∧ y = .int j ∧ d = .int (g i j) ∧ S' = S := by
  unfold iop at h
  split at h
  · cases h; exact ⟨_, _, rfl, rfl, rfl, rfl⟩
  · cases h
theorem iopC_some {c : Int → Int → Bool} {g : Int → Int → Int} {x y d : D} {S S' : Sx} (h : iopC c g x y S = some (d, S')) : ∃ i j, x = .int i ∧ y = .int j ∧ c i j = true ∧ d = .int (g i j) ∧ S' = S := by
  unfold iopC at h
  split at h
  · split at h
    · cases h; exact ⟨_, _, rfl, rfl, by assumption, rfl, rfl⟩
    · cases h
  · cases h
theorem icmp_some {p : Int → Int → Bool} {x y d : D} {S S' : Sx} (h : icmp p x y S = some (d, S')) : ∃ i j, x = .int i ∧ y = .int j ∧ d = .bl (p i j) ∧ S' = S := by
  unfold icmp at h
  split at h
  · cases h; exact ⟨_, _, rfl, rfl, rfl, rfl⟩
  · cases h
section
variable {K : PySem.W.Frag}
theorem opd_i {g : Int → Int → Int} : OpD K (rI0 fun i j => .int (g i j)) (iop g) := by
  intro S S' σ H P x y dx dy d r rx ry hf Q q
  obtain ⟨i, j, rfl, rfl, rfl, rfl⟩ := iop_some hf
  exact ⟨i, j, rep_int rx, rep_int ry, q.now (Ph.Le.refl P) r (Rep.toR (.int _))⟩
theorem opd_ic {C : Int → Int → Prop} {c : Int → Int → Bool} {g g' : Int → Int → Int} (hc : ∀ i j, c i j = true → C i j ∧ g i j = g' i j) : OpD K (rI C fun i j => .int (g' i j)) (iopC c g) := by
  intro S S' σ H P x y dx dy d r rx ry hf Q q
  obtain ⟨i, j, rfl, rfl, h, rfl, rfl⟩ := iopC_some hf
  refine ⟨i, j, rep_int rx, rep_int ry, (hc i j h).1, ?_⟩
  have e := (hc i j h).2
  show Q (V.int (g' i j)) H
  rw [← e]
  exact q.now (Ph.Le.refl P) r (Rep.toR (.int _))
theorem opd_cmp {p : Int → Int → Bool} : OpD K (rI0 fun i j => .bl (p i j)) (icmp p) := by
  intro S S' σ H P x y dx dy d r rx ry hf Q q
  obtain ⟨i, j, rfl, rfl, rfl, rfl⟩ := icmp_some hf
  exact ⟨i, j, rep_int rx, rep_int ry, q.now (Ph.Le.refl P) r (Rep.toR (.bl _))⟩
def big64 : Int := 18446744073709551616
def cMul (i j : Int) : Bool := (decide (-big64 < i) && decide (i < big64)) || (decide (-big64 < j) && decide (j < big64))
def cDiv (i j : Int) : Bool := decide (0 < j) && decide (j < 1073741824)
def cMod (i j : Int) : Bool := decide (0 < j)
abbrev dSub := iop fun i j => i - j
abbrev dMulI := iopC cMul fun i j => i * j
abbrev dDiv := iopC cDiv fun i j => i / j
abbrev dMod := iopC cMod fun i j => i % j
abbrev dLt := icmp fun i j => decide (i < j)
abbrev dLe := icmp fun i j => decide (i ≤ j)
abbrev dGt := icmp fun i j => decide (j < i)
abbrev dGe := icmp fun i j => decide (j ≤ i)
theorem opd_sub : OpD K (rI0 fun i j => .int (i - j)) dSub := opd_i
theorem opd_mulI : OpD K (rI CMul fun i j => .int (i * j)) dMulI := opd_ic fun i j h => ⟨by
  unfold cMul big64 at h
  simp only [Bool.or_eq_true, Bool.and_eq_true, decide_eq_true_eq] at h
  unfold CMul
  omega, rfl⟩
theorem opd_div : OpD K (rI CDiv fun i j => .int (i / j)) dDiv := opd_ic fun i j h => ⟨by
  unfold cDiv at h
  simp only [Bool.and_eq_true, decide_eq_true_eq] at h
  exact h, rfl⟩
theorem opd_mod : OpD K (rI (fun _ j => 0 < j) fun i j => .int (i % j)) dMod := opd_ic fun i j h => ⟨of_decide_eq_true h, rfl⟩
theorem opd_lt : OpD K (rI0 fun i j => .bl (decide (i < j))) dLt := opd_cmp
theorem opd_le : OpD K (rI0 fun i j => .bl (decide (i ≤ j))) dLe := opd_cmp
theorem opd_gt : OpD K (rI0 fun i j => .bl (decide (j < i))) dGt := opd_cmp
theorem opd_ge : OpD K (rI0 fun i j => .bl (decide (j ≤ i))) dGe := opd_cmp
def uNeg (x : D) : Mx D := fun S => match x with
  | .int i => some (.int (-i), S)
  | _ => none
theorem und_neg : UnD K (rU fun i => .int (-i)) uNeg := by
  intro S S' σ H P x dx d r rx hf Q q
  unfold uNeg at hf
  split at hf
  · cases hf
    exact ⟨_, rep_int rx, q.now (Ph.Le.refl P) r (Rep.toR (.int _))⟩
  · cases hf

/-! ### + of numbers, texts, lists, tuples -/
def rAddA (K : PySem.W.Frag) : R2 := fun x y H Q => rI0 (fun i j => .int (i + j)) x y H Q ∨ (∃ i j, x = .str i ∧ y = .str j ∧ i.length + j.length ≤ sizeLine ∧ Q (.str (i ++ j)) H) ∨ rCat x y H Q ∨ rCatA K x y H Q
theorem op_addA {X : Cx} : OpR X (binaryOp .Add) (rAddA X.K) := op_add.or (op_add_str.or (op_cat.or op_catA))
def dAdd (x y : D) : Mx D := fun S => match x, y with
  | .int i, .int j => some (.int (i + j), S)
  | .str a, .str b => if a.length + b.length ≤ mostL then some (.str (a ++ b), S) else none
  | .tup a, .tup b => if a.length + b.length ≤ mostL then some (.tup (a ++ b), S) else none
  | x, y => match lstC S x, lstC S y with
    | some a, some b => if a.length + b.length ≤ mostL then some (.lst (a ++ b), S) else none
    | _, _ => none
def dCat (x y : D) : Mx (List D) := fun S => match lstC S x, lstC S y with
  | some a, some b => if a.length + b.length ≤ mostL then some (a ++ b, S) else none
  | _, _ => none
/-- two values make a new list -/
def OpN (K : PySem.W.Frag) (r : R2) (g : D → D → Mx (List D)) : Prop :=
  ∀ (S S' : Sx) (σ : Sg) (H : Hp) (P : Ph) (x y : V) (dx dy : D) (ds : List D), RepS K P S σ H → RepR K P σ x dx → RepR K P σ y dy → g dx dy S = some (ds, S') → ∀ Q : VK, PostN K P S' σ ds Q → r x y H Q
def n2 (g : D → D → Mx (List D)) (a b : Mx D) : Mx (List D) := mbind a fun x => mbind b fun y => g x y
def n1 (g : D → Mx (List D)) (a : Mx D) : Mx (List D) := mbind a g
theorem sem_opN {r : R2} {g : D → D → Mx (List D)} {ta tb : TE} {fa fb : Mx D} (hg : OpN K r g) (ha : SemE K ta fa) (hb : SemE K tb fb) : SemN K (tOp r ta tb) (n2 g fa fb) := by
  intro S S' σ H P d r0 hf Q q
  obtain ⟨dx, S1, h1, hf⟩ := mbind_some hf
  obtain ⟨dy, S2, h2, hf⟩ := mbind_some hf
  refine ha S S1 σ H P dx r0 h1 _ fun x H1 P1 le1 r1 rx => ?_
  refine hb S1 S2 σ H1 P1 dy r1 h2 _ fun y H2 P2 le2 r2 ry => ?_
  exact hg S2 S' σ H2 P2 x y dx dy d r2 (rx.mono le2) ry hf Q ((q.later le1).later le2)
theorem rep_tup {P : Ph} {σ : Sg} {v : V} {l : List D} (r : RepR K P σ v (.tup l)) : ∃ a vs, v = .ref a ∧ SqT K P.hb a vs ∧ RepL K P vs l := by
  cases (show Rep K P v (.tup l) from r) with
  | tup h1 h2 => exact ⟨_, _, rfl, h1, h2⟩
theorem opn_cat : OpN K rCat dCat := by
  intro S S' σ H P x y dx dy ds r rx ry hf Q q
  unfold dCat at hf
  split at hf
  · rename_i a b ha hb
    split at hf
    · rename_i hz
      cases hf
      obtain ⟨l, vs, e1, h1, r1⟩ := lstC_sound r rx ha
      obtain ⟨l', ws, e2, h2, r2⟩ := lstC_sound r ry hb
      exact ⟨l, l', vs, ws, e1, e2, h1, h2, by rw [r1.length, r2.length]; exact le_line hz, q.new (Ph.Le.refl P) r (r1.append r2)⟩
    · cases hf
  · cases hf
theorem opn_catA : OpN K (rAddA K) dCat := by
  intro S S' σ H P x y dx dy ds r rx ry hf Q q
  exact .inr (.inr (.inl (opn_cat S S' σ H P x y dx dy ds r rx ry hf Q q)))
theorem opd_add : OpD K (rAddA K) dAdd := by
  intro S S' σ H P x y dx dy d r rx ry hf Q q
  unfold dAdd at hf
  split at hf
  · cases hf
    exact .inl ⟨_, _, rep_int rx, rep_int ry, q.now (Ph.Le.refl P) r (Rep.toR (.int _))⟩
  · split at hf
    · rename_i hz
      cases hf
      exact .inr (.inl ⟨_, _, rep_str rx, rep_str ry, le_line hz, q.now (Ph.Le.refl P) r (Rep.toR (.str _))⟩)
    · cases hf
  · split at hf
    · rename_i l l' hz
      cases hf
      obtain ⟨a, vs, e1, h1, r1⟩ := rep_tup rx
      obtain ⟨b, ws, e2, h2, r2⟩ := rep_tup ry
      refine .inr (.inr (.inr ⟨a, b, vs, ws, e1, e2, sameT r.w.same h1, sameT r.w.same h2, by rw [r1.length, r2.length]; exact le_line hz, fun e => ?_, fun e e' => ?_, fun _ _ p hp => ?_⟩))
      · subst e; cases r1; subst e2
        exact q.now (Ph.Le.refl P) r (Rep.toR (.tup h2 r2))
      · subst e'; cases r2; subst e1
        exact q.now (Ph.Le.refl P) r (Rep.toR (.tup h1 (by rw [List.append_nil]; exact r1)))
      · obtain ⟨le, r3, rv⟩ := tup_new r (r1.append r2) hp
        exact q.now le r3 rv.toR
    · cases hf
  · split at hf
    · split at hf
      · cases hf
        refine opn_catA S _ σ H P x y _ _ _ r rx ry ?_ Q (frz_new q)
        unfold dCat
        rename_i h1 h2 h3
        rw [h1, h2]
        dsimp only
        rw [if_pos h3]
      · cases hf
    · cases hf
/-! ### * -/
def rMulA (K : PySem.W.Frag) : R2 := fun x y H Q => rI CMul (fun i j => .int (i * j)) x y H Q ∨ rRep x y H Q
theorem op_mulA {X : Cx} : OpR X (binaryOp .Mult) (rMulA X.K) := op_mul.or op_rep
def dRep (x y : D) : Mx (List D) := fun S => match y with
  | .int k => match lstC S x with
    | some a => if -1000000 ≤ k ∧ k ≤ 1000000 ∧ a.length * k.toNat ≤ mostL then some ((List.replicate k.toNat a).flatten, S) else none
    | none => none
  | _ => none
theorem opn_rep : OpN K (rMulA K) dRep := by
  intro S S' σ H P x y dx dy ds r rx ry hf Q q
  unfold dRep at hf
  split at hf
  · split at hf
    · rename_i a ha
      split at hf
      · rename_i hz
        cases hf
        obtain ⟨l, vs, e1, h1, r1⟩ := lstC_sound r rx ha
        exact .inr ⟨l, _, vs, e1, rep_int ry, h1, by omega, by omega, by rw [r1.length]; exact le_line hz.2.2, q.new (Ph.Le.refl P) r (r1.rep _)⟩
      · cases hf
    · cases hf
  · cases hf
theorem opd_mul : OpD K (rMulA K) dMulI := by
  intro S S' σ H P x y dx dy d r rx ry hf Q q
  exact .inl (opd_mulI S S' σ H P x y dx dy d r rx ry hf Q q)

/-! ### data that can be compared -/
mutual
def toPy : D → Option PyData
  | .non => some .none
  | .bl b => some (.bool b)
  | .int i => some (.int i)
  | .str x => some (.str x)
  | .tup l => match toPyL l with
    | some ps => some (.tuple ps)
    | none => none
  | .lst l => match toPyL l with
    | some ps => some (.list ps)
    | none => none
  | .rd l => match toPyL l with
    | some ps => some (.list ps)
    | none => none
  | .ob _ => none
  | .cr _ => none
def toPyL : List D → Option (List PyData)
  | [] => some []
  | d :: ds => match toPy d, toPyL ds with
    | some p, some ps => some (p :: ps)
    | _, _ => none
end
/-- a list's own content told at the top -/
def look (S : Sx) : D → D
  | .cr i => match lstR S (.cr i) with
    | some l => .lst l
    | none => .cr i
  | .ob k => match lstR S (.ob k) with
    | some l => .lst l
    | none => .ob k
  | d => d
mutual
theorem toPy_dp {P : Ph} {H : Hp} (sm : Same P.hb H) : ∀ (d : D) (v : V) (p : PyData), Rep K P v d → toPy d = some p → Dp K H v p
  | .non, _, _, r, h => by cases r; cases h; exact .non
  | .bl _, _, _, r, h => by cases r; cases h; exact .bl _
  | .int _, _, _, r, h => by cases r; cases h; exact .int _
  | .str _, _, _, r, h => by cases r; cases h; exact .str _
  | .tup l, _, _, r, h => by
    cases r with
    | tup h1 h2 =>
      unfold toPy at h
      split at h
      · cases h; exact .tup (sameT sm h1) (toPyL_dp sm l _ _ h2 (by assumption))
      · cases h
  | .lst l, _, _, r, h => by
    cases r with
    | lst h1 h2 =>
      unfold toPy at h
      split at h
      · cases h; exact .lst (SqL.of (sm _ _ h1)) (toPyL_dp sm l _ _ h2 (by assumption))
      · cases h
  | .rd l, _, _, r, h => by
    cases r with
    | rd h1 h2 =>
      unfold toPy at h
      split at h
      · cases h; exact .lst (sm.seq h1) (toPyL_dp sm l _ _ h2 (by assumption))
      · cases h
  | .ob _, _, _, _, h => by simp [toPy] at h
  | .cr _, _, _, _, h => by simp [toPy] at h
theorem toPyL_dp {P : Ph} {H : Hp} (sm : Same P.hb H) : ∀ (ds : List D) (vs : List V) (ps : List PyData), RepL K P vs ds → toPyL ds = some ps → DpAll K H vs ps
  | [], _, _, r, h => by cases r; cases h; exact .nil
  | d :: ds, _, _, r, h => by
    cases r with
    | cons h1 h2 =>
      unfold toPyL at h
      split at h
      · cases h; exact .cons (toPy_dp sm d _ _ h1 (by assumption)) (toPyL_dp sm ds _ _ h2 (by assumption))
      · cases h
end
theorem look_dp {P : Ph} {S : Sx} {σ : Sg} {H : Hp} (r : RepS K P S σ H) {v : V} {d : D} {p : PyData} (rv : RepR K P σ v d) (h : toPy (look S d) = some p) : Dp K H v p := by
  have lists : ∀ l, lstR S d = some l → toPy (.lst l) = some p → Dp K H v p := fun l hl ht => by
    obtain ⟨a, vs, rfl, h1, h2⟩ := lstR_sound r rv hl
    unfold toPy at ht
    split at ht
    · cases ht; exact .lst h1 (toPyL_dp r.w.same l _ _ h2 (by assumption))
    · cases ht
  cases d with
  | cr i =>
    have h' : toPy (match lstR S (.cr i) with
      | some l => .lst l
      | none => .cr i) = some p := h
    cases e : lstR S (.cr i) with
    | some l => rw [e] at h'; exact lists _ e h'
    | none => rw [e] at h'; simp [toPy] at h'
  | ob k =>
    have h' : toPy (match lstR S (.ob k) with
      | some l => .lst l
      | none => .ob k) = some p := h
    cases e : lstR S (.ob k) with
    | some l => rw [e] at h'; exact lists _ e h'
    | none => rw [e] at h'; simp [toPy] at h'
  | _ => exact toPy_dp r.w.same _ _ _ rv h
def dEqB (neg : Bool) (x y : D) : Mx D := fun S => match toPy (look S x), toPy (look S y) with
  | some a, some b => if (SeqAt.shaped a && SeqAt.shaped b) = true then some (.bl (if neg then !PyData.eqv a b else PyData.eqv a b), S) else none
  | _, _ => none
abbrev dEq := dEqB false
abbrev dNe := dEqB true
theorem dEqB_some {neg : Bool} {x y d : D} {S S' : Sx} (h : dEqB neg x y S = some (d, S')) : ∃ a b, toPy (look S x) = some a ∧ toPy (look S y) = some b ∧ SeqAt.shaped a = true ∧ SeqAt.shaped b = true ∧ d = .bl (if neg then !PyData.eqv a b else PyData.eqv a b) ∧ S' = S := by
  unfold dEqB at h
  split at h
  · split at h
    · rename_i hc
      rw [Bool.and_eq_true] at hc
      cases h
      exact ⟨_, _, by assumption, by assumption, hc.1, hc.2, rfl, rfl⟩
    · cases h
  · cases h
theorem opd_eq : OpD K (rEqD K) dEq := by
  intro S S' σ H P x y dx dy d r rx ry hf Q q
  obtain ⟨a, b, h1, h2, s1, s2, rfl, rfl⟩ := dEqB_some hf
  exact ⟨a, b, look_dp r rx h1, look_dp r ry h2, s1, s2, q.now (Ph.Le.refl P) r (Rep.toR (.bl _))⟩
theorem opd_ne : OpD K (rNeD K) dNe := by
  intro S S' σ H P x y dx dy d r rx ry hf Q q
  obtain ⟨a, b, h1, h2, s1, s2, rfl, rfl⟩ := dEqB_some hf
  exact ⟨a, b, look_dp r rx h1, look_dp r ry h2, s1, s2, q.now (Ph.Le.refl P) r (Rep.toR (.bl _))⟩
def isNon : D → Bool
  | .non => true
  | _ => false
def dIsN (x y : D) : Mx D := fun S => match y with
  | .non => some (.bl (isNon x), S)
  | _ => none
def dNotN (x y : D) : Mx D := fun S => match y with
  | .non => some (.bl (!isNon x), S)
  | _ => none
theorem non_iff {P : Ph} {S : Sx} {σ : Sg} {H : Hp} (r : RepS K P S σ H) {v : V} {d : D} (rv : RepR K P σ v d) (hd : d.isCr = false) : decide (v = .non) = isNon d := by
  cases rv.rep hd <;> rfl
theorem opd_isN : OpD K (fun x y H Q => y = .non ∧ Q (.bl (decide (x = .non))) H) (fun x y => if x.isCr then mfail else dIsN x y) := by
  intro S S' σ H P x y dx dy d r rx ry hf Q q
  dsimp only at hf
  split at hf
  · cases hf
  · rename_i hc
    unfold dIsN at hf
    split at hf
    · cases hf
      refine ⟨rep_non ry, ?_⟩
      rw [non_iff r rx (by simpa using hc)]
      exact q.now (Ph.Le.refl P) r (Rep.toR (.bl _))
    · cases hf
theorem opd_notN : OpD K (fun x y H Q => y = .non ∧ Q (.bl (!decide (x = .non))) H) (fun x y => if x.isCr then mfail else dNotN x y) := by
  intro S S' σ H P x y dx dy d r rx ry hf Q q
  dsimp only at hf
  split at hf
  · cases hf
  · rename_i hc
    unfold dNotN at hf
    split at hf
    · cases hf
      refine ⟨rep_non ry, ?_⟩
      rw [non_iff r rx (by simpa using hc)]
      exact q.now (Ph.Le.refl P) r (Rep.toR (.bl _))
    · cases hf
/-! ### in, not in -/
def rInA (K : PySem.W.Frag) : R2 := fun x y H Q => rInD K x y H Q ∨ rIn K false x y H Q
def rNotInA (K : PySem.W.Frag) : R2 := fun x y H Q => rNotInD K x y H Q ∨ rIn K true x y H Q
theorem op_inA {X : Cx} (hu : X.A.units + 65 < cLine) : OpR X (compareOp .In) (rInA X.K) := (op_inD hu).or op_in_seq
theorem op_notInA {X : Cx} (hu : X.A.units + 65 < cLine) : OpR X (compareOp .NotIn) (rNotInA X.K) := (op_notInD hu).or op_notIn_seq
def intD : D → Bool
  | .int _ => true
  | _ => false
/-- x in a tuple of whole numbers, x one -/
def inInts (i : Int) : List D → Bool
  | [] => false
  | d :: ds => (match d with
    | .int j => j == i
    | _ => false) || inInts i ds
def dInB (neg : Bool) (x y : D) : Mx D := fun S => match y with
  | .tup l => match x with
    | .int i => if l.all intD = true then some (.bl (if neg then !inInts i l else inInts i l), S) else none
    | _ => none
  | y => match toPy (look S x), toPy (look S y) with
    | some a, some (.list b) => if (SeqAt.shaped a && SeqAt.shaped (.list b)) = true then some (.bl (if neg then !(b.any fun z => PyData.eqv z a) else b.any fun z => PyData.eqv z a), S) else none
    | _, _ => none
abbrev dIn := dInB false
abbrev dNotIn := dInB true
theorem ints_flat {P : Ph} : ∀ {vs : List V} {l : List D}, RepL K P vs l → l.all intD = true → vs.all flatV = true
  | _, _, .nil, _ => rfl
  | _, _, .cons r t, h => by
    simp only [List.all_cons, Bool.and_eq_true] at h ⊢
    refine ⟨?_, ints_flat t h.2⟩
    cases r <;> first | rfl | (exact absurd h.1 (by simp [intD]))
theorem ints_in {P : Ph} {i : Int} : ∀ {vs : List V} {l : List D}, RepL K P vs l → l.all intD = true → inV (.int i) vs = inInts i l
  | _, _, .nil, _ => rfl
  | _, _, .cons (v := v) (d := d) r t, h => by
    simp only [List.all_cons, Bool.and_eq_true] at h
    have e := ints_in (i := i) t h.2
    unfold inV at e ⊢
    rw [List.any_cons, e]
    cases r <;> first | rfl | (exact absurd h.1 (by simp [intD]))
theorem dInB_cases {neg : Bool} {x y d : D} {S S' : Sx} (h : dInB neg x y S = some (d, S')) :
    (∃ l i, y = .tup l ∧ x = .int i ∧ l.all intD = true ∧ d = .bl (if neg then !inInts i l else inInts i l) ∧ S' = S) ∨
    (∃ a b, toPy (look S x) = some a ∧ toPy (look S y) = some (.list b) ∧ SeqAt.shaped a = true ∧ SeqAt.shaped (.list b) = true ∧ d = .bl (if neg then !(b.any fun z => PyData.eqv z a) else b.any fun z => PyData.eqv z a) ∧ S' = S) := by
  unfold dInB at h
  split at h
  · split at h
    · split at h
      · cases h; exact .inl ⟨_, _, rfl, rfl, by assumption, rfl, rfl⟩
      · cases h
    · cases h
  · split at h
    · split at h
      · rename_i hc
        rw [Bool.and_eq_true] at hc
        cases h
        exact .inr ⟨_, _, by assumption, by assumption, hc.1, hc.2, rfl, rfl⟩
      · cases h
    · cases h
theorem opd_in : OpD K (rInA K) dIn := by
  intro S S' σ H P x y dx dy d r rx ry hf Q q
  rcases dInB_cases hf with ⟨l, i, rfl, rfl, hl, rfl, rfl⟩ | ⟨a, b, h1, h2, s1, s2, rfl, rfl⟩
  · obtain ⟨p, vs, e, h1, r1⟩ := tup_sound r ry
    refine .inr ⟨p, vs, e, .inr h1, by rw [rep_int rx]; rfl, ints_flat r1 hl, ?_⟩
    rw [rep_int rx, ints_in r1 hl]
    exact q.now (Ph.Le.refl P) r (Rep.toR (.bl _))
  · exact .inl ⟨a, b, look_dp r rx h1, look_dp r ry h2, s1, s2, q.now (Ph.Le.refl P) r (Rep.toR (.bl _))⟩
theorem opd_notIn : OpD K (rNotInA K) dNotIn := by
  intro S S' σ H P x y dx dy d r rx ry hf Q q
  rcases dInB_cases hf with ⟨l, i, rfl, rfl, hl, rfl, rfl⟩ | ⟨a, b, h1, h2, s1, s2, rfl, rfl⟩
  · obtain ⟨p, vs, e, h1, r1⟩ := tup_sound r ry
    refine .inr ⟨p, vs, e, .inr h1, by rw [rep_int rx]; rfl, ints_flat r1 hl, ?_⟩
    rw [rep_int rx, ints_in r1 hl]
    exact q.now (Ph.Le.refl P) r (Rep.toR (.bl _))
  · exact .inl ⟨a, b, look_dp r rx h1, look_dp r ry h2, s1, s2, q.now (Ph.Le.refl P) r (Rep.toR (.bl _))⟩

/-! ### places -/
theorem atI_rep {P : Ph} {vs : List V} {l : List D} {i : Int} {d : D} (r : RepL K P vs l) (h : atI l i = some d) : ∃ v, atI vs i = some v ∧ Rep K P v d := by
  unfold atI at h ⊢
  rw [r.length]
  cases e : ixN l.length i with
  | none => rw [e] at h; cases h
  | some j =>
    rw [e] at h
    obtain ⟨v, h1, h2⟩ := r.get h
    exact ⟨v, h1, h2⟩
def dIx (x y : D) : Mx D := fun S => match y with
  | .int i => match x with
    | .str z => if z.length ≤ mostL then match atI z.cps.toList i with
      | some c => some (.str ⟨#[c]⟩, S)
      | none => none else none
    | x => match seqC S x with
      | some l => match atI l i with
        | some d => some (d, S)
        | none => none
      | none => none
  | _ => none
theorem opd_ix : OpD K (rIx K) dIx := by
  intro S S' σ H P x y dx dy d r rx ry hf Q q
  unfold dIx at hf
  split at hf
  · split at hf
    · split at hf
      · split at hf
        · cases hf
          exact .inr (.inr ⟨_, _, _, rep_str rx, rep_int ry, le_line (by assumption), by assumption, q.now (Ph.Le.refl P) r (Rep.toR (.str _))⟩)
        · cases hf
      · cases hf
    · split at hf
      · rename_i l hl
        split at hf
        · rename_i d' hd
          cases hf
          obtain ⟨a, vs, e, h1, r1⟩ := seqC_sound r rx hl
          obtain ⟨v, hv, rv⟩ := atI_rep r1 hd
          have fin := q.now (Ph.Le.refl P) r rv.toR
          rcases h1 with h1 | h1
          · exact .inl ⟨a, vs, _, v, e, rep_int ry, h1, hv, fin⟩
          · exact .inr (.inl ⟨a, vs, _, v, e, rep_int ry, h1, hv, fin⟩)
        · cases hf
      · cases hf
  · cases hf
/-- x[i] = d -/
def SetD (K : PySem.W.Frag) (t : TSet) (g : D → D → D → Sx → Option Sx) : Prop :=
  ∀ (S S' : Sx) (σ : Sg) (H : Hp) (P : Ph) (o i v : V) (dx di dv : D), RepS K P S σ H → RepR K P σ o dx → RepR K P σ i di → RepR K P σ v dv → g dx di dv S = some S' →
    ∀ Q : Hp → Prop, (∀ H' P', P.Le P' → RepS K P' S' σ H' → Q H') → t o i v H Q
def dSet (x y v : D) (S : Sx) : Option Sx := match y with
  | .int i => match lstC S x with
    | some l => match ixN l.length i with
      | some j => if v.isCr = false then putC S (l.set j v) x else none
      | none => none
    | none => none
  | _ => none
theorem setd_list : SetD K rSetL dSet := by
  intro S S' σ H P o i v dx di dv r ro ri rv hf Q q
  unfold dSet at hf
  split at hf
  · split at hf
    · rename_i l hl
      split at hf
      · rename_i j hj
        split at hf
        · rename_i hc
          obtain ⟨a, vs, l', e, h1, hl', r1, put⟩ := putC_sound r ro hf
          rw [hl] at hl'; cases hl'
          refine ⟨a, vs, _, j, e, rep_int ri, h1, by rw [r1.length]; exact hj, ?_⟩
          exact q _ P (Ph.Le.refl P) (put _ (RepL.set (rv.rep hc) j r1))
        · cases hf
      · cases hf
    · cases hf
  · cases hf
/-! ### slices -/
def PostO (K : PySem.W.Frag) (P : Ph) (S' : Sx) (σ : Sg) (o : Option Int) (Q : Option Int → Hp → Prop) : Prop :=
  ∀ (H' : Hp) (P' : Ph), P.Le P' → RepS K P' S' σ H' → Q o H'
def SemO (K : PySem.W.Frag) (t : Sg → Hp → (Option Int → Hp → Prop) → Prop) (f : Mx (Option Int)) : Prop :=
  ∀ (S S' : Sx) (σ : Sg) (H : Hp) (P : Ph) (b : Option Int), RepS K P S σ H → f S = some (b, S') → ∀ Q : Option Int → Hp → Prop, PostO K P S' σ b Q → t σ H Q
def oNone : Mx (Option Int) := mret none
def oSome (f : Mx D) : Mx (Option Int) := mbind f fun d S => match d with
  | .int i => some (some i, S)
  | _ => none
theorem sem_onone : SemO K tNoPart oNone := by
  intro S S' σ H P b r hf Q q
  cases hf
  exact q H P (Ph.Le.refl P) r
theorem sem_osome {t : TE} {f : Mx D} (h : SemE K t f) : SemO K (tPart t) (oSome f) := by
  intro S S' σ H P b r hf Q q
  obtain ⟨d, S1, h1, hf⟩ := mbind_some hf
  split at hf
  · cases hf
    exact h S _ σ H P _ r h1 _ fun v H1 P1 le1 r1 rx => ⟨_, rep_int rx, q H1 P1 le1 r1⟩
  · cases hf
def rSlAny (K : PySem.W.Frag) : V → Option Int → Option Int → Hp → VK → Prop := fun x lo hi H Q => rSlL K x lo hi H Q ∨ rSlA K x lo hi H Q ∨ rSlS x lo hi H Q
theorem sl_any {X : Cx} : L2.SlR X (rSlAny X.K) := sl_list.or (sl_tupA.or sl_str)
def cutD (l : List D) (lo hi : Option Int) : List D := (l.drop (HT.sIx l.length 0 lo)).take (HT.sIx l.length l.length hi - HT.sIx l.length 0 lo)
def dSl (x : D) (lo hi : Option Int) : Mx D := fun S => match x with
  | .str z => if z.length ≤ mostL then some (.str (cutS z lo hi), S) else none
  | .tup l => some (.tup (cutD l lo hi), S)
  | x => match lstR S x with
    | some l => some (.lst (cutD l lo hi), S)
    | none => none
def nSl (a : Mx D) (lo hi : Mx (Option Int)) : Mx (List D) := mbind a fun x => mbind lo fun l => mbind hi fun h S => match lstR S x with
  | some c => some (cutD c l h, S)
  | none => none
def eSl (g : D → Option Int → Option Int → Mx D) (a : Mx D) (lo hi : Mx (Option Int)) : Mx D := mbind a fun x => mbind lo fun l => mbind hi fun h => g x l h
theorem cut_whole {α : Type} (l : List α) {a b : Nat} (ha : a = 0) (hb : b = l.length) : (l.drop a).take (b - a) = l := by
  subst ha hb; simp
theorem rl_cut {P : Ph} {vs : List V} {l : List D} (g2 : RepL K P vs l) (lo hi : Option Int) : RepL K P (cutV vs lo hi) (cutD l lo hi) := by
  unfold cutV cutD
  rw [g2.length]
  exact (g2.drop _).take _
theorem sl_list_q {P : Ph} {S : Sx} {σ : Sg} {H : Hp} {x : V} {dx : D} {l : List D} {lo hi : Option Int} {Q : VK} (r : RepS K P S σ H) (rx : RepR K P σ x dx) (hl : lstR S dx = some l) (q : PostN K P S σ (cutD l lo hi) Q) : rSlAny K x lo hi H Q := by
  obtain ⟨a, vs, e, g1, g2⟩ := lstR_sound r rx hl
  exact .inl ⟨a, vs, e, g1, q.new (Ph.Le.refl P) r (rl_cut g2 lo hi)⟩
theorem sem_nsl {te : TE} {tl th : Sg → Hp → (Option Int → Hp → Prop) → Prop} {f : Mx D} {fl fh : Mx (Option Int)} (h1 : SemE K te f) (h2 : SemO K tl fl) (h3 : SemO K th fh) :
    SemN K (tSl (rSlAny K) te tl th) (nSl f fl fh) := by
  intro S S' σ H P d r hf Q q
  obtain ⟨dx, S1, e1, hf1⟩ := mbind_some hf
  obtain ⟨lo, S2, e2, hf2⟩ := mbind_some hf1
  obtain ⟨hi, S3, e3, hf3⟩ := mbind_some hf2
  refine h1 S S1 σ H P dx r e1 _ fun x H1 P1 le1 r1 rx => ?_
  refine h2 S1 S2 σ H1 P1 lo r1 e2 _ fun H2 P2 le2 r2 => ?_
  refine h3 S2 S3 σ H2 P2 hi r2 e3 _ fun H3 P3 le3 r3 => ?_
  split at hf3
  · cases hf3
    exact sl_list_q r3 ((rx.mono le2).mono le3) (by assumption) (((q.later le1).later le2).later le3)
  · cases hf3
theorem sem_sl {te : TE} {tl th : Sg → Hp → (Option Int → Hp → Prop) → Prop} {f : Mx D} {fl fh : Mx (Option Int)} (h1 : SemE K te f) (h2 : SemO K tl fl) (h3 : SemO K th fh) :
    SemE K (tSl (rSlAny K) te tl th) (eSl dSl f fl fh) := by
  intro S S' σ H P d r hf Q q
  obtain ⟨dx, S1, e1, hf1⟩ := mbind_some hf
  obtain ⟨lo, S2, e2, hf2⟩ := mbind_some hf1
  obtain ⟨hi, S3, e3, hf3⟩ := mbind_some hf2
  clear hf hf1 hf2
  refine h1 S S1 σ H P dx r e1 _ fun x H1 P1 le1 r1 rx => ?_
  refine h2 S1 S2 σ H1 P1 lo r1 e2 _ fun H2 P2 le2 r2 => ?_
  refine h3 S2 S3 σ H2 P2 hi r2 e3 _ fun H3 P3 le3 r3 => ?_
  have rx3 := (rx.mono le2).mono le3
  have q3 := ((q.later le1).later le2).later le3
  unfold dSl at hf3
  split at hf3
  · split at hf3
    · cases hf3
      exact .inr (.inr ⟨_, rep_str rx3, le_line (by assumption), q3.now (Ph.Le.refl P3) r3 (Rep.toR (.str _))⟩)
    · cases hf3
  · rename_i l
    cases hf3
    obtain ⟨a, vs, e, g1, g2⟩ := rep_tup rx3
    refine .inr (.inl ⟨a, vs, e, sameT r3.w.same g1, fun hw => ?_, fun _ p hp => ?_⟩)
    · have e2 : cutD l lo hi = l := by
        unfold cutD
        rw [g2.length] at hw
        exact cut_whole l hw.1 hw.2
      rw [e2] at q3
      subst e
      exact q3.now (Ph.Le.refl P3) r3 (Rep.toR (.tup g1 g2))
    · obtain ⟨le, r4, rv⟩ := tup_new r3 (rl_cut g2 lo hi) hp
      exact q3.now le r4 rv.toR
  · split at hf3
    · cases hf3
      exact sl_list_q r3 rx3 (by assumption) (frz_new q3)
    · cases hf3
/-- xs[::-1] -/
def dRev (x : D) : Mx (List D) := fun S => match lstR S x with
  | some l => some (l.reverse, S)
  | none => none
theorem sem_rev {te : TE} {f : Mx D} (h : SemE K te f) : SemN K (tRevL K te) (n1 dRev f) := by
  intro S S' σ H P d r hf Q q
  obtain ⟨dx, S1, e1, hf⟩ := mbind_some hf
  refine h S S1 σ H P dx r e1 _ fun x H1 P1 le1 r1 rx => ?_
  unfold dRev at hf
  split at hf
  · rename_i l hl
    cases hf
    obtain ⟨a, vs, e, g1, g2⟩ := lstR_sound r1 rx hl
    exact ⟨a, vs, e, g1, (q.later le1).new (Ph.Le.refl P1) r1 g2.reverse⟩
  · cases hf
end
end Ms
set_option Elab.async false
set_option linter.all false
set_option maxRecDepth 100000
set_option maxHeartbeats 1000000
/-! MsD: calls of built-ins, methods of lists, comprehensions: at the data level, and sound. -/
namespace Ms
open PySem PySem.Spec PyProof.Rows L2
set_option autoImplicit false

section
variable {K : PySem.W.Frag}
theorem rl1 {P : Ph} {σ : Sg} {xs : List V} {d : D} (r : RepRL K P σ xs [d]) : ∃ x, xs = [x] ∧ RepR K P σ x d := by
  cases r with
  | cons r t => cases t; exact ⟨_, rfl, r⟩
theorem rl2 {P : Ph} {σ : Sg} {xs : List V} {d e : D} (r : RepRL K P σ xs [d, e]) : ∃ x y, xs = [x, y] ∧ RepR K P σ x d ∧ RepR K P σ y e := by
  cases r with
  | cons r t =>
    obtain ⟨y, rfl, q⟩ := rl1 t
    exact ⟨_, y, rfl, r, q⟩
/-! ### len, abs, min, max, int, tuple, list, sum -/
def rLenA (K : PySem.W.Frag) : List V → Hp → VK → Prop := fun xs H Q => (∃ p ys, xs = [.ref p] ∧ (SqL K H p ys ∨ SqT K H p ys) ∧ Q (.int ys.length) H) ∨ (∃ z, xs = [.str z] ∧ z.length ≤ sizeLine ∧ Q (.int z.length) H)
theorem call_lenA {X : Cx} : CallR X (.builtin "len") (rLenA X.K) := call_len_seq.or call_len_str
def gLen (ds : List D) : Mx D := fun S => match ds with
  | [.str z] => if z.length ≤ mostL then some (.int z.length, S) else none
  | [d] => match seqC S d with
    | some l => some (.int l.length, S)
    | none => none
  | _ => none
theorem calld_len : CallD K (rLenA K) gLen := by
  intro S S' σ H P xs ds d r rx hf Q q
  unfold gLen at hf
  split at hf
  · split at hf
    · cases hf
      obtain ⟨x, rfl, rq⟩ := rl1 rx
      exact .inr ⟨_, by rw [rep_str rq], le_line (by assumption), q.now (Ph.Le.refl P) r (Rep.toR (.int _))⟩
    · cases hf
  · split at hf
    · rename_i l hl
      cases hf
      obtain ⟨x, rfl, rq⟩ := rl1 rx
      obtain ⟨a, vs, e, h1, r1⟩ := seqC_sound r rq hl
      exact .inl ⟨a, vs, by rw [e], h1, by rw [r1.length]; exact q.now (Ph.Le.refl P) r (Rep.toR (.int _))⟩
    · cases hf
  · cases hf
def gAbs (ds : List D) : Mx D := fun S => match ds with
  | [.int i] => some ((.int (if i < 0 then -i else i)), S)
  | _ => none
theorem calld_abs : CallD K (fun xs H Q => ∃ i, xs = [.int i] ∧ Q (.int (if i < 0 then -i else i)) H) gAbs := by
  intro S S' σ H P xs ds d r rx hf Q q
  unfold gAbs at hf
  split at hf
  · cases hf
    obtain ⟨x, rfl, rq⟩ := rl1 rx
    exact ⟨_, by rw [rep_int rq], q.now (Ph.Le.refl P) r (Rep.toR (.int _))⟩
  · cases hf
def gMin2 (ds : List D) : Mx D := fun S => match ds with
  | [.int i, .int j] => some ((.int (if j < i then j else i)), S)
  | _ => none
def gMax2 (ds : List D) : Mx D := fun S => match ds with
  | [.int i, .int j] => some ((.int (if j > i then j else i)), S)
  | _ => none
theorem calld_min2 : CallD K (fun xs H Q => ∃ i j, xs = [.int i, .int j] ∧ Q (.int (if j < i then j else i)) H) gMin2 := by
  intro S S' σ H P xs ds d r rx hf Q q
  unfold gMin2 at hf
  split at hf
  · cases hf
    obtain ⟨x, y, rfl, rq, ry⟩ := rl2 rx
    exact ⟨_, _, by rw [rep_int rq, rep_int ry], q.now (Ph.Le.refl P) r (Rep.toR (.int _))⟩
  · cases hf
theorem calld_max2 : CallD K (fun xs H Q => ∃ i j, xs = [.int i, .int j] ∧ Q (.int (if j > i then j else i)) H) gMax2 := by
  intro S S' σ H P xs ds d r rx hf Q q
  unfold gMax2 at hf
  split at hf
  · cases hf
    obtain ⟨x, y, rfl, rq, ry⟩ := rl2 rx
    exact ⟨_, _, by rw [rep_int rq, rep_int ry], q.now (Ph.Le.refl P) r (Rep.toR (.int _))⟩
  · cases hf
def gInt (ds : List D) : Mx D := fun S => match ds with
  | [.int i] => some ((.int i), S)
  | [.bl b] => some ((.int (if b then 1 else 0)), S)
  | _ => none
theorem calld_int : CallD K (fun xs H Q => (∃ i, xs = [.int i] ∧ Q (.int i) H) ∨ ∃ k, xs = [.bl k] ∧ Q (.int (if k then 1 else 0)) H) gInt := by
  intro S S' σ H P xs ds d r rx hf Q q
  unfold gInt at hf
  split at hf
  · cases hf
    obtain ⟨x, rfl, rq⟩ := rl1 rx
    exact .inl ⟨_, by rw [rep_int rq], q.now (Ph.Le.refl P) r (Rep.toR (.int _))⟩
  · cases hf
    obtain ⟨x, rfl, rq⟩ := rl1 rx
    exact .inr ⟨_, by rw [rep_bl rq], q.now (Ph.Le.refl P) r (Rep.toR (.int _))⟩
  · cases hf
def gTuple (ds : List D) : Mx D := fun S => match ds with
  | [.tup l] => some ((.tup l), S)
  | [d] => match lstR S d with
    | some l => some (.tup l, S)
    | none => none
  | _ => none
theorem calld_tuple : CallD K (fun xs H Q => ∃ p ys, xs = [.ref p] ∧ ((SqL K H p ys ∧ ∀ l, H l = none → Q (.ref l) (upd H l (.tup ys))) ∨ (SqT K H p ys ∧ Q (.ref p) H))) gTuple := by
  intro S S' σ H P xs ds d r rx hf Q q
  unfold gTuple at hf
  split at hf
  · cases hf
    obtain ⟨x, rfl, rq⟩ := rl1 rx
    obtain ⟨a, vs, e, h1, r1⟩ := rep_tup rq
    subst e
    exact ⟨a, vs, rfl, .inr ⟨sameT r.w.same h1, q.now (Ph.Le.refl P) r (Rep.toR (.tup h1 r1))⟩⟩
  · split at hf
    · rename_i l hl
      cases hf
      obtain ⟨x, rfl, rq⟩ := rl1 rx
      obtain ⟨a, vs, e, h1, r1⟩ := lstR_sound r rq hl
      refine ⟨a, vs, by rw [e], .inl ⟨h1, fun p hp => ?_⟩⟩
      obtain ⟨le, r2, rv⟩ := tup_new r r1 hp
      exact q.now le r2 rv.toR
    · cases hf
  · cases hf
def CallN (K : PySem.W.Frag) (r : List V → Hp → VK → Prop) (g : List D → Mx (List D)) : Prop :=
  ∀ (S S' : Sx) (σ : Sg) (H : Hp) (P : Ph) (xs : List V) (ds : List D) (d : List D), RepS K P S σ H → RepRL K P σ xs ds → g ds S = some (d, S') → ∀ Q : VK, PostN K P S' σ d Q → r xs H Q
def nC (g : List D → Mx (List D)) (as : Mx (List D)) : Mx (List D) := mbind as g
theorem sem_cn {r : List V → Hp → VK → Prop} {g : List D → Mx (List D)} {t : TA} {f : Mx (List D)} (hg : CallN K r g) (h : SemA K t f) : SemN K (tCB r t) (nC g f) := by
  intro S S' σ H P d r0 hf Q q
  obtain ⟨dx, S1, h1, hf⟩ := mbind_some hf
  refine h S S1 σ H P dx r0 h1 _ fun x H1 P1 le1 r1 rx => ?_
  exact hg S1 S' σ H1 P1 x dx d r1 rx hf Q (q.later le1)
def gList (ds : List D) : Mx (List D) := fun S => match ds with
  | [d] => match seqC S d with
    | some l => some (l, S)
    | none => none
  | _ => none
theorem calln_list : CallN K (fun xs H Q => ∃ p ys, xs = [.ref p] ∧ (SqL K H p ys ∨ SqT K H p ys) ∧ ∀ l, H l = none → Q (.ref l) (upd H l (.lst ys))) gList := by
  intro S S' σ H P xs ds d r rx hf Q q
  unfold gList at hf
  split at hf
  · split at hf
    · rename_i l hl
      cases hf
      obtain ⟨x, rfl, rq⟩ := rl1 rx
      obtain ⟨a, vs, e, h1, r1⟩ := seqC_sound r rq hl
      exact ⟨a, vs, by rw [e], h1, q.new (Ph.Le.refl P) r r1⟩
    · cases hf
  · cases hf
def intsOf : List D → Option (List Int)
  | [] => some []
  | .int i :: ds => match intsOf ds with
    | some ns => some (i :: ns)
    | none => none
  | _ :: _ => none
theorem intsOf_rep {P : Ph} : ∀ {vs : List V} {l : List D} {ns : List Int}, RepL K P vs l → intsOf l = some ns → vs = ns.map V.int
  | _, _, _, .nil, h => by cases h; rfl
  | _, _, ns, .cons (d := d) r t, h => by
    cases r <;> first
      | (simp only [intsOf] at h
         split at h
         · rename_i ms hm
           cases h
           rw [intsOf_rep t hm]; rfl
         · cases h)
      | (simp [intsOf] at h)
theorem intsOf_map : ∀ ns : List Int, intsOf (ns.map D.int) = some ns
  | [] => rfl
  | n :: ns => by show (match intsOf (ns.map D.int) with | some ns => some (n :: ns) | none => none) = _; rw [intsOf_map ns]
def rSumA (K : PySem.W.Frag) : List V → Hp → VK → Prop := fun vs H Q => ∃ (a : Addr) (ns : List Int), vs = [V.ref a] ∧ (SqL K H a (ns.map V.int) ∨ SqT K H a (ns.map V.int)) ∧ Q (.int ns.sum) H
theorem call_sumA {X : Cx} (hc : X.calm = true) : CallR X (.builtin "sum") (rSumA X.K) := by
  intro pins s σ H vs us Q I r h
  obtain ⟨a, ns, rfl, hs, q⟩ := h
  rcases hs with hs | hs
  · exact cr_sum hc pins s σ H _ us Q I r ⟨a, ns, rfl, hs, q⟩
  · obtain ⟨its, rv, pl, hz⟩ := I.tuple hs
    rw [Vals.ref1 r]
    have hi := rv.ints
    obtain ⟨xs, e⟩ := hi.allInts.items
    have hnn : numsOf (intItems xs).toList = ns := by rw [← e]; exact hi.numsOf
    rw [nums_intItems] at hnn
    have pl' : s.heap.IsTuple a its.toArray := pl
    rw [e] at pl'
    refine PySem.W.ktm_sumG (I.ok.hd hc) pl' fun h' tk t' hk => ?_
    refine ⟨.int ns.sum, H, I.kept (t' := tk) hk, ⟨t', ?_⟩, q⟩
    rw [preSum_eq, List.take_of_length_le (by simp), hnn]
def gSum (ds : List D) : Mx D := fun S => match ds with
  | [d] => match seqC S d with
    | some l => match intsOf l with
      | some ns => some (.int ns.sum, S)
      | none => none
    | none => none
  | _ => none
theorem calld_sum : CallD K (rSumA K) gSum := by
  intro S S' σ H P xs ds d r rx hf Q q
  unfold gSum at hf
  split at hf
  · split at hf
    · rename_i l hl
      split at hf
      · rename_i ns hns
        cases hf
        obtain ⟨x, rfl, rq⟩ := rl1 rx
        obtain ⟨a, vs, e, h1, r1⟩ := seqC_sound r rq hl
        rw [intsOf_rep r1 hns] at h1
        exact ⟨a, ns, by rw [e], h1, q.now (Ph.Le.refl P) r (Rep.toR (.int _))⟩
      · cases hf
    · cases hf
  · cases hf
/-- list(range(a, b)), tuple(range(a, b)) -/
def rgD (a b : Int) : List D := (List.range (b - a).toNat).map fun i => D.int (a + (i : Nat))
theorem rg_rep {P : Ph} {a b : Int} : RepL K P (rgV a b) (rgD a b) := by
  unfold rgV rgD
  generalize List.range (b - a).toNat = l
  induction l with
  | nil => exact .nil
  | cons i l ih => exact .cons (.int _) ih
def rgC (a b : Int) : Bool := decide (-1000000 ≤ a) && decide (a ≤ 1000000) && decide (-1000000 ≤ b) && decide (b ≤ 1000000)
theorem rgC_ok {a b : Int} (h : rgC a b = true) : RgOk a b := by
  unfold rgC at h
  simp only [Bool.and_eq_true, decide_eq_true_eq] at h
  unfold RgOk
  omega
/-- the ends of a range -/
def SemG (K : PySem.W.Frag) (t : Sg → Hp → (Int → Int → Hp → Prop) → Prop) (f : Mx (Int × Int)) : Prop :=
  ∀ (S S' : Sx) (σ : Sg) (H : Hp) (P : Ph) (a b : Int), RepS K P S σ H → f S = some ((a, b), S') → ∀ Q : Int → Int → Hp → Prop, (∀ (H' : Hp) (P' : Ph), P.Le P' → RepS K P' S' σ H' → Q a b H') → t σ H Q
def gRg1 (f : Mx D) : Mx (Int × Int) := mbind f fun d S => match d with
  | .int i => some ((0, i), S)
  | _ => none
def gRg2 (f g : Mx D) : Mx (Int × Int) := mbind f fun d => mbind g fun e S => match d, e with
  | .int i, .int j => some ((i, j), S)
  | _, _ => none
theorem sem_rg1 {t : TE} {f : Mx D} (h : SemE K t f) : SemG K (tRg1 t) (gRg1 f) := by
  intro S S' σ H P a b r hf Q q
  obtain ⟨d, S1, h1, hf⟩ := mbind_some hf
  split at hf
  · cases hf
    exact h S _ σ H P _ r h1 _ fun v H1 P1 le1 r1 rx => ⟨_, rep_int rx, q H1 P1 le1 r1⟩
  · cases hf
theorem sem_rg2 {t u : TE} {f g : Mx D} (h : SemE K t f) (h' : SemE K u g) : SemG K (tRg2 t u) (gRg2 f g) := by
  intro S S' σ H P a b r hf Q q
  obtain ⟨d, S1, h1, hf⟩ := mbind_some hf
  obtain ⟨e, S2, h2, hf⟩ := mbind_some hf
  split at hf
  · cases hf
    refine h S S1 σ H P _ r h1 _ fun v H1 P1 le1 r1 rx => ?_
    exact h' S1 _ σ H1 P1 _ r1 h2 _ fun w H2 P2 le2 r2 ry => ⟨_, _, rep_int rx, rep_int ry, q H2 P2 (le1.trans le2) r2⟩
  · cases hf
def nRg (f : Mx (Int × Int)) : Mx (List D) := mbind f fun p S => if rgC p.1 p.2 = true then some (rgD p.1 p.2, S) else none
def eTRg (f : Mx (Int × Int)) : Mx D := mbind f fun p S => if rgC p.1 p.2 = true then some (.tup (rgD p.1 p.2), S) else none
theorem sem_nrg {t : Sg → Hp → (Int → Int → Hp → Prop) → Prop} {f : Mx (Int × Int)} (h : SemG K t f) : SemN K (tLstRg t) (nRg f) := by
  intro S S' σ H P ds r hf Q q
  obtain ⟨⟨a, b⟩, S1, h1, hf⟩ := mbind_some hf
  dsimp only at hf
  split at hf
  · rename_i hc
    cases hf
    exact h S _ σ H P a b r h1 _ fun H1 P1 le1 r1 => ⟨rgC_ok hc, q.new le1 r1 rg_rep⟩
  · cases hf
theorem sem_trg {t : Sg → Hp → (Int → Int → Hp → Prop) → Prop} {f : Mx (Int × Int)} (h : SemG K t f) : SemE K (tTupRg t) (eTRg f) := by
  intro S S' σ H P ds r hf Q q
  obtain ⟨⟨a, b⟩, S1, h1, hf⟩ := mbind_some hf
  dsimp only at hf
  split at hf
  · rename_i hc
    cases hf
    refine h S _ σ H P a b r h1 _ fun H1 P1 le1 r1 => ⟨rgC_ok hc, fun p hp => ?_⟩
    obtain ⟨le, r2, rv⟩ := tup_new r1 rg_rep hp
    exact q.now (le1.trans le) r2 rv.toR
  · cases hf
/-! ### sorted -/
def leD (rev : Bool) (a b : D) : Bool := match toPy a, toPy b with
  | some x, some y => PySem.W.dataLe rev (fun p : PyData => p) x y
  | _, _ => true
def sortOk (ps : List PyData) : Bool := (ps.all fun p => ps.all fun q => PySem.W.alike p q) && (ps.all fun p => decide (p.depth ≤ 60)) &&
  ((ps.all fun p => match p with
    | .tuple (_ :: _) => true
    | _ => false) || ps.all fun p => match p with
    | .none => false
    | .tuple _ => false
    | _ => true)
theorem sortOk_al {ps : List PyData} (h : sortOk ps = true) : PySem.W.AllAlike ps ∧ (∀ p ∈ ps, p.depth ≤ 60) ∧ PySem.W.Sortable ps := by
  unfold sortOk at h
  simp only [Bool.and_eq_true, Bool.or_eq_true, List.all_eq_true, decide_eq_true_eq] at h
  obtain ⟨⟨h1, h2⟩, h3⟩ := h
  refine ⟨fun d hd d' hd' => h1 d hd d' hd', h2, ?_⟩
  rcases h3 with h3 | h3
  · refine .inl fun d hd => ?_
    have := h3 d hd
    split at this
    · exact ⟨_, _, rfl⟩
    · cases this
  · refine .inr fun d hd => ⟨fun e => ?_, fun xs e => ?_⟩
    · have := h3 d hd; rw [e] at this; cases this
    · have := h3 d hd; rw [e] at this; cases this
/-- a value and its data -/
abbrev VD := V × D × PyData
theorem pairs_of {P : Ph} {H : Hp} (sm : Same P.hb H) : ∀ {vs : List V} {l : List D} {ps : List PyData}, RepL K P vs l → toPyL l = some ps → ∃ bs : List VD, bs.map (·.1) = vs ∧ bs.map (·.2.1) = l ∧ bs.map (·.2.2) = ps ∧ ∀ b ∈ bs, Rep K P b.1 b.2.1 ∧ Dp K H b.1 b.2.2 ∧ toPy b.2.1 = some b.2.2
  | _, _, ps, .nil, h => by cases h; exact ⟨[], rfl, rfl, rfl, by simp⟩
  | _, _, ps, .cons (v := v) (d := d) r t, h => by
    unfold toPyL at h
    split at h
    · rename_i p qs h1 h2
      cases h
      obtain ⟨bs, e1, e2, e3, hb⟩ := pairs_of sm t h2
      refine ⟨(v, d, p) :: bs, by simp [e1], by simp [e2], by simp [e3], fun b hm => ?_⟩
      rcases List.mem_cons.mp hm with rfl | hm
      · exact ⟨r, toPy_dp sm d v p r h1, h1⟩
      · exact hb b hm
    · cases h
theorem rep_of_pairs {P : Ph} : ∀ {bs : List VD}, (∀ b ∈ bs, Rep K P b.1 b.2.1) → RepL K P (bs.map (·.1)) (bs.map (·.2.1))
  | [], _ => .nil
  | b :: bs, h => .cons (h b (by simp)) (rep_of_pairs fun c hc => h c (by simp [hc]))
theorem each_of {X : Cx} {pins : List (Addr × Obj)} {σ : Sg} {H : Hp} {s : Shared} (I : Inv X pins σ H s) : ∀ {bs : List VD} {us : List Value}, Vals (bs.map (·.1)) us → (∀ b ∈ bs, Dp X.K H b.1 b.2.2) →
    PySem.W.EachIs (fun (v : Value) (b : VD) => RelV b.1 v) us bs ∧ PySem.W.EachIs (fun (v : Value) (b : VD) => ∃ as, Reads s.heap v b.2.2 as) us bs
  | [], us, r, h => by
    cases r; exact ⟨.nil, .nil⟩
  | b :: bs, us, r, h => by
    cases r with
    | cons r t =>
      obtain ⟨h1, h2⟩ := each_of I t fun c hc => h c (by simp [hc])
      exact ⟨.cons r h1, .cons (Dp.reads I _ _ _ (h b (by simp)) r) h2⟩
theorem vals_of_each : ∀ {bs : List VD} {us : List Value}, PySem.W.EachIs (fun (v : Value) (b : VD) => RelV b.1 v) us bs → Vals (bs.map (·.1)) us
  | _, _, .nil => .nil
  | _, _, .cons r t => .cons r (vals_of_each t)
/-- sorted of data; rev: by reverse=.. -/
def rSortD (K : PySem.W.Frag) (rev : Bool) : V → Hp → VK → Prop := fun v H Q => ∃ (a : Addr) (vs : List V) (bs : List VD), v = .ref a ∧ SqL K H a vs ∧ bs.map (·.1) = vs ∧ (∀ b ∈ bs, Dp K H b.1 b.2.2) ∧ sortOk (bs.map (·.2.2)) = true ∧
  NewQ ((bs.mergeSort (PySem.W.dataLe rev fun b : VD => b.2.2)).map (·.1)) H Q
theorem sort_fin {X : Cx} {pins : List (Addr × Obj)} {σ : Sg} {H : Hp} {s : Shared} {rev : Bool} {Q : VK} {its : List Value} {bs : List VD} (I : Inv X pins σ H s) (hz : bs.length ≤ sizeLine) (q : NewQ ((bs.mergeSort (PySem.W.dataLe rev fun b : VD => b.2.2)).map (·.1)) H Q)
    (out : List Value) (ho : PySem.W.EachIs (fun (v : Value) (b : VD) => RelV b.1 v) out (bs.mergeSort (PySem.W.dataLe rev fun b : VD => b.2.2))) :
    EP X pins σ Q (.ref (s.heap.objs.size + 1)) { s with heap := PyProof.Rows.sortedAll s.heap its (List.toArray out) } := by
  obtain ⟨ep, he'⟩ := PyProof.Rows.sortedAll_at s.heap its out.toArray
  have hlen : ((bs.mergeSort (PySem.W.dataLe rev fun b : VD => b.2.2)).map (·.1)).length ≤ sizeLine := by
    rw [List.length_map, List.length_mergeSort]; exact hz
  exact ⟨.ref _, upd H (s.heap.objs.size + 1) (.lst _), I.laid (t' := s.toks) (fun _ _ => PyProof.Rows.sortedAll_old) (Nat.le_succ _) ⟨hlen, out, ep, vals_of_each ho, he'⟩, rfl, q _ (I.hok.fresh (Nat.le_succ _))⟩
theorem cr_sortD {X : Cx} (hu : X.A.units + 64 < cLine) : CallR X (.builtin "sorted") (fun xs H Q => ∃ v, xs = [v] ∧ rSortD X.K false v H Q) := by
  intro pins s σ H vs us Q I r h
  obtain ⟨v, rfl, a, vs', bs, rfl, hs, e1, hb, hok, q⟩ := h
  obtain ⟨its, rv, hl, hz⟩ := I.list hs
  rw [Vals.ref1 r]
  subst e1
  obtain ⟨c1, c2, c3⟩ := sortOk_al hok
  obtain ⟨k1, k2⟩ := each_of I rv hb
  rw [List.length_map] at hz
  refine PySem.W.sorted_data (enc := fun b : VD => b.2.2) hl.isList k1 k2 c1 c3 hz (fun b hm => ?_) fun out _ ho => sort_fin I hz q out ho
  have := c2 b.2.2 (List.mem_map.mpr ⟨b, hm, rfl⟩)
  omega
theorem cr_sortDR {X : Cx} {rev : Bool} (hu : X.A.units + 64 < cLine) : CallRK X (.builtin "sorted") [Str.ofString "reverse"] (fun xs zs H Q => ∃ v, xs = [v] ∧ zs = [.bl rev] ∧ rSortD X.K rev v H Q) := by
  intro pins s σ H vs zs us ws Q I r rz h
  obtain ⟨v, rfl, rfl, a, vs', bs, rfl, hs, e1, hb, hok, q⟩ := h
  obtain ⟨its, rv, hl, hz⟩ := I.list hs
  obtain rfl := Vals.ref1 r
  obtain ⟨w1, rfl, e2⟩ := vals1 rz
  obtain rfl : w1 = Value.bool rev := e2
  subst e1
  obtain ⟨c1, c2, c3⟩ := sortOk_al hok
  obtain ⟨k1, k2⟩ := each_of I rv hb
  rw [List.length_map] at hz
  refine PySem.W.sorted_rev_data (enc := fun b : VD => b.2.2) hl.isList k1 k2 c1 c3 hz (fun b hm => ?_) fun out _ ho => sort_fin I hz q out ho
  have := c2 b.2.2 (List.mem_map.mpr ⟨b, hm, rfl⟩)
  omega
/-- the sorted list -/
def sortL (rev : Bool) (l : List D) : Option (List D) := match toPyL l with
  | some ps => if sortOk ps = true then some (l.mergeSort (leD rev)) else none
  | none => none
theorem sort_q {P : Ph} {S : Sx} {σ : Sg} {H : Hp} {rev : Bool} {d : D} {l m : List D} {v : V} {Q : VK} (r : RepS K P S σ H) (rv : RepR K P σ v d) (hl : lstR S d = some l) (hs : sortL rev l = some m) (q : PostN K P S σ m Q) : rSortD K rev v H Q := by
  unfold sortL at hs
  split at hs
  · rename_i ps hp
    split at hs
    · rename_i hok
      cases hs
      obtain ⟨a, vs, e, h1, r1⟩ := lstR_sound r rv hl
      obtain ⟨bs, e1, e2, e3, hb⟩ := pairs_of r.w.same r1 hp
      refine ⟨a, vs, bs, e, h1, e1, fun b hm => (hb b hm).2.1, by rw [e3]; exact hok, ?_⟩
      have em : (bs.mergeSort (PySem.W.dataLe rev fun b : VD => b.2.2)).map (·.2.1) = l.mergeSort (leD rev) := by
        rw [← e2]
        refine PySem.W.sort_maps (fun b : VD => b.2.1) fun x hx y hy => ?_
        unfold leD
        rw [(hb x hx).2.2, (hb y hy).2.2]
        rfl
      have rl : RepL K P ((bs.mergeSort (PySem.W.dataLe rev fun b : VD => b.2.2)).map (·.1)) (l.mergeSort (leD rev)) := by
        rw [← em]
        exact rep_of_pairs fun b hm => (hb b (List.mem_mergeSort.mp hm)).1
      exact q.new (Ph.Le.refl P) r rl
    · cases hs
  · cases hs
def gSort (ds : List D) : Mx (List D) := fun S => match ds with
  | [d] => match lstR S d with
    | some l => match sortL false l with
      | some m => some (m, S)
      | none => none
    | none => none
  | _ => none
theorem calln_sort : CallN K (fun xs H Q => ∃ v, xs = [v] ∧ rSortD K false v H Q) gSort := by
  intro S S' σ H P xs ds d r rx hf Q q
  unfold gSort at hf
  split at hf
  · split at hf
    · split at hf
      · cases hf
        obtain ⟨x, rfl, rq⟩ := rl1 rx
        exact ⟨x, rfl, sort_q r rq (by assumption) (by assumption) q⟩
      · cases hf
    · cases hf
  · cases hf
def nSortR (rev : Bool) (f : Mx (List D)) : Mx (List D) := mbind f fun ds S => match ds with
  | [d] => match lstR S d with
    | some l => match sortL rev l with
      | some m => some (m, S)
      | none => none
    | none => none
  | _ => none
theorem sem_sortR {rev : Bool} {t : TA} {f : Mx (List D)} (h : SemA K t f) : SemN K (tCKw (fun xs zs H Q => ∃ v, xs = [v] ∧ zs = [.bl rev] ∧ rSortD K rev v H Q) t (tCons (tC (.bl rev)) tNil)) (nSortR rev f) := by
  intro S S' σ H P d r0 hf Q q
  obtain ⟨ds, S1, h1, hf⟩ := mbind_some hf
  refine h S S1 σ H P ds r0 h1 _ fun xs H1 P1 le1 r1 rx => ?_
  split at hf
  · split at hf
    · split at hf
      · cases hf
        obtain ⟨x, rfl, rq⟩ := rl1 rx
        exact ⟨x, rfl, rfl, sort_q r1 rq (by assumption) (by assumption) (q.later le1)⟩
      · cases hf
    · cases hf
  · cases hf

/-! ### methods of lists -/
def MetD (K : PySem.W.Frag) (r : V → List V → Hp → VK → Prop) (g : D → List D → Mx D) : Prop :=
  ∀ (S S' : Sx) (σ : Sg) (H : Hp) (P : Ph) (x : V) (xs : List V) (dx : D) (ds : List D) (d : D), RepS K P S σ H → RepR K P σ x dx → RepRL K P σ xs ds → g dx ds S = some (d, S') → ∀ Q : VK, PostE K P S' σ d Q → r x xs H Q
def eM (g : D → List D → Mx D) (a : Mx D) (as : Mx (List D)) : Mx D := mbind a fun x S => match lstR S x with
  | some _ => mbind as (fun xs => g x xs) S
  | none => none
theorem sem_m {r : V → List V → Hp → VK → Prop} {g : D → List D → Mx D} {to : TE} {t : TA} {fo : Mx D} {f : Mx (List D)} (hg : MetD K r g) (ho : SemE K to fo) (h : SemA K t f) : SemE K (tBM K "list" r to t) (eM g fo f) := by
  intro S S' σ H P d r0 hf Q q
  obtain ⟨dx, S1, h1, hf⟩ := mbind_some hf
  split at hf
  · rename_i l hl
    obtain ⟨ds, S2, h2, hf⟩ := mbind_some hf
    refine ho S S1 σ H P dx r0 h1 _ fun x H1 P1 le1 r1 rx => ⟨?_, ?_⟩
    · obtain ⟨a, vs, e, g1, _⟩ := lstR_sound r1 rx hl
      subst e
      exact .inl ⟨rfl, vs, g1⟩
    · refine h S1 S2 σ H1 P1 ds r1 h2 _ fun xs H2 P2 le2 r2 rxs => ?_
      exact hg S2 S' σ H2 P2 x xs dx ds d r2 (rx.mono le2) rxs hf Q ((q.later le1).later le2)
  · cases hf
theorem sem_m0 {r : V → List V → Hp → VK → Prop} {g : D → List D → Mx D} {to : TE} {fo : Mx D} (hg : MetD K r g) (ho : SemE K to fo) : SemE K (tBM0 K "list" r to) (eM g fo aNil) := by
  intro S S' σ H P d r0 hf Q q
  obtain ⟨dx, S1, h1, hf⟩ := mbind_some hf
  split at hf
  · rename_i l hl
    obtain ⟨ds, S2, h2, hf⟩ := mbind_some hf
    cases h2
    refine ho S _ σ H P dx r0 h1 _ fun x H1 P1 le1 r1 rx => ⟨?_, ?_⟩
    · obtain ⟨a, vs, e, g1, _⟩ := lstR_sound r1 rx hl
      subst e
      exact .inl ⟨rfl, vs, g1⟩
    · exact hg _ S' σ H1 P1 x [] dx [] d r1 rx .nil hf Q (q.later le1)
  · cases hf
def mAppend (x : D) (ds : List D) : Mx D := fun S => match ds with
  | [d] => match lstC S x with
    | some l => if d.isCr = false ∧ l.length < mostL then match putC S (l ++ [d]) x with
      | some S' => some (.non, S')
      | none => none else none
    | none => none
  | _ => none
theorem lt_line {k : Nat} (h : k < mostL) : k < sizeLine := Nat.lt_of_lt_of_le h (by decide)
theorem metd_append : MetD K rAppend mAppend := by
  intro S S' σ H P x xs dx ds d r rx rxs hf Q q
  unfold mAppend at hf
  split at hf
  · split at hf
    · rename_i l hl
      split at hf
      · rename_i hc
        split at hf
        · rename_i S2 hp
          cases hf
          obtain ⟨y, rfl, ry⟩ := rl1 rxs
          obtain ⟨a, vs, l', e, h1, hl', r1, put⟩ := putC_sound r rx hp
          rw [hl] at hl'; cases hl'
          exact ⟨a, vs, y, e, rfl, h1, by rw [r1.length]; exact lt_line hc.2, q.now (Ph.Le.refl P) (put _ (r1.append (.cons (ry.rep hc.1) .nil))) (Rep.toR .non)⟩
        · cases hf
      · cases hf
    · cases hf
  · cases hf
def mPop (x : D) (ds : List D) : Mx D := fun S => match ds with
  | [] => match lstC S x with
    | some l => match l[l.length - 1]? with
      | some d => match putC S l.dropLast x with
        | some S' => some (d, S')
        | none => none
      | none => none
    | none => none
  | [.int i] => match lstC S x with
    | some l => if -1000000 ≤ i ∧ i ≤ 1000000 then match seqIndex? i l.length with
      | some k => match l[k]? with
        | some d => match putC S (l.eraseIdx k) x with
          | some S' => some (d, S')
          | none => none
        | none => none
      | none => none else none
    | none => none
  | _ => none
def rPopA : V → List V → Hp → VK → Prop := fun x vs H Q => rPop x vs H Q ∨ rPopAt x vs H Q
theorem mt_popA {X : Cx} : MtR X "list.pop" rPopA := MtR.or mt_pop mt_popAt
theorem metd_pop : MetD K rPopA mPop := by
  intro S S' σ H P x xs dx ds d r rx rxs hf Q q
  unfold mPop at hf
  split at hf
  · split at hf
    · rename_i l hl
      split at hf
      · rename_i d' hd
        split at hf
        · rename_i S2 hp
          cases hf
          cases rxs
          obtain ⟨a, vs, l', e, h1, hl', r1, put⟩ := putC_sound r rx hp
          rw [hl] at hl'; cases hl'
          obtain ⟨v, hv, rv⟩ := r1.get hd
          exact .inl ⟨a, vs, v, e, rfl, h1, by rw [r1.length]; exact hv, q.now (Ph.Le.refl P) (put _ r1.dropLast) rv.toR⟩
        · cases hf
      · cases hf
    · cases hf
  · split at hf
    · rename_i l hl
      split at hf
      · rename_i hi
        split at hf
        · rename_i k hk
          split at hf
          · rename_i d' hd
            split at hf
            · rename_i S2 hp
              cases hf
              obtain ⟨y, rfl, ry⟩ := rl1 rxs
              obtain ⟨a, vs, l', e, h1, hl', r1, put⟩ := putC_sound r rx hp
              rw [hl] at hl'; cases hl'
              obtain ⟨v, hv, rv⟩ := r1.get hd
              exact .inr ⟨a, vs, _, k, v, e, by rw [rep_int ry], h1, by omega, by omega, by rw [r1.length]; exact hk, hv, q.now (Ph.Le.refl P) (put _ (RepL.eraseIdx k r1)) rv.toR⟩
            · cases hf
          · cases hf
        · cases hf
      · cases hf
    · cases hf
  · cases hf
def mExtend (x : D) (ds : List D) : Mx D := fun S => match ds with
  | [d] => match lstC S x with
    | some l => match lstC S d with
      | some m => if l.length + m.length ≤ mostL then match putC S (l ++ m) x with
        | some S' => some (.non, S')
        | none => none else none
      | none => none
    | none => none
  | _ => none
theorem metd_extend : MetD K rExtend mExtend := by
  intro S S' σ H P x xs dx ds d r rx rxs hf Q q
  unfold mExtend at hf
  split at hf
  · split at hf
    · rename_i l hl
      split at hf
      · rename_i m hm
        split at hf
        · rename_i hc
          split at hf
          · rename_i S2 hp
            cases hf
            obtain ⟨y, rfl, ry⟩ := rl1 rxs
            obtain ⟨a, vs, l', e, h1, hl', r1, put⟩ := putC_sound r rx hp
            obtain ⟨b, ws, e', h2, r2⟩ := lstC_sound r ry hm
            rw [hl] at hl'; cases hl'
            exact ⟨a, b, vs, ws, e, by rw [e'], h1, h2, by rw [r1.length, r2.length]; exact le_line hc, q.now (Ph.Le.refl P) (put _ (r1.append r2)) (Rep.toR .non)⟩
          · cases hf
        · cases hf
      · cases hf
    · cases hf
  · cases hf
end
end Ms
set_option Elab.async false
set_option linter.all false
set_option maxRecDepth 100000
set_option maxHeartbeats 1000000
/-! MsE: what a for or a comprehension walks. -/
namespace PySem
open PySem PySem.Spec PyProof.Rows
set_option maxHeartbeats 1000000 in
theorem ms_meets_enum {v : Value} {o : Obj} {H : Heap → Prop} (B : Begins v o H) :
    Meets (Builtin.«enumerate.__new__» ⟨[.type "enumerate", v], []⟩) (fun _ R s => H s.heap ∧
      R (.ok (.ret (.ref (s.heap.push o).objs.size))) { s with heap := (s.heap.push o).push { cls := .type "enumerate", data := .fields #[.none, .bool false, .ref s.heap.objs.size, rawInt 0, .none, .none] } }) :=
  .of_wp fun prog w A R s hh => by
    obtain ⟨hp, gs, dr, tk, os⟩ := s
    obtain ⟨ha, hr⟩ := hh
    have hsub := sub_enumerate
    have st1 : ∀ {A' : Around} {E : Value → Shared → Prop} {Q : Value → Shared → Prop}, Q (.ref hp.objs.size) ⟨hp.push o, gs, dr, tk, os⟩ → wpAny (model prog w) A' (pyIter v) Q E ⟨hp, gs, dr, tk, os⟩ :=
      fun q => B.iter prog w _ _ ⟨hp, gs, dr, tk, os⟩ _ ha q
    wp_walk using st1
    refine wpAny_stack_any fun st => wpAny_pure ?_
    split
    · rename_i c _ _ _ _ _
      cases (c == Value.type "enumerate") <;> (wp_walk using st1; exact ⟨_, rfl, hr⟩)
    · wp_walk using st1
      exact ⟨_, rfl, hr⟩
theorem ms_enum_begins {prog : Program} {w : World} {A : Around} {E : Value → Shared → Prop} {s : Shared} {v : Value} {o : Obj} {H : Heap → Prop} {Q : Value → Shared → Prop} (B : Begins v o H) (h1 : H s.heap)
    (h : ∀ h', IsEnum h' (s.heap.objs.size + 1) s.heap.objs.size 0 .none → h'.get? s.heap.objs.size = some o → h'.objs.size = s.heap.objs.size + 2 → (∀ b o, s.heap.get? b = some o → h'.get? b = some o) → Q (.ref (s.heap.objs.size + 1)) { s with heap := h' }) :
    wpAny (model prog w) A (call (.type "enumerate") [v]) Q E s := by
  refine callType_new F.called_enumerate (by decide) (F.typeCall_enumerate_1 _) (F.newCall_enumerate_1 _) (fun obj => F.args_object_init_2 obj _) F.entry_enumerate_new (ms_meets_enum B) ⟨h1, ?_⟩
  have hz : (s.heap.push o).objs.size = s.heap.objs.size + 1 := Heap.size_push ..
  show _ ∧ _
  rw [hz]
  have he : IsEnum ((s.heap.push o).push { cls := .type "enumerate", data := .fields #[.none, .bool false, .ref s.heap.objs.size, rawInt 0, .none, .none] }) (s.heap.objs.size + 1) s.heap.objs.size 0 .none := by
    have q := Heap.get?_push_size (s.heap.push o) (o := { cls := .type "enumerate", data := .fields #[.none, .bool false, .ref s.heap.objs.size, rawInt 0, .none, .none] }) rfl
    rw [hz] at q; exact q
  exact ⟨⟨_, he, rfl⟩, h _ he (Heap.get?_push_of_some _ (Heap.get?_push_size _ B.free)) (by rw [Heap.size_push, hz]) fun b o x => Heap.get?_push_of_some _ (Heap.get?_push_of_some _ x)⟩
end PySem

namespace Ms
open PySem PySem.Spec PyProof.Rows L2
set_option autoImplicit false
/-! ### enumerate of a tuple -/
/-- the tuple at a, its items in new pairs with their places -/
def IteT (K : PySem.W.Frag) (a : Addr) : It where
  go := fun i H => ∃ (xs : List V) (x : V), SqT K H a xs ∧ xs[i]? = some x
  yld := fun i H v H' => ∃ T x, v = .ref T ∧ H T = none ∧ H' = upd H T (.tup [.int (i : Nat), x]) ∧ ∀ xs, SqT K H a xs → xs[i]? = some x
  stop := fun i H => ∃ xs : List V, SqT K H a xs ∧ xs.length = i
theorem turn_enumT {P : Program} {w : World} {K : PySem.W.Frag} {elts : List Expr} {kk : Nat} {tpos : Pos} (a e it : Addr) :
    Turn P w K (.Tuple elts kk tpos) (IteT K a) [e, it] e (fun i h => (∃ old, IsEnum h e it ((i : Nat) : Int) old) ∧ h.IsTupleIter it a i ∧ e ≠ it ∧ a ≠ it ∧ a ≠ e) where
  mem := by simp
  obj := fun i h st b hb => by
    obtain ⟨⟨old, he⟩, ⟨o, ho, hc, hd⟩, _⟩ := st
    rcases (show b = e ∨ b = it by simpa using hb) with rfl | rfl
    · exact ⟨_, he, fun v q => nomatch q⟩
    · exact ⟨_, ho, fun v q => by rw [hd] at q; cases q⟩
  keep := fun i h h' st k => ⟨let ⟨old, he⟩ := st.1; ⟨old, k e (by simp) _ he⟩, st.2.1.at fun o q => k it (by simp) o q, st.2.2⟩
  item := by
    intro X hP hw hK hc i pins s σ H E I hf st hg
    subst hP hw hK
    obtain ⟨⟨old, he⟩, hit, hne, hai, hae⟩ := st
    obtain ⟨xs, x, hq, hx⟩ := hg
    obtain ⟨its, rv, pl, hz⟩ := I.tuple hq
    have hel : e < s.heap.objs.size := Heap.lt_size he
    have hil : it < s.heap.objs.size := by obtain ⟨_, q, _⟩ := hit; exact Heap.lt_size q
    have hlt : i < its.toArray.size := by
      rw [List.size_toArray, ← rv.length]
      exact (List.getElem?_eq_some_iff.mp hx).1
    have Dr := Draws.tuple (prog := X.prog) (w := X.w) (A := X.A.in1) (I.ok.hd hc) it a hai its.toArray
    refine wpAny_pyNext_enum_itemD (Q := _) Dr he ⟨hit, pl⟩ hlt hne (by simp [hne, Ne.symm hae]) fun u h' tk hu ho hst hT hsz hk => ?_
    obtain ⟨u', hu', ru⟩ := rv.get hx
    have eu : u' = u := by
      have q : its[i]? = some u := by simpa using hu
      rw [hu'] at q; exact Option.some.inj q
    subst eu
    refine ⟨_, rfl, wpAny_letOwnedTupleGo_enum (s := { s with heap := h', toks := tk + 1 }) ho fun h'' he' sb => ?_⟩
    have hT2 : h''.get? s.heap.objs.size = some { cls := .type "tuple", data := .seq #[.int i tk, u'] } := (sb.2 _ (Nat.ne_of_gt hel)).trans hT
    have new : ObjOk X.prog X.w (upd H s.heap.objs.size (.tup [.int (i : Nat), x])) h'' s.heap.objs.size (.tup [.int (i : Nat), x]) :=
      ⟨by show 2 ≤ sizeLine; decide, [.int i tk, u'], .cons ⟨_, rfl⟩ (.cons ru .nil), ⟨_, hT2, rfl, _, rfl⟩⟩
    have far : ∀ b ob, b ∉ [e, it] → s.heap.get? b = some ob → h''.get? b = some ob := fun b ob hb q => by
      have h1 : b ≠ e := fun z => hb (by simp [z])
      have h2 : b ≠ it := fun z => hb (by simp [z])
      exact (sb.2 b h1).trans (hk b ob h1 h2 q)
    have I1 : Inv X pins σ (upd H s.heap.objs.size (.tup [.int (i : Nat), x])) { s with heap := h'', toks := tk + 1 } := I.turnedNew (ch := [e, it]) far hf (Nat.le_refl _) new
    refine ⟨.ref s.heap.objs.size, _, I1, rfl, ⟨_, x, rfl, I.hok.fresh (Nat.le_refl _), rfl, fun ys hy => by rw [I.tuple_inj hy hq]; exact hx⟩, ⟨⟨u', ?_⟩, hst.1.at fun o q => (sb.2 it (Ne.symm hne)).trans q, hne, hai, hae⟩, fun b hb => ?_⟩
    · have e1 : ((i + 1 : Nat) : Int) = (i : Int) + 1 := by omega
      rw [e1]; exact he'
    · have hb' : b < s.heap.objs.size := by
        rcases (show b = e ∨ b = it by simpa using hb) with rfl | rfl
        · exact hel
        · exact hil
      rw [upd_ne (Nat.ne_of_lt hb')]
      exact (hf b hb).1
  done := by
    intro X hP hw hK hc i pins s σ H E I hf st hg
    subst hP hw hK
    obtain ⟨⟨old, he⟩, hit, hne, hai, hae⟩ := st
    obtain ⟨xs, hq, hx⟩ := hg
    obtain ⟨its, rv, pl, hz⟩ := I.tuple hq
    obtain ⟨f0, f1, f2, f3, f4, f5⟩ := hf it (by simp)
    have hl : its.toArray.size = i := by rw [List.size_toArray, ← rv.length, hx]
    have Dr := Draws.tuple (prog := X.prog) (w := X.w) (A := X.A.in1) (I.ok.hd hc) it a hai its.toArray
    exact wpAny_pyNext_enum_endD Dr he (by rw [hl]; exact ⟨hit, pl⟩) fun h' eb => ⟨rfl, I.turned (t' := s.toks) (fun b o hb q => eb b o hb q) f0 f1 f3 f4 f5⟩
  self := fun A i s Q E st h => let ⟨⟨_, he⟩, _⟩ := st; wpAny_pyIter_enum he h
def iEnumT (K : PySem.W.Frag) (ta : TA) : TI := fun σ H R => ta σ H fun vs H1 => ∃ a xs, vs = [.ref a] ∧ SqT K H1 a xs ∧ R (IteT K a) H1
theorem pi_enumT {X : Cx} {e : Expr} {ta : TA} {p pos tpos : Pos} {elts : List Expr} {kk : Nat} (hg : Gl X "enumerate") (hm : X.mg "enumerate" = none) (ha : PA X [e] ta) (hs : starEach [e] X.env = [(false, eval e X.env)] := by rfl) :
    PI X (.Tuple elts kk tpos) (.Call (.Name "enumerate" p) [e] [] pos) (iEnumT X.K ta) := by
  refine ⟨fun pins s σ H R I h => ?_⟩
  refine Call_ (ld_blt I hg hm boot_enumerate (PyProof.Rows.callWith_type1 (thn (ha.run pos pins s σ H _ I h) fun us s1 ⟨vs, H1, I1, r1, q1⟩ => ?_) hs rfl))
  obtain ⟨a, xs, ex, hq, q⟩ := q1
  subst ex
  obtain rfl := Vals.ref1 r1
  obtain ⟨its, rv, pl, hz⟩ := I1.tuple hq
  have ha' : a < s1.heap.objs.size := pl.lt
  refine ms_enum_begins (begins_tuple a its.toArray) pl fun h' he hit hsz hk => wpAny_pyIter_enum he ?_
  have I2 : Inv X pins σ H1 { s1 with heap := h' } := I1.kept (t' := s1.toks) hk
  refine ⟨s1.heap.objs.size + 1, [s1.heap.objs.size + 1, s1.heap.objs.size], _, _, H1, rfl, I2, turn_enumT a (s1.heap.objs.size + 1) s1.heap.objs.size, ⟨⟨.none, he⟩, ⟨_, hit, rfl, rfl⟩, Nat.succ_ne_self _, Nat.ne_of_lt ha', Nat.ne_of_lt (Nat.lt_succ_of_lt ha')⟩, fun b hb => ?_, q⟩
  have hle : s1.heap.objs.size ≤ b := by
    rcases (show b = s1.heap.objs.size + 1 ∨ b = s1.heap.objs.size by simpa using hb) with z | z
    · rw [z]; exact Nat.le_succ _
    · rw [z]; exact Nat.le_refl _
  exact I1.fpOk hle (I1.hok.fresh hle)
theorem walk_enumT {K : PySem.W.Frag} {a : Addr} {xs : List V} : Walk (IteT K a) xs.length (fun H => SqT K H a xs) (YPair (fun i => some (.int (i : Nat))) (fun i => xs[i]?)) := by
  refine ⟨fun i _ hi q => ⟨xs, xs[i], q, by simp [hi]⟩, fun _ q => ⟨xs, q, rfl⟩, fun i H v H' _ q y => ?_⟩
  obtain ⟨T, x, h1, h2, h3, h4⟩ := y
  exact ⟨T, .int (i : Nat), x, h1, h2, h3, rfl, h4 xs q⟩
theorem PI.or {X : Cx} {tg e : Expr} {w1 w2 : TI} (h1 : PI X tg e w1) (h2 : PI X tg e w2) : PI X tg e (fun σ H R => w1 σ H R ∨ w2 σ H R) := ⟨fun pins s σ H R I h => by
  rcases h with h | h
  · exact h1.run pins s σ H R I h
  · exact h2.run pins s σ H R I h⟩

/-! ### at the data level -/
/-- J walks ds, while what is frozen at P stands -/
def WalkD (K : PySem.W.Frag) (P : Ph) (J : It) (ds : List D) : Prop :=
  ∀ (P2 : Ph), P.Le P2 → ∀ (S2 : Sx) (τ : Sg) (H2 : Hp), RepS K P2 S2 τ H2 →
    (∀ (i : Nat) (d : D), ds[i]? = some d → J.go i H2 ∧ ∀ x H3, J.yld i H2 x H3 → ∃ P3, P2.Le P3 ∧ Rep K P3 x d ∧ Same H2 H3 ∧ P3.wa = P2.wa ∧ (∀ b, H2 b ≠ none → P3.hb b = P2.hb b) ∧ ∀ (S : Sx) (τ : Sg), RepS K P2 S τ H2 → RepS K P3 S τ H3) ∧ J.stop ds.length H2
def SemI (K : PySem.W.Frag) (wi : TI) (f : Mx (List D)) : Prop :=
  ∀ (S S' : Sx) (σ : Sg) (H : Hp) (P : Ph) (ds : List D), RepS K P S σ H → f S = some (ds, S') →
    ∀ R : It → Hp → Prop, (∀ (J : It) (H' : Hp) (P' : Ph), P.Le P' → RepS K P' S' σ H' → WalkD K P' J ds → R J H') → wi σ H R
/-- what never changes: a tuple, a list -/
def frzC : D → Option (List D)
  | .tup l => some l
  | .lst l => some l
  | .rd l => some l
  | _ => none
section
variable {K : PySem.W.Frag}
theorem walkd_at {P : Ph} {J : It} {G : Hp → Prop} {vs : List V} {ds : List D} (w : Walk J vs.length G (YAt vs)) (hG : ∀ P2, P.Le P2 → ∀ (S2 : Sx) (τ : Sg) (H2 : Hp), RepS K P2 S2 τ H2 → G H2) (r : RepL K P vs ds) : WalkD K P J ds := by
  intro P2 le S2 τ H2 r2
  have g := hG P2 le S2 τ H2 r2
  refine ⟨fun i d hd => ?_, by rw [← r.length]; exact w.stops H2 g⟩
  have hi : i < vs.length := by rw [r.length]; exact (List.getElem?_eq_some_iff.mp hd).1
  refine ⟨w.goes i H2 hi g, fun x H3 y => ?_⟩
  obtain ⟨e, hx⟩ := w.yields i H2 x H3 hi g y
  subst e
  obtain ⟨v, hv, rv⟩ := r.get hd
  rw [hx] at hv; cases hv
  exact ⟨P2, Ph.Le.refl P2, rv.mono le, Same.refl _, rfl, fun _ _ => rfl, fun S τ q => q⟩
def iSeq (f : Mx D) : Mx (List D) := mbind f fun d S => match frzC d with
  | some l => some (l, S)
  | none => none
theorem frz_sq {P : Ph} {σ : Sg} {v : V} {d : D} {l : List D} (r : RepR K P σ v d) (h : frzC d = some l) : ∃ a vs, v = .ref a ∧ ((∃ l', d = .tup l') ∧ SqT K P.hb a vs ∨ (∀ l', d ≠ .tup l') ∧ SqL K P.hb a vs) ∧ RepL K P vs l := by
  cases d with
  | tup m =>
    cases h
    obtain ⟨a, vs, e, h1, h2⟩ := rep_tup r
    exact ⟨a, vs, e, .inl ⟨⟨_, rfl⟩, h1⟩, h2⟩
  | lst m =>
    cases h
    cases (show Rep K P v (.lst l) from r) with
    | lst h1 h2 => exact ⟨_, _, rfl, .inr ⟨fun _ e => (by cases e), SqL.of h1⟩, h2⟩
  | rd m =>
    cases h
    cases (show Rep K P v (.rd l) from r) with
    | rd h1 h2 => exact ⟨_, _, rfl, .inr ⟨fun _ e => (by cases e), h1⟩, h2⟩
  | _ => cases h
def iSq (K : PySem.W.Frag) (t : TE) : TI := fun σ H R => iList K t σ H R ∨ iTup K t σ H R
theorem pi_sq {X : Cx} {tg e : Expr} {t : TE} (h : PE X e t) : PI X tg e (iSq X.K t) := PI.or (pi_list h) (pi_tup h)
theorem sem_iseq {t : TE} {f : Mx D} (h : SemE K t f) : SemI K (iSq K t) (iSeq f) := by
  intro S S' σ H P ds r hf R q
  obtain ⟨d, S1, h1, hf⟩ := mbind_some hf
  split at hf
  · rename_i l hl
    cases hf
    by_cases ht : ∃ l', d = .tup l'
    · refine .inr (h S _ σ H P d r h1 _ fun v H1 P1 le1 r1 rv => ?_)
      obtain ⟨a, vs, e, h2, h3⟩ := frz_sq rv hl
      rcases h2 with ⟨_, h2⟩ | ⟨h2, _⟩
      · exact ⟨a, e, ⟨vs, sameT r1.w.same h2⟩, q _ H1 P1 le1 r1 (walkd_at walk_tup (fun P2 le _ _ H2 r2 => sameT (le.hb.trans r2.w.same) h2) h3)⟩
      · obtain ⟨l', e'⟩ := ht; exact absurd e' (h2 l')
    · refine .inl (h S _ σ H P d r h1 _ fun v H1 P1 le1 r1 rv => ?_)
      obtain ⟨a, vs, e, h2, h3⟩ := frz_sq rv hl
      rcases h2 with ⟨h2, _⟩ | ⟨_, h2⟩
      · exact absurd h2 ht
      · exact ⟨a, e, ⟨vs, r1.w.same.seq h2⟩, q _ H1 P1 le1 r1 (walkd_at walk_list (fun P2 le _ _ H2 r2 => (le.hb.trans r2.w.same).seq h2) h3)⟩
  · cases hf
/-- range -/
def i62 (a : Int) : Bool := decide (-4611686018427387904 ≤ a) && decide (a < 4611686018427387904)
def iRg1 (f : Mx D) : Mx (List D) := mbind f fun d S => match d with
  | .int j => if i62 j = true then some (rgD 0 j, S) else none
  | _ => none
def iRg2 (f g : Mx D) : Mx (List D) := mbind f fun d => mbind g fun e S => match d, e with
  | .int i, .int j => if (i62 i && i62 j) = true then some (rgD i j, S) else none
  | _, _ => none
theorem walkd_rg {P : Ph} {a : Int} {m : Nat} : WalkD K P (Itr a m) ((List.range m).map fun i => D.int (a + (i : Nat))) := by
  intro P2 le S2 τ H2 r2
  refine ⟨fun i d hd => ?_, by simp [Itr]⟩
  have hi : i < m := by
    have := (List.getElem?_eq_some_iff.mp hd).1
    simpa using this
  refine ⟨hi, fun x H3 y => ?_⟩
  obtain ⟨e, e2⟩ := y
  subst e e2
  have ed : d = .int (a + (i : Nat)) := by
    rw [List.getElem?_map, List.getElem?_range hi] at hd
    exact (Option.some.inj hd).symm
  subst ed
  exact ⟨P2, Ph.Le.refl P2, .int _, Same.refl _, rfl, fun _ _ => rfl, fun S τ q => q⟩
theorem sem_irg1 {t : TE} {f : Mx D} (h : SemE K t f) : SemI K (iRng1 (tCons t tNil)) (iRg1 f) := by
  intro S S' σ H P ds r hf R q
  obtain ⟨d, S1, h1, hf⟩ := mbind_some hf
  split at hf
  · split at hf
    · rename_i hc
      cases hf
      unfold i62 at hc
      simp only [Bool.and_eq_true, decide_eq_true_eq] at hc
      refine h S _ σ H P _ r h1 _ fun v H1 P1 le1 r1 rv => ⟨_, congrArg (fun z => [z]) (rep_int rv), by omega, by omega, ?_⟩
      refine q _ H1 P1 le1 r1 ?_
      unfold rgD
      rw [Int.sub_zero]
      exact walkd_rg
    · cases hf
  · cases hf
theorem two_eq {a b c d : V} (h : a = c) (h' : b = d) : [a, b] = [c, d] := by rw [h, h']
theorem sem_irg2 {t u : TE} {f g : Mx D} (h : SemE K t f) (h' : SemE K u g) : SemI K (iRng2 (tCons t (tCons u tNil))) (iRg2 f g) := by
  intro S S' σ H P ds r hf R q
  obtain ⟨d, S1, h1, hf⟩ := mbind_some hf
  obtain ⟨e, S2, h2, hf⟩ := mbind_some hf
  split at hf
  · split at hf
    · rename_i hc
      cases hf
      unfold i62 at hc
      simp only [Bool.and_eq_true, decide_eq_true_eq] at hc
      refine h S S1 σ H P _ r h1 _ fun v H1 P1 le1 r1 rv => ?_
      refine h' S1 _ σ H1 P1 _ r1 h2 _ fun w H2 P2 le2 r2 rw' => ⟨_, _, two_eq (rep_int rv) (rep_int rw'), by omega, ?_⟩
      exact q _ H2 P2 (le1.trans le2) r2 walkd_rg
    · cases hf
  · cases hf
/-- new pairs -/
theorem walkd_pair {P : Ph} {J : It} {G : Hp → Prop} {m : Nat} {xs ys : Nat → Option V} {ds : List D} (hm : ds.length = m) (w : Walk J m G (YPair xs ys)) (hG : ∀ P2, P.Le P2 → ∀ (S2 : Sx) (τ : Sg) (H2 : Hp), RepS K P2 S2 τ H2 → G H2)
    (hx : ∀ i x y, xs i = some x → ys i = some y → ∀ d, ds[i]? = some d → ∃ a b, d = .tup [a, b] ∧ Rep K P x a ∧ Rep K P y b) : WalkD K P J ds := by
  intro P2 le S2 τ H2 r2
  have g := hG P2 le S2 τ H2 r2
  refine ⟨fun i d hd => ?_, by rw [hm]; exact w.stops H2 g⟩
  have hi : i < m := by rw [← hm]; exact (List.getElem?_eq_some_iff.mp hd).1
  refine ⟨w.goes i H2 hi g, fun v H3 yl => ?_⟩
  obtain ⟨T, x, y, e1, hT, e2, e3, e4⟩ := w.yields i H2 v H3 hi g yl
  obtain ⟨a, b, rfl, ra, rb⟩ := hx i x y e3 e4 d hd
  subst e1 e2
  obtain ⟨le3, _, rv⟩ := tup_new r2 (.cons (ra.mono le) (.cons (rb.mono le) .nil)) hT
  exact ⟨P2.add T (.tup [x, y]), le3, rv, same_upd hT, rfl, fun b hb => upd_ne fun e => hb (by rw [e]; exact hT), fun S τ q => q.alloc hT⟩
def enumD (k : Nat) : List D → List D
  | [] => []
  | d :: ds => .tup [.int (k : Nat), d] :: enumD (k + 1) ds
theorem enumD_length : ∀ (l : List D) (k : Nat), (enumD k l).length = l.length
  | [], _ => rfl
  | _ :: l, k => by simp [enumD, enumD_length l (k + 1)]
theorem enumD_get : ∀ (l : List D) (k i : Nat), (enumD k l)[i]? = l[i]?.map fun d => .tup [.int ((k + i : Nat) : Int), d]
  | [], _, _ => by simp [enumD]
  | d :: l, k, 0 => by simp [enumD]
  | d :: l, k, i + 1 => by
    rw [enumD, List.getElem?_cons_succ, List.getElem?_cons_succ, enumD_get l (k + 1) i]
    have e : k + 1 + i = k + (i + 1) := by omega
    rw [e]
def iEn (f : Mx D) : Mx (List D) := mbind f fun d S => match frzC d with
  | some l => some (enumD 0 l, S)
  | none => none
def iEnA (K : PySem.W.Frag) (t : TA) : TI := fun σ H R => iEnum K t σ H R ∨ iEnumT K t σ H R
theorem pi_en {X : Cx} {e : Expr} {ta : TA} {p pos tpos : Pos} {elts : List Expr} {kk : Nat} (hg : Gl X "enumerate") (hm : X.mg "enumerate" = none) (ha : PA X [e] ta) (hs : starEach [e] X.env = [(false, eval e X.env)] := by rfl) :
    PI X (.Tuple elts kk tpos) (.Call (.Name "enumerate" p) [e] [] pos) (iEnA X.K ta) := PI.or (pi_enum hg hm ha hs) (pi_enumT hg hm ha hs)
theorem enum_pairs {P : Ph} {vs : List V} {l : List D} (h : RepL K P vs l) : ∀ i x y, (fun i : Nat => some (V.int (i : Nat))) i = some x → vs[i]? = some y → ∀ d, (enumD 0 l)[i]? = some d → ∃ a b, d = .tup [a, b] ∧ Rep K P x a ∧ Rep K P y b := by
  intro i x y e1 e2 d hd
  cases e1
  rw [enumD_get] at hd
  cases hl : l[i]? with
  | none => rw [hl] at hd; cases hd
  | some b =>
    rw [hl] at hd
    cases hd
    obtain ⟨v, hv, rv⟩ := h.get hl
    rw [e2] at hv; cases hv
    refine ⟨_, _, rfl, ?_, rv⟩
    rw [Nat.zero_add]
    exact .int _
theorem sem_ien {t : TE} {f : Mx D} (h : SemE K t f) : SemI K (iEnA K (tCons t tNil)) (iEn f) := by
  intro S S' σ H P ds r hf R q
  obtain ⟨d, S1, h1, hf⟩ := mbind_some hf
  split at hf
  · rename_i l hl
    cases hf
    by_cases ht : ∃ l', d = .tup l'
    · refine .inr (h S _ σ H P d r h1 _ fun v H1 P1 le1 r1 rv => ?_)
      obtain ⟨a, vs, e, h2, h3⟩ := frz_sq rv hl
      rcases h2 with ⟨_, h2⟩ | ⟨h2, _⟩
      · exact ⟨a, vs, by rw [e], sameT r1.w.same h2, q _ H1 P1 le1 r1 (walkd_pair (by rw [enumD_length, h3.length]) walk_enumT (fun P2 le _ _ H2 r2 => sameT (le.hb.trans r2.w.same) h2) (enum_pairs h3))⟩
      · obtain ⟨l', e'⟩ := ht; exact absurd e' (h2 l')
    · refine .inl (h S _ σ H P d r h1 _ fun v H1 P1 le1 r1 rv => ?_)
      obtain ⟨a, vs, e, h2, h3⟩ := frz_sq rv hl
      rcases h2 with ⟨h2, _⟩ | ⟨_, h2⟩
      · exact absurd h2 ht
      · exact ⟨a, vs, by rw [e], r1.w.same.seq h2, q _ H1 P1 le1 r1 (walkd_pair (by rw [enumD_length, h3.length]) walk_enum (fun P2 le _ _ H2 r2 => (le.hb.trans r2.w.same).seq h2) (enum_pairs h3))⟩
  · cases hf
/-- zip -/
def zipD : List D → List D → List D
  | a :: as, b :: bs => .tup [a, b] :: zipD as bs
  | _, _ => []
theorem zipD_length : ∀ (l m : List D), (zipD l m).length = min l.length m.length
  | [], _ => by simp [zipD]
  | _ :: _, [] => by simp [zipD]
  | a :: l, b :: m => by simp [zipD, zipD_length l m]
theorem zipD_get : ∀ (l m : List D) (i : Nat) (d : D), (zipD l m)[i]? = some d → ∃ a b, l[i]? = some a ∧ m[i]? = some b ∧ d = .tup [a, b]
  | [], _, _, _, h => by simp [zipD] at h
  | _ :: _, [], _, _, h => by simp [zipD] at h
  | a :: l, b :: m, 0, d, h => ⟨a, b, rfl, rfl, by simpa [zipD] using h.symm⟩
  | a :: l, b :: m, i + 1, d, h => by
    rw [zipD, List.getElem?_cons_succ] at h
    obtain ⟨x, y, h1, h2, h3⟩ := zipD_get l m i d h
    exact ⟨x, y, h1, h2, h3⟩
theorem zip_pairs {P : Ph} {vs ws : List V} {l m : List D} (h : RepL K P vs l) (h' : RepL K P ws m) : ∀ (i : Nat) (x y : V), vs[i]? = some x → ws[i]? = some y → ∀ d : D, (zipD l m)[i]? = some d → ∃ a b, d = .tup [a, b] ∧ Rep K P x a ∧ Rep K P y b := by
  intro i x y e1 e2 d hd
  obtain ⟨a, b, h1, h2, rfl⟩ := zipD_get l m i d hd
  obtain ⟨v, hv, rv⟩ := h.get h1
  obtain ⟨w, hw, rw'⟩ := h'.get h2
  rw [e1] at hv; cases hv
  rw [e2] at hw; cases hw
  exact ⟨a, b, rfl, rv, rw'⟩
theorem walk_zipT {a b : Addr} {xs ys : List V} {m : Nat} (hm : m = min xs.length ys.length) : Walk (RZ.ItzT K a b) m (fun H => SqT K H a xs ∧ SqT K H b ys) (YPair (fun i => xs[i]?) (fun i => ys[i]?)) := by
  subst hm
  refine ⟨fun i _ hi q => ?_, fun _ q => ⟨xs, ys, q.1, q.2, by omega⟩, fun i H v H' _ q y => ?_⟩
  · have h1 : i < xs.length := by omega
    have h2 : i < ys.length := by omega
    exact ⟨xs, ys, xs[i], ys[i], q.1, q.2, by simp [h1], by simp [h2]⟩
  · obtain ⟨T, x, z, h1, h2, h3, h4, h5⟩ := y
    exact ⟨T, x, z, h1, h2, h3, h4 xs q.1, h5 ys q.2⟩
def iZip2 (f g : Mx D) : Mx (List D) := mbind f fun d => mbind g fun e S => match d, e with
  | .tup l, .tup m => some (zipD l m, S)
  | .lst l, .lst m => some (zipD l m, S)
  | _, _ => none
theorem sem_izip {t u : TE} {f g : Mx D} (h : SemE K t f) (h' : SemE K u g) : SemI K (RZ.iZipA K (tCons t (tCons u tNil))) (iZip2 f g) := by
  intro S S' σ H P ds r hf R q
  obtain ⟨d, S1, h1, hf⟩ := mbind_some hf
  obtain ⟨e, S2, h2, hf⟩ := mbind_some hf
  refine h S S1 σ H P _ r h1 _ fun v H1 P1 le1 r1 rv => ?_
  refine h' S1 S2 σ H1 P1 _ r1 h2 _ fun w H2 P2 le2 r2 rw' => ?_
  split at hf
  · cases hf
    obtain ⟨a, vs, e1, g1, g2⟩ := rep_tup (rv.mono le2)
    obtain ⟨b, ws, e2, g3, g4⟩ := rep_tup rw'
    subst e1 e2
    refine ⟨a, b, vs, ws, rfl, .inr ⟨sameT r2.w.same g1, sameT r2.w.same g3, ?_⟩⟩
    exact q _ H2 P2 (le1.trans le2) r2 (walkd_pair (by rw [zipD_length, g2.length, g4.length]) (walk_zipT rfl) (fun P3 le _ _ H3 r3 => ⟨sameT (le.hb.trans r3.w.same) g1, sameT (le.hb.trans r3.w.same) g3⟩) (zip_pairs g2 g4))
  · cases hf
    cases (show Rep K P2 v (.lst _) from rv.mono le2) with
    | lst g1 g2 =>
      cases (show Rep K P2 w (.lst _) from rw') with
      | lst g3 g4 =>
        refine ⟨_, _, _, _, rfl, .inl ⟨SqL.of (r2.w.same _ _ g1), SqL.of (r2.w.same _ _ g3), ?_⟩⟩
        exact q _ H2 P2 (le1.trans le2) r2 (walkd_pair (by rw [zipD_length, g2.length, g4.length]) (walk_zip rfl) (fun P3 le _ _ H3 r3 => ⟨SqL.of ((le.hb.trans r3.w.same) _ _ g1), SqL.of ((le.hb.trans r3.w.same) _ _ g3)⟩) (zip_pairs g2 g4))
  · cases hf
/-- reversed -/
theorem walk_revT {a : Addr} {xs : List V} : Walk (RT.ItvT K a xs.length) xs.length (fun H => SqT K H a xs) (fun i H x H' => H' = H ∧ xs[xs.length - 1 - i]? = some x) :=
  ⟨fun i _ hi q => ⟨hi, xs, xs[xs.length - 1 - i]'(by omega), q, by simp [show xs.length - 1 - i < xs.length by omega]⟩, fun _ _ => Nat.le_refl _, fun _ _ _ _ _ q y => ⟨y.1, y.2 xs q⟩⟩
theorem rev_at {vs : List V} {x : V} {i : Nat} (hi : i < vs.length) (h : vs[vs.length - 1 - i]? = some x) : vs.reverse[i]? = some x := by
  rw [List.getElem?_reverse hi]; exact h
def iRv (f : Mx D) : Mx (List D) := mbind f fun d S => match frzC d with
  | some l => some (l.reverse, S)
  | none => none
theorem Walk.revd {J : It} {G : Hp → Prop} {vs : List V} (w : Walk J vs.length G (fun i H x H' => H' = H ∧ vs[vs.length - 1 - i]? = some x)) : Walk J vs.reverse.length G (YAt vs.reverse) := by
  rw [List.length_reverse]
  exact ⟨w.goes, w.stops, fun i H x H' hi q y => let z := w.yields i H x H' hi q y; ⟨z.1, rev_at hi z.2⟩⟩
theorem sem_irv {t : TE} {f : Mx D} (h : SemE K t f) : SemI K (RT.iRevA K t) (iRv f) := by
  intro S S' σ H P ds r hf R q
  obtain ⟨d, S1, h1, hf⟩ := mbind_some hf
  split at hf
  · rename_i l hl
    cases hf
    refine h S _ σ H P d r h1 _ fun v H1 P1 le1 r1 rv => ?_
    obtain ⟨a, vs, e, h2, h3⟩ := frz_sq rv hl
    rcases h2 with ⟨_, h2⟩ | ⟨_, h2⟩
    · exact ⟨a, vs, e, .inr ⟨sameT r1.w.same h2, q _ H1 P1 le1 r1 (walkd_at (Walk.revd walk_revT) (fun P2 le _ _ H2 r2 => sameT (le.hb.trans r2.w.same) h2) h3.reverse)⟩⟩
    · exact ⟨a, vs, e, .inl ⟨r1.w.same.seq h2, q _ H1 P1 le1 r1 (walkd_at (Walk.revd walk_rev) (fun P2 le _ _ H2 r2 => (le.hb.trans r2.w.same).seq h2) h3.reverse)⟩⟩
  · cases hf
end
end Ms
set_option Elab.async false
set_option linter.all false
set_option maxRecDepth 100000
set_option maxHeartbeats 1000000
/-! MsF: targets, comprehensions, statements, defs. -/
namespace Ms
open PySem PySem.Spec PyProof.Rows L2
set_option autoImplicit false

section
variable {K : PySem.W.Frag}
/-! ### a list that is no one's yet, while expressions are run -/
theorem semE_loose {t : TE} {f : Mx D} (h : SemE K t f) {S S' : Sx} {σ : Sg} {H : Hp} {P : Ph} {d : D} {p : Addr} {vs : List V} (r : RepS K P S σ H) (L : Loose P S σ H p vs) (hf : f S = some (d, S')) {Q : VK}
    (q : ∀ (v : V) (H' : Hp) (P' : Ph), P.Le P' → RepS K P' S' σ H' → RepR K P' σ v d → Loose P' S' σ H' p vs → Q v H') : t σ H Q := by
  refine h S S' σ H (P.base S σ H) d r.base hf Q fun v H1 P1 le1 r1 rv => ?_
  obtain ⟨le, r2⟩ := r.back le1 r1
  exact q v H1 _ le r2 rv.rebase (L.stay r le1 r1)
theorem semT_loose {t : TT} {f : Mx Bool} (h : SemT K t f) {S S' : Sx} {σ : Sg} {H : Hp} {P : Ph} {b : Bool} {p : Addr} {vs : List V} (r : RepS K P S σ H) (L : Loose P S σ H p vs) (hf : f S = some (b, S')) {Q : Bool → Hp → Prop}
    (q : ∀ (H' : Hp) (P' : Ph), P.Le P' → RepS K P' S' σ H' → Loose P' S' σ H' p vs → Q b H') : t σ H Q := by
  refine h S S' σ H (P.base S σ H) b r.base hf Q fun H1 P1 le1 r1 => ?_
  obtain ⟨le, r2⟩ := r.back le1 r1
  exact q H1 _ le r2 (L.stay r le1 r1)
theorem semN_loose {t : TE} {f : Mx (List D)} (h : SemN K t f) {S S' : Sx} {σ : Sg} {H : Hp} {P : Ph} {ds : List D} {p : Addr} {vs : List V} (r : RepS K P S σ H) (L : Loose P S σ H p vs) (hf : f S = some (ds, S')) {Q : VK}
    (q : ∀ (p' : Addr) (ws : List V) (H' : Hp) (P' : Ph), P.Le P' → RepS K P' S' σ H' → Loose P' S' σ H' p vs → Loose P' S' σ H' p' ws → RepL K P' ws ds → p ≠ p' → Q (.ref p') H') : t σ H Q := by
  refine h S S' σ H (P.base S σ H) ds r.base hf Q fun p' ws H1 P1 le1 r1 L1 rl => ?_
  obtain ⟨le, r2⟩ := r.back le1 r1
  have hne : p ≠ p' := fun e => by
    subst e
    have e1 : P1.h0 = H := le1.h0
    have e2 : P1.m0 = fun a => MutW P S.w a ∨ CellAt S σ a := le1.m0
    rcases L1.h0 with z | z
    · rw [e1, L.at_] at z; cases z
    · rw [e2] at z
      rcases z with z | z
      · exact L.mu z
      · exact L.cell z
  have L2 : Loose (P.back P1) S' σ H1 p' ws := ⟨L1.at_, L1.hb, L1.mu, L1.cell, by
    have e1 : P1.h0 = H := le1.h0
    have e2 : P1.m0 = fun a => MutW P S.w a ∨ CellAt S σ a := le1.m0
    rcases L1.h0 with z | z
    · rw [e1] at z; exact .inl (r.w.h0_none z)
    · rw [e2] at z; exact r.own_h0 z⟩
  exact q p' ws H1 _ le r2 (L.stay r le1 r1) L2 rl.rebase hne

/-! ### targets -/
theorem wipe_get {σ : Sg} {j : Nat} : ∀ (vs : List Nat), (wipe σ vs)[j]? = if j ∈ vs ∧ j < σ.length then some none else σ[j]?
  | [] => by simp [wipe]
  | v :: vs => by
    unfold wipe
    by_cases hv : v = j
    · subst hv
      by_cases hl : v < σ.length
      · rw [List.getElem?_set_self (by rw [wipe_length]; exact hl)]; simp [hl]
      · rw [List.getElem?_eq_none (by rw [List.length_set, wipe_length]; omega), if_neg (by simp [hl]), List.getElem?_eq_none (by omega)]
    · rw [List.getElem?_set_ne hv, wipe_get vs]
      have hv' : ¬ j = v := fun e => hv e.symm
      simp [hv']
theorem wipe_set {σ : Sg} {i : Nat} {x : Option V} {vs : List Nat} (h : i ∈ vs) : wipe (σ.set i x) vs = wipe σ vs := by
  refine List.ext_getElem? fun j => ?_
  rw [wipe_get, wipe_get, List.length_set]
  by_cases hj : i = j
  · subst hj
    by_cases hl : i < σ.length
    · simp [h, hl]
    · rw [if_neg (by simp [hl]), if_neg (by simp [hl]), List.getElem?_eq_none (by rw [List.length_set]; omega), List.getElem?_eq_none (by omega)]
  · rw [List.getElem?_set_ne hj]
def SemTg (K : PySem.W.Frag) (ix : List Nat) (g : TG) (tg : D → Sx → Option Sx) : Prop :=
  ∀ (S S' : Sx) (σ : Sg) (H : Hp) (P : Ph) (v : V) (d : D), RepS K P S σ H → Rep K P v d → tg d S = some S' →
    ∀ Q : Sg → Hp → Prop, (∀ σ', RepS K P S' σ' H → σ'.length = σ.length → (∀ vs : List Nat, (∀ i ∈ ix, i ∈ vs) → wipe σ' vs = wipe σ vs) → (S'.w = S.w) → (∀ p, CellAt S' σ' p → CellAt S σ p) → Q σ' H) → g v σ H Q
def SemTgs (K : PySem.W.Frag) (ix : List Nat) (g : TGs) (tg : List D → Sx → Option Sx) : Prop :=
  ∀ (S S' : Sx) (σ : Sg) (H : Hp) (P : Ph) (vs : List V) (ds : List D), RepS K P S σ H → RepL K P vs ds → tg ds S = some S' →
    ∀ Q : Sg → Hp → Prop, (∀ σ', RepS K P S' σ' H → σ'.length = σ.length → (∀ vs : List Nat, (∀ i ∈ ix, i ∈ vs) → wipe σ' vs = wipe σ vs) → (S'.w = S.w) → (∀ p, CellAt S' σ' p → CellAt S σ p) → Q σ' H) → g vs σ H Q
def gtName (i : Nat) (d : D) (S : Sx) : Option Sx := some { S with env := S.env.set i (.val d) }
theorem cell_val {S : Sx} {σ : Sg} {i : Nat} {d : D} {v : Option V} {p : Addr} (h : CellAt { S with env := S.env.set i (.val d) } (σ.set i v) p) : CellAt S σ p := by
  obtain ⟨j, l, h1, h2⟩ := h
  rcases getElem?_set_some h1 with ⟨_, e⟩ | ⟨e, h1⟩
  · cases e
  · rw [List.getElem?_set_ne (fun q => e q.symm)] at h2
    exact ⟨j, l, h1, h2⟩
theorem semtg_name {i : Nat} : SemTg K [i] (gName i) (gtName i) := by
  intro S S' σ H P v d r rv hf Q q
  cases hf
  exact q _ (r.store_val rv) (by rw [List.length_set]) (fun vs h => wipe_set (h i (by simp))) rfl fun p c => cell_val c
def gtNil (ds : List D) (S : Sx) : Option Sx := match ds with
  | [] => some S
  | _ => none
def gtCons (t : D → Sx → Option Sx) (u : List D → Sx → Option Sx) (ds : List D) (S : Sx) : Option Sx := match ds with
  | d :: ds => match t d S with
    | some S1 => u ds S1
    | none => none
  | [] => none
theorem semtgs_nil : SemTgs K [] gNil gtNil := by
  intro S S' σ H P vs ds r rl hf Q q
  unfold gtNil at hf
  split at hf
  · cases hf
    cases rl
    exact ⟨rfl, q σ r rfl (fun _ _ => rfl) rfl fun _ c => c⟩
  · cases hf
theorem semtgs_cons {ix jx : List Nat} {g : TG} {gs : TGs} {t : D → Sx → Option Sx} {u : List D → Sx → Option Sx} (h : SemTg K ix g t) (hs : SemTgs K jx gs u) : SemTgs K (ix ++ jx) (gCons g gs) (gtCons t u) := by
  intro S S' σ H P vs ds r rl hf Q q
  unfold gtCons at hf
  split at hf
  · split at hf
    · cases rl with
      | cons rv rl =>
        refine ⟨_, _, rfl, h _ _ σ H P _ _ r rv (by assumption) _ fun σ1 r1 l1 w1 e1 c1 => ?_⟩
        refine hs _ _ σ1 H P _ _ r1 rl hf _ fun σ2 r2 l2 w2 e2 c2 => ?_
        exact q σ2 r2 (l2.trans l1) (fun vs hv => (w2 vs fun i hi => hv i (by simp [hi])).trans (w1 vs fun i hi => hv i (by simp [hi]))) (e2.trans e1) fun p c => c1 p (c2 p c)
    · cases hf
  · cases hf
def gAnyTup (K : PySem.W.Frag) (n : Nat) (t : TGs) : TG := fun v σ H Q => gTup K n t v σ H Q ∨ gUnl K n t v σ H Q
theorem pg_any {X : Cx} {es : List Expr} {k : Nat} {pos : Pos} {t : TGs} {n : Nat} (hc : X.calm = true) (h : PGs X es t)
    (hn : (assignEach es X.env).length = n := by rfl) (hst : (assignEach es X.env).findIdx? (·.1) = none := by rfl) : PG X (.Tuple es k pos) (gAnyTup X.K n t) := ⟨fun pins s σ H v u Q I r hw => by
  rcases hw with hw | hw
  · exact (pg_tup hc h hn hst).run pins s σ H v u Q I r hw
  · exact (pg_unl hc h hn hst).run pins s σ H v u Q I r hw⟩
def gtTup (n : Nat) (t : List D → Sx → Option Sx) (d : D) (S : Sx) : Option Sx := match frzC d with
  | some l => if l.length = n then t l S else none
  | none => none
theorem semtg_tup {ix : List Nat} {n : Nat} {gs : TGs} {t : List D → Sx → Option Sx} (h : SemTgs K ix gs t) : SemTg K ix (gAnyTup K n gs) (gtTup n t) := by
  intro S S' σ H P v d r rv hf Q q
  unfold gtTup at hf
  split at hf
  · rename_i l hl
    split at hf
    · rename_i hn
      obtain ⟨a, vs, e, h2, h3⟩ := frz_sq (σ := σ) rv.toR hl
      have fin := h S S' σ H P vs l r h3 hf Q q
      rcases h2 with ⟨_, h2⟩ | ⟨_, h2⟩
      · exact .inl ⟨a, vs, e, sameT r.w.same h2, h3.length.trans hn, fin⟩
      · exact .inr ⟨a, vs, e, r.w.same.seq h2, h3.length.trans hn, fin⟩
    · cases hf
  · cases hf

/-! ### comprehensions -/
def unS (env : List Sl) : List Nat → List Sl
  | [] => env
  | i :: is => (unS env is).set i .un
def okS (env : List Sl) (own : List Nat) : Bool := own.all fun i => match env[i]? with
  | some (.cell _) => false
  | _ => true
/-- the block's own slots get back what they held -/
def bkS (env0 env : List Sl) : List Nat → List Sl
  | [] => env
  | i :: is => (bkS env0 env is).set i (env0.getD i .un)
theorem unS_w {S : Sx} {own : List Nat} : ({ S with env := unS S.env own } : Sx).w = S.w := rfl
theorem RepS.unS {P : Ph} {S : Sx} {σ : Sg} {H : Hp} (r : RepS K P S σ H) : ∀ own : List Nat, RepS K P { S with env := unS S.env own } (wipe σ own) H
  | [] => r
  | i :: is => (RepS.unS r is).forget
theorem unS_length (env : List Sl) : ∀ own : List Nat, (unS env own).length = env.length
  | [] => rfl
  | i :: is => by unfold unS; rw [List.length_set, unS_length env is]
theorem unS_get (env : List Sl) {j : Nat} : ∀ own : List Nat, (unS env own)[j]? = if j ∈ own ∧ j < env.length then some .un else env[j]?
  | [] => by simp [unS]
  | v :: vs => by
    unfold unS
    by_cases hv : v = j
    · subst hv
      by_cases hl : v < env.length
      · rw [List.getElem?_set_self (by rw [unS_length]; exact hl)]; simp [hl]
      · rw [List.getElem?_eq_none (by rw [List.length_set, unS_length]; omega), if_neg (by simp [hl]), List.getElem?_eq_none (by omega)]
    · rw [List.getElem?_set_ne hv, unS_get env vs]
      have hv' : ¬ j = v := fun e => hv e.symm
      simp [hv']
theorem bkS_length (env0 env : List Sl) : ∀ own : List Nat, (bkS env0 env own).length = env.length
  | [] => rfl
  | i :: is => by unfold bkS; rw [List.length_set, bkS_length env0 env is]
theorem bkS_get (env0 env : List Sl) {j : Nat} : ∀ own : List Nat, (bkS env0 env own)[j]? = if j ∈ own ∧ j < env.length then some (env0.getD j .un) else env[j]?
  | [] => by simp [bkS]
  | v :: vs => by
    unfold bkS
    by_cases hv : v = j
    · subst hv
      by_cases hl : v < env.length
      · rw [List.getElem?_set_self (by rw [bkS_length]; exact hl)]; simp [hl]
      · rw [List.getElem?_eq_none (by rw [List.length_set, bkS_length]; omega), if_neg (by simp [hl]), List.getElem?_eq_none (by omega)]
    · rw [List.getElem?_set_ne hv, bkS_get env0 env vs]
      have hv' : ¬ j = v := fun e => hv e.symm
      simp [hv']
theorem cell_un {S : Sx} {σ : Sg} {own : List Nat} {p : Addr} (h : CellAt { S with env := unS S.env own } (wipe σ own) p) : CellAt S σ p := by
  obtain ⟨j, l, h1, h2⟩ := h
  have h1' : (unS S.env own)[j]? = some (.cell l) := h1
  rw [unS_get] at h1'
  split at h1'
  · cases h1'
  · rename_i hn
    rw [wipe_get] at h2
    split at h2
    · cases h2
    · exact ⟨j, l, h1', h2⟩
theorem RepS.bkS {P0 P : Ph} {S0 S : Sx} {σ : Sg} {H0 H : Hp} {own : List Nat} (r0 : RepS K P0 S0 σ H0) (hk : okS S0.env own = true) (le : P0.Le P) (r : RepS K P S (wipe σ own) H) :
    RepS K P { S with env := bkS S0.env S.env own } σ H := by
  have ln : S.env.length = σ.length := by rw [r.len, wipe_length]
  have get : ∀ {i : Nat} {s : Sl}, (Ms.bkS S0.env S.env own)[i]? = some s → (i ∈ own ∧ i < σ.length ∧ S0.env[i]? = some s) ∨ (i ∉ own ∧ S.env[i]? = some s ∧ (wipe σ own)[i]? = σ[i]?) := fun {i s} h => by
    have hl : i < σ.length := by
      have := (List.getElem?_eq_some_iff.mp h).1
      rw [bkS_length, ln] at this; exact this
    rw [bkS_get] at h
    by_cases hm : i ∈ own
    · rw [if_pos ⟨hm, by rw [ln]; exact hl⟩] at h
      refine .inl ⟨hm, hl, ?_⟩
      have h0 : i < S0.env.length := by rw [r0.len]; exact hl
      rw [List.getElem?_eq_getElem h0]
      rw [List.getD_eq_getElem?_getD, List.getElem?_eq_getElem h0] at h
      exact h
    · rw [if_neg (by simp [hm])] at h
      exact .inr ⟨hm, h, by rw [wipe_get, if_neg (by simp [hm])]⟩
  have nocell : ∀ {i : Nat} {l : List D}, i ∈ own → S0.env[i]? ≠ some (.cell l) := fun {i l} hm e => by
    have := List.all_eq_true.mp hk i hm
    rw [e] at this
    exact absurd this (by simp)
  refine ⟨r.w, by rw [show ({ S with env := Ms.bkS S0.env S.env own } : Sx).env = Ms.bkS S0.env S.env own from rfl, bkS_length, ln], fun i s h => ?_, fun i j a l l' h1 h2 h3 h4 => ?_⟩
  · rcases get h with ⟨hm, hl, h0⟩ | ⟨hm, h0, e⟩
    · have q := r0.sl i s h0
      cases s with
      | un => trivial
      | val d => obtain ⟨v, q1, q2⟩ := q; exact ⟨v, q1, q2.mono le⟩
      | cell l => exact absurd h0 (nocell hm)
    · have q := r.sl i s h0
      rw [e] at q; exact q
  · rcases get h1 with ⟨hm, _, g1⟩ | ⟨hm, g1, e1⟩
    · exact absurd g1 (nocell hm)
    · rcases get h2 with ⟨hm2, _, g2⟩ | ⟨hm2, g2, e2⟩
      · exact absurd g2 (nocell hm2)
      · exact r.dis i j a l l' g1 g2 (by rw [e1]; exact h3) (by rw [e2]; exact h4)
def lcL (own : List Nat) (tg : D → Sx → Option Sx) (tt : Mx Bool) (elt : Mx D) : List D → Mx (List D)
  | [] => fun S => some ([], S)
  | d :: ds => fun S => match tg d S with
    | none => none
    | some S1 => match tt S1 with
      | none => none
      | some (true, S2) => match elt S2 with
        | none => none
        | some (y, S3) => if y.isCr = true then none else match lcL own tg tt elt ds { S3 with env := unS S3.env own } with
          | some (ys, S4) => some (y :: ys, S4)
          | none => none
      | some (false, S2) => lcL own tg tt elt ds { S2 with env := unS S2.env own }
def nLC (own : List Nat) (it : Mx (List D)) (tg : D → Sx → Option Sx) (tt : Mx Bool) (elt : Mx D) : Mx (List D) := fun S => match it S with
  | none => none
  | some (ds, S1) => if okS S1.env own = true ∧ ds.length ≤ mostL then match lcL own tg tt elt ds { S1 with env := unS S1.env own } with
    | some (ys, S2) => some (ys, { S2 with env := bkS S1.env S2.env own })
    | none => none else none
theorem Loose.rep {P : Ph} {S : Sx} {σ : Sg} {H : Hp} {p : Addr} {vs : List V} (L : Loose P S σ H p vs) {P' : Ph} {S' : Sx} {σ' : Sg} {H' : Hp} (hH : H' p = H p) (hb : P'.hb p = P.hb p) (h0 : P'.h0 = P.h0) (m0 : P'.m0 = P.m0) (hw : MutW P' S'.w p → MutW P S.w p) (hc : CellAt S' σ' p → CellAt S σ p) : Loose P' S' σ' H' p vs :=
  ⟨by rw [hH]; exact L.at_, by rw [hb]; exact L.hb, fun m => L.mu (hw m), fun c => L.cell (hc c), by rw [h0, m0]; exact L.h0⟩
theorem sem_lc {own ix : List Nat} {wi : TI} {g : TG} {tt : TT} {te : TE} {it : Mx (List D)} {tg : D → Sx → Option Sx} {ct : Mx Bool} {elt : Mx D} (hix : ∀ i ∈ ix, i ∈ own) (hi : SemI K wi it) (hg : SemTg K ix g tg) (ht : SemT K tt ct) (he : SemE K te elt) :
    SemN K (tLc wi g tt te own) (nLC own it tg ct elt) := by
  intro S S' σ H P ys r hf Q q
  unfold nLC at hf
  split at hf
  · cases hf
  · rename_i ds S1 h1
    split at hf
    · rename_i hc
      split at hf
      · rename_i ys' S2 h2
        cases hf
        refine hi S S1 σ H P ds r h1 _ fun J H1 P1 le1 r1 wd dl hD => ?_
        obtain ⟨r2, L2⟩ := (r1.unS own).new_loose (vs := []) hD
        refine ⟨fun i m Hc => m = ds.length - i ∧ i ≤ ds.length ∧ ∃ (Pc : Ph) (Sc : Sx) (vs : List V) (zs rest : List D), P1.Le Pc ∧ RepS K Pc Sc (wipe σ own) Hc ∧ Loose Pc Sc (wipe σ own) Hc dl vs ∧ RepL K Pc vs zs ∧ zs.length ≤ i ∧
          lcL own tg ct elt (ds.drop i) Sc = some (rest, S2) ∧ zs ++ rest = ys, ⟨_, rfl, Nat.zero_le _, P1, _, [], [], ys, Ph.Le.refl P1, r2, L2, .nil, Nat.le_refl _, h2, rfl⟩, ?_⟩
        rintro i m Hc ⟨rfl, hil, Pc, Sc, vs, zs, rest, lec, rc, Lc, rl, hz, hl, ez⟩
        obtain ⟨wgo, wstop⟩ := wd Pc lec Sc (wipe σ own) Hc rc
        by_cases hlt : i < ds.length
        · have hd : ds[i]? = some ds[i] := List.getElem?_eq_getElem hlt
          obtain ⟨go, yl⟩ := wgo i _ hd
          refine .inr ⟨go, fun Hn => ∃ (Pc : Ph) (Sc : Sx) (vs : List V) (zs rest : List D), P1.Le Pc ∧ RepS K Pc Sc (wipe σ own) Hn ∧ Loose Pc Sc (wipe σ own) Hn dl vs ∧ RepL K Pc vs zs ∧ zs.length ≤ i + 1 ∧
            lcL own tg ct elt (ds.drop (i + 1)) Sc = some (rest, S2) ∧ zs ++ rest = ys, fun Hn hn => ⟨_, by omega, rfl, hlt, hn⟩, fun x H3 y3 => ?_⟩
          obtain ⟨P3, le3, rv3, sm3, wa3, hb3, rep3⟩ := yl x H3 y3
          have r3 := rep3 _ _ rc
          have L3 : Loose P3 Sc (wipe σ own) H3 dl vs := Lc.rep (by rw [Lc.at_]; exact sm3 _ _ Lc.at_) (hb3 dl (by rw [Lc.at_]; simp)) le3.h0 le3.m0 (fun ⟨k, l, q1, q2⟩ => ⟨k, l, by rw [← wa3]; exact q1, q2⟩) id
          rw [List.drop_eq_getElem_cons hlt] at hl
          unfold lcL at hl
          split at hl
          · cases hl
          · rename_i T1 g1
            have wid : wipe (wipe σ own) own = wipe σ own := by
              refine List.ext_getElem? fun j => ?_
              rw [wipe_get, wipe_length]
              split
              · rename_i hj
                rw [wipe_get, if_pos hj]
              · rfl
            refine hg Sc T1 (wipe σ own) H3 P3 x _ r3 rv3 g1 _ fun σ4 r4 l4 w4 ew c4 => ⟨(w4 own hix).trans wid, ?_⟩
            have L4 : Loose P3 T1 σ4 H3 dl vs := L3.rep rfl rfl rfl rfl (fun m => by rw [← ew]; exact m) (c4 dl)
            have we : wipe σ4 own = wipe σ own := (w4 own hix).trans wid
            split at hl
            · cases hl
            · rename_i T2 g2
              refine semT_loose ht r4 L4 g2 fun H5 P5 le5 r5 L5 => ?_
              rw [if_pos rfl]
              split at hl
              · cases hl
              · rename_i y T3 g3
                split at hl
                · cases hl
                · rename_i hy
                  split at hl
                  · rename_i ys4 T4 g4
                    cases hl
                    refine semE_loose he r5 L5 g3 fun v H6 P6 le6 r6 rv6 L6 => ⟨vs, L6.at_, ?_, ?_⟩
                    · rw [rl.length]
                      have : i < mostL := Nat.lt_of_lt_of_le hlt hc.2
                      exact lt_line (by omega)
                    · obtain ⟨r7, L7⟩ := r6.put_loose (ws := vs ++ [v]) L6
                      have r8 := r7.unS own
                      rw [we] at r8
                      refine ⟨P6, _, vs ++ [v], zs ++ [y], ys4, ((lec.trans le3).trans le5).trans le6, r8, L7.rep rfl rfl rfl rfl id (fun c => by rw [← we] at c; exact cell_un c), (rl.mono ((le3.trans le5).trans le6)).append (.cons (rv6.rep (by simpa using hy)) .nil), by simp; exact hz, g4, ?_⟩
                      rw [← ez]; simp
                  · cases hl
            · rename_i T2 g2
              refine semT_loose ht r4 L4 g2 fun H5 P5 le5 r5 L5 => ?_
              rw [if_neg Bool.false_ne_true]
              have r8 := r5.unS own
              rw [we] at r8
              exact ⟨P5, _, vs, zs, rest, (lec.trans le3).trans le5, r8, L5.rep rfl rfl rfl rfl id (fun c => by rw [← we] at c; exact cell_un c), rl.mono (le3.trans le5), by omega, hl, ez⟩
        · have e : i = ds.length := by omega
          subst e
          rw [List.drop_length] at hl
          cases hl
          rw [List.append_nil] at ez
          subst ez
          refine .inl ⟨wstop, ?_⟩
          have r9 := r1.bkS hc.1 lec rc
          refine q dl vs Hc Pc (le1.trans lec) r9 (Lc.rep rfl rfl rfl rfl id ?_) rl
          rintro ⟨j, l, c1, c2⟩
          have c1' : (Ms.bkS S1.env S2.env own)[j]? = some (.cell l) := c1
          rw [bkS_get] at c1'
          split at c1'
          · rename_i hj
            have hk := List.all_eq_true.mp hc.1 j hj.1
            have hl0 : j < S1.env.length := by rw [r1.len, ← wipe_length σ own, ← rc.len]; exact hj.2
            have e1 : S1.env[j]? = some (.cell l) := by
              rw [List.getD_eq_getElem?_getD, List.getElem?_eq_getElem hl0] at c1'
              rw [List.getElem?_eq_getElem hl0]
              exact c1'
            rw [e1] at hk
            exact absurd hk (by simp)
          · rename_i hj
            refine ⟨j, l, c1', ?_⟩
            rw [wipe_get, if_neg]
            · exact c2
            · rintro ⟨hm, hl1⟩
              refine hj ⟨hm, ?_⟩
              rw [rc.len, wipe_length]; exact hl1
      · cases hf
    · cases hf
/-- a comprehension's test -/
def cYes : Mx Bool := mret true
theorem sem_yes : SemT K tYes cYes := by
  intro S S' σ H P b r hf Q q
  cases hf
  exact q.now (Ph.Le.refl P) r
end
end Ms
set_option Elab.async false
set_option linter.all false
set_option maxRecDepth 100000
set_option maxHeartbeats 1000000
/-! MsG: statements and defs at the data level. -/
namespace Ms
open PySem PySem.Spec PyProof.Rows L2
set_option autoImplicit false

inductive Fl where
  | nx | bk | ct | rt (d : D)
instance : Inhabited Fl := ⟨.nx⟩
section
variable {K : PySem.W.Frag}
def PostS (K : PySem.W.Frag) (P : Ph) (S' : Sx) (fl : Fl) (Dn : Ends) : Prop := match fl with
  | .nx => ∀ (σ' : Sg) (H' : Hp) (P' : Ph), P.Le P' → RepS K P' S' σ' H' → Dn.nx σ' H'
  | .bk => ∀ (σ' : Sg) (H' : Hp) (P' : Ph), P.Le P' → RepS K P' S' σ' H' → Dn.bk σ' H'
  | .ct => ∀ (σ' : Sg) (H' : Hp) (P' : Ph), P.Le P' → RepS K P' S' σ' H' → Dn.ct σ' H'
  | .rt d => ∀ (v : V) (σ' : Sg) (H' : Hp) (P' : Ph), P.Le P' → RepS K P' S' σ' H' → Rep K P' v d → Dn.rt v H'
theorem PostS.later {P P' : Ph} {S' : Sx} {fl : Fl} {Dn : Ends} (h : PostS K P S' fl Dn) (le : P.Le P') : PostS K P' S' fl Dn := by
  cases fl with
  | nx => exact fun σ' H' P2 le2 r => h σ' H' P2 (le.trans le2) r
  | bk => exact fun σ' H' P2 le2 r => h σ' H' P2 (le.trans le2) r
  | ct => exact fun σ' H' P2 le2 r => h σ' H' P2 (le.trans le2) r
  | rt d => exact fun v σ' H' P2 le2 r rv => h v σ' H' P2 (le.trans le2) r rv
def SemS (K : PySem.W.Frag) (t : TS) (f : Mx Fl) : Prop :=
  ∀ (S S' : Sx) (σ : Sg) (H : Hp) (P : Ph) (fl : Fl), RepS K P S σ H → f S = some (fl, S') → ∀ Dn : Ends, PostS K P S' fl Dn → t Dn σ H
/-! ### small ones -/
def sNext : Mx Fl := mret .nx
def sBreak : Mx Fl := mret .bk
def sCont : Mx Fl := mret .ct
theorem sem_next : SemS K tNext sNext := by
  intro S S' σ H P fl r hf Dn q
  cases hf
  exact q σ H P (Ph.Le.refl P) r
theorem sem_break : SemS K tBreak sBreak := by
  intro S S' σ H P fl r hf Dn q
  cases hf
  exact q σ H P (Ph.Le.refl P) r
theorem sem_cont : SemS K tCont sCont := by
  intro S S' σ H P fl r hf Dn q
  cases hf
  exact q σ H P (Ph.Le.refl P) r
def sSeq (f g : Mx Fl) : Mx Fl := fun S => match f S with
  | some (.nx, S1) => g S1
  | some (fl, S1) => some (fl, S1)
  | none => none
theorem sem_seq {t u : TS} {f g : Mx Fl} (h1 : SemS K t f) (h2 : SemS K u g) : SemS K (tSeq t u) (sSeq f g) := by
  intro S S' σ H P fl r hf Dn q
  unfold sSeq at hf
  split at hf
  · rename_i S1 e1
    exact h1 S S1 σ H P .nx r e1 _ fun σ1 H1 P1 le1 r1 => h2 S1 S' σ1 H1 P1 fl r1 hf Dn (q.later le1)
  · rename_i fl1 S1 hn e1
    cases hf
    refine h1 S _ σ H P _ r e1 _ ?_
    cases fl with
    | nx => exact (hn rfl).elim
    | bk => exact q
    | ct => exact q
    | rt d => exact q
  · cases hf
def sExpr (f : Mx D) : Mx Fl := mbind f fun _ => mret .nx
theorem sem_expr {t : TE} {f : Mx D} (h : SemE K t f) : SemS K (tDrop t) (sExpr f) := by
  intro S S' σ H P fl r hf Dn q
  obtain ⟨d, S1, h1, hf⟩ := mbind_some hf
  cases hf
  exact h S _ σ H P d r h1 _ fun v H1 P1 le1 r1 _ => q σ H1 P1 le1 r1
def sRet (f : Mx D) : Mx Fl := mbind f fun d S => if d.isCr = true then none else some (.rt d, S)
theorem sem_ret {t : TE} {f : Mx D} (h : SemE K t f) : SemS K (tRet t) (sRet f) := by
  intro S S' σ H P fl r hf Dn q
  obtain ⟨d, S1, h1, hf⟩ := mbind_some hf
  split at hf
  · cases hf
  · rename_i hc
    cases hf
    exact h S _ σ H P d r h1 _ fun v H1 P1 le1 r1 rv => q v σ H1 P1 le1 r1 (rv.rep (by simpa using hc))
def sRetN : Mx Fl := mret (.rt .non)
theorem sem_retN : SemS K tRetN sRetN := by
  intro S S' σ H P fl r hf Dn q
  cases hf
  exact q .non σ H P (Ph.Le.refl P) r .non
def sIf (c : Mx Bool) (a b : Mx Fl) : Mx Fl := mbind c fun k => if k = true then a else b
theorem sem_sif {c : TT} {t u : TS} {fc : Mx Bool} {f g : Mx Fl} (hc : SemT K c fc) (h1 : SemS K t f) (h2 : SemS K u g) : SemS K (tIfS c t u) (sIf fc f g) := by
  intro S S' σ H P fl r hf Dn q
  obtain ⟨k, S1, e1, hf⟩ := mbind_some hf
  refine hc S S1 σ H P k r e1 _ fun H1 P1 le1 r1 => ?_
  cases k with
  | true => exact h1 S1 S' σ H1 P1 fl r1 hf Dn (q.later le1)
  | false => exact h2 S1 S' σ H1 P1 fl r1 hf Dn (q.later le1)
/-! ### assignments -/
def sAsg (f : Mx D) (tg : D → Sx → Option Sx) : Mx Fl := mbind f fun d S => if d.isCr = true then none else match tg d S with
  | some S1 => some (.nx, S1)
  | none => none
theorem sem_asg {ix : List Nat} {t : TE} {g : TG} {f : Mx D} {tg : D → Sx → Option Sx} (h : SemE K t f) (hg : SemTg K ix g tg) : SemS K (tAsg t g) (sAsg f tg) := by
  intro S S' σ H P fl r hf Dn q
  obtain ⟨d, S1, h1, hf⟩ := mbind_some hf
  split at hf
  · cases hf
  · rename_i hc
    split at hf
    · cases hf
      refine h S S1 σ H P d r h1 _ fun v H1 P1 le1 r1 rv => ?_
      exact hg S1 _ σ H1 P1 v d r1 (rv.rep (by simpa using hc)) (by assumption) _ fun σ2 r2 _ _ _ _ => q σ2 H1 P1 le1 r2
    · cases hf
/-- name = a new list that the name owns -/
def sNew (i : Nat) (f : Mx (List D)) : Mx Fl := mbind f fun ds S => some (.nx, { S with env := S.env.set i (.cell ds) })
theorem sem_new {i : Nat} {t : TE} {f : Mx (List D)} (h : SemN K t f) : SemS K (tAsg t (gName i)) (sNew i f) := by
  intro S S' σ H P fl r hf Dn q
  obtain ⟨ds, S1, h1, hf⟩ := mbind_some hf
  cases hf
  exact h S S1 σ H P ds r h1 _ fun p vs H1 P1 le1 r1 L rl => q _ H1 P1 le1 (r1.own_loose L rl)
/-- a[i] = e -/
def sSet (fv fo fi : Mx D) : Mx Fl := mbind fv fun v => mbind fo fun o => mbind fi fun i S => match dSet o i v S with
  | some S1 => some (.nx, S1)
  | none => none
theorem sem_set {tv to ti : TE} {fv fo fi : Mx D} (hv : SemE K tv fv) (ho : SemE K to fo) (hi : SemE K ti fi) : SemS K (tAsg tv (gSub to ti rSetL)) (sSet fv fo fi) := by
  intro S S' σ H P fl r hf Dn q
  obtain ⟨v, S1, h1, hf⟩ := mbind_some hf
  obtain ⟨o, S2, h2, hf⟩ := mbind_some hf
  obtain ⟨i, S3, h3, hf⟩ := mbind_some hf
  split at hf
  · cases hf
    refine hv S S1 σ H P v r h1 _ fun vv H1 P1 le1 r1 rv => ?_
    refine ho S1 S2 σ H1 P1 o r1 h2 _ fun ov H2 P2 le2 r2 ro => ?_
    refine hi S2 S3 σ H2 P2 i r2 h3 _ fun iv H3 P3 le3 r3 ri => ?_
    exact setd_list S3 _ σ H3 P3 ov iv vv o i v r3 (ro.mono le3) ri ((rv.mono le2).mono le3) (by assumption) _ fun H4 P4 le4 r4 => q σ H4 P4 (((le1.trans le2).trans le3).trans le4) r4
  · cases hf
/-- (a[i], b[j]) = (e, f): a tuple is made, its items stored one by one -/
def gtSub (fo fi : Mx D) (d : D) (S : Sx) : Option Sx := match fo S with
  | some (o, S1) => match fi S1 with
    | some (i, S2) => dSet o i d S2
    | none => none
  | none => none
/-- targets that may change lists -/
def SemTl (K : PySem.W.Frag) (g : TGs) (tg : List D → Sx → Option Sx) : Prop :=
  ∀ (S S' : Sx) (σ : Sg) (H : Hp) (P : Ph) (vs : List V) (ds : List D), RepS K P S σ H → RepL K P vs ds → tg ds S = some S' →
    ∀ Q : Sg → Hp → Prop, (∀ σ' H' P', P.Le P' → RepS K P' S' σ' H' → Q σ' H') → g vs σ H Q
theorem semtl_nil : SemTl K gNil gtNil := by
  intro S S' σ H P vs ds r rl hf Q q
  exact semtgs_nil S S' σ H P vs ds r rl hf Q fun σ' r' _ _ _ _ => q σ' H P (Ph.Le.refl P) r'
theorem semtl_sub {to ti : TE} {fo fi : Mx D} {gs : TGs} {u : List D → Sx → Option Sx} (ho : SemE K to fo) (hi : SemE K ti fi) (hs : SemTl K gs u) : SemTl K (gCons (gSub to ti rSetL) gs) (gtCons (gtSub fo fi) u) := by
  intro S S' σ H P vs ds r rl hf Q q
  unfold gtCons at hf
  split at hf
  · rename_i d dr
    cases rl with
    | cons rv rl =>
      cases e : gtSub fo fi d S with
      | none => rw [e] at hf; cases hf
      | some S3 =>
        rw [e] at hf
        unfold gtSub at e
        split at e
        · rename_i o S1 h1
          split at e
          · rename_i i S2 h2
            refine ⟨_, _, rfl, ho S S1 σ H P o r h1 _ fun ov H1 P1 le1 r1 ro => ?_⟩
            refine hi S1 S2 σ H1 P1 i r1 h2 _ fun iv H2 P2 le2 r2 ri => ?_
            refine setd_list S2 _ σ H2 P2 ov iv _ o i d r2 (ro.mono le2) ri (((rv.mono le1).mono le2).toR) e _ fun H4 P4 le4 r4 => ?_
            exact hs S3 S' σ H4 P4 _ _ r4 (rl.mono ((le1.trans le2).trans le4)) hf Q fun σ' H' P' le' r' => q σ' H' P' (((le1.trans le2).trans le4).trans le') r'
          · cases e
        · cases e
  · cases hf
theorem semtl_name {i : Nat} {gs : TGs} {u : List D → Sx → Option Sx} (hs : SemTl K gs u) : SemTl K (gCons (gName i) gs) (gtCons (gtName i) u) := by
  intro S S' σ H P vs ds r rl hf Q q
  unfold gtCons at hf
  split at hf
  · rename_i d dr
    cases rl with
    | cons rv rl =>
      have e : gtName i d S = some { S with env := S.env.set i (.val d) } := rfl
      rw [e] at hf
      exact ⟨_, _, rfl, hs _ S' _ H P _ _ (r.store_val rv) rl hf Q q⟩
  · cases hf
def sAsgL (f : Mx D) (n : Nat) (tg : List D → Sx → Option Sx) : Mx Fl := mbind f fun d S => if d.isCr = true then none else match frzC d with
  | some l => if l.length = n then match tg l S with
    | some S1 => some (.nx, S1)
    | none => none else none
  | none => none
theorem sem_asgL {n : Nat} {t : TE} {gs : TGs} {f : Mx D} {tg : List D → Sx → Option Sx} (h : SemE K t f) (hg : SemTl K gs tg) : SemS K (tAsg t (gAnyTup K n gs)) (sAsgL f n tg) := by
  intro S S' σ H P fl r hf Dn q
  obtain ⟨d, S1, h1, hf⟩ := mbind_some hf
  split at hf
  · cases hf
  · rename_i hc
    split at hf
    · rename_i l hl
      split at hf
      · rename_i hn
        split at hf
        · cases hf
          refine h S S1 σ H P d r h1 _ fun v H1 P1 le1 r1 rv => ?_
          obtain ⟨a, vs, e, h2, h3⟩ := frz_sq (σ := σ) rv hl
          have fin := hg S1 _ σ H1 P1 vs l r1 h3 (by assumption) Dn.nx fun σ2 H2 P2 le2 r2 => q σ2 H2 P2 (le1.trans le2) r2
          rcases h2 with ⟨_, h2⟩ | ⟨_, h2⟩
          · exact .inl ⟨a, vs, e, sameT r1.w.same h2, h3.length.trans hn, fin⟩
          · exact .inr ⟨a, vs, e, r1.w.same.seq h2, h3.length.trans hn, fin⟩
        · cases hf
      · cases hf
    · cases hf
/-- name op= e -/
def IpD (K : PySem.W.Frag) (r : TIp) (g : D → D → Mx D) : Prop := OpD K r g
theorem ipd_add : OpD K (ipI fun i j => i + j) (iop fun i j => i + j) := opd_i
theorem ipd_sub : OpD K (ipI fun i j => i - j) (iop fun i j => i - j) := opd_i
def sAug (i : Nat) (f : Mx D) (g : D → D → Mx D) : Mx Fl := fun S => match S.env[i]? with
  | some (.val x) => mbind f (fun y => mbind (g x y) fun z S => if z.isCr = true then none else some (.nx, { S with env := S.env.set i (.val z) })) S
  | _ => none
theorem sem_aug {i : Nat} {t : TE} {ti : TIp} {f : Mx D} {g : D → D → Mx D} (h : SemE K t f) (hg : OpD K ti g) : SemS K (tAug i t ti) (sAug i f g) := by
  intro S S' σ H P fl r hf Dn q
  unfold sAug at hf
  split at hf
  · rename_i x he
    obtain ⟨y, S1, h1, hf⟩ := mbind_some hf
    obtain ⟨z, S2, h2, hf⟩ := mbind_some hf
    split at hf
    · cases hf
    · rename_i hc
      cases hf
      obtain ⟨v, e, rx⟩ := r.sl i _ he
      refine ⟨v, e, h S S1 σ H P y r h1 _ fun w H1 P1 le1 r1 ry => ?_⟩
      refine hg S1 S2 σ H1 P1 v w x y z r1 (rx.mono le1).toR ry h2 _ fun u H2 P2 le2 r2 ru => ?_
      exact q _ H2 P2 (le1.trans le2) (r2.store_val (ru.rep (by simpa using hc)))
  · cases hf
/-- a, b = e, f: what a slot is to hold -/
def pVal (f : Mx D) : Mx Sl := mbind f fun d S => if d.isCr = true then none else some (.val d, S)
def pNew (f : Mx (List D)) : Mx Sl := mbind f fun ds => mret (.cell ds)
/-- v is to be slot content s -/
def RepP (K : PySem.W.Frag) (P : Ph) (S : Sx) (σ : Sg) (H : Hp) (v : V) : Sl → Prop
  | .un => False
  | .val d => Rep K P v d
  | .cell l => ∃ p vs, v = .ref p ∧ Loose P S σ H p vs ∧ RepL K P vs l
def SemP (K : PySem.W.Frag) (t : TE) (f : Mx Sl) : Prop :=
  ∀ (S S' : Sx) (σ : Sg) (H : Hp) (P : Ph) (s : Sl), RepS K P S σ H → f S = some (s, S') → ∀ Q : VK, (∀ v H' P', P.Le P' → RepS K P' S' σ H' → RepP K P' S' σ H' v s → Q v H') → t σ H Q
theorem sem_pval {t : TE} {f : Mx D} (h : SemE K t f) : SemP K t (pVal f) := by
  intro S S' σ H P s r hf Q q
  obtain ⟨d, S1, h1, hf⟩ := mbind_some hf
  split at hf
  · cases hf
  · rename_i hc
    cases hf
    exact h S _ σ H P d r h1 _ fun v H1 P1 le1 r1 rv => q v H1 P1 le1 r1 (rv.rep (by simpa using hc))
theorem sem_pnew {t : TE} {f : Mx (List D)} (h : SemN K t f) : SemP K t (pNew f) := by
  intro S S' σ H P s r hf Q q
  obtain ⟨d, S1, h1, hf⟩ := mbind_some hf
  cases hf
  exact h S _ σ H P d r h1 _ fun p vs H1 P1 le1 r1 L rl => q _ H1 P1 le1 r1 ⟨p, vs, rfl, L, rl⟩
/-- what is told of v stays while another part is run -/
theorem repP_stay {S S1 : Sx} {σ : Sg} {H H1 : Hp} {P P1 : Ph} (r : RepS K P S σ H) (le : (P.base S σ H).Le P1) (r1 : RepS K P1 S1 σ H1) {v : V} {s : Sl} (h : RepP K P S σ H v s) : RepP K (P.back P1) S1 σ H1 v s := by
  cases s with
  | un => exact h
  | val d => exact Rep.mono (r.back le r1).1 h
  | cell l =>
    obtain ⟨p, vs, e, L, rl⟩ := h
    exact ⟨p, vs, e, L.stay r le r1, rl.mono (r.back le r1).1⟩
/-- .. and its list is another one than those that are made behind it -/
theorem repP_apart {S S1 : Sx} {σ : Sg} {H H1 : Hp} {P P1 : Ph} (r : RepS K P S σ H) (le : (P.base S σ H).Le P1) (r1 : RepS K P1 S1 σ H1) {v w : V} {l m : List D} (h : RepP K P S σ H v (.cell l)) (h' : RepP K P1 S1 σ H1 w (.cell m)) : v ≠ w := by
  obtain ⟨p, vs, e, L, rl⟩ := h
  obtain ⟨p', ws, e', L', rl'⟩ := h'
  subst e e'
  intro eq
  cases eq
  have e1 : P1.h0 = H := le.h0
  have e2 : P1.m0 = fun a => MutW P S.w a ∨ CellAt S σ a := le.m0
  rcases L'.h0 with z | z
  · rw [e1, L.at_] at z; cases z
  · rw [e2] at z
    rcases z with z | z
    · exact L.mu z
    · exact L.cell z
theorem repP_back {S S1 : Sx} {σ : Sg} {H H1 : Hp} {P P1 : Ph} (r : RepS K P S σ H) (le : (P.base S σ H).Le P1) {v : V} {s : Sl} (h : RepP K P1 S1 σ H1 v s) : RepP K (P.back P1) S1 σ H1 v s := by
  cases s with
  | un => exact h
  | val d => exact Rep.rebase h
  | cell l =>
    obtain ⟨p, vs, e, L, rl⟩ := h
    have e1 : P1.h0 = H := le.h0
    have e2 : P1.m0 = fun a => MutW P S.w a ∨ CellAt S σ a := le.m0
    refine ⟨p, vs, e, ⟨L.at_, L.hb, L.mu, L.cell, ?_⟩, rl.rebase⟩
    rcases L.h0 with z | z
    · rw [e1] at z; exact .inl (r.w.h0_none z)
    · rw [e2] at z; exact r.own_h0 z
theorem store_p {P : Ph} {S : Sx} {σ : Sg} {H : Hp} (r : RepS K P S σ H) {i : Nat} {v : V} {s : Sl} (h : RepP K P S σ H v s) : RepS K P { S with env := S.env.set i s } (σ.set i (some v)) H := by
  cases s with
  | un => exact False.elim h
  | val d => exact r.store_val h
  | cell l =>
    obtain ⟨p, vs, e, L, rl⟩ := h
    subst e
    exact r.own_loose L rl
/-- what is told of w stays when v is stored -/
theorem repP_store {P : Ph} {S : Sx} {σ : Sg} {H : Hp} {i : Nat} {v w : V} {s u : Sl} (h : RepP K P S σ H w u) (hv : RepP K P S σ H v s) (ap : ∀ l m, s = .cell l → u = .cell m → v ≠ w) : RepP K P { S with env := S.env.set i s } (σ.set i (some v)) H w u := by
  cases u with
  | un => exact h
  | val d => exact h
  | cell m =>
    obtain ⟨p, vs, e, L, rl⟩ := h
    subst e
    refine ⟨p, vs, rfl, L.rep rfl rfl rfl rfl id (fun c => ?_), rl⟩
    obtain ⟨j, l, h1, h2⟩ := c
    rcases getElem?_set_some h1 with ⟨e1, e2⟩ | ⟨e1, h1⟩
    · subst e1 e2
      have hl : j < σ.length := by
        have := (List.getElem?_eq_some_iff.mp h2).1
        rw [List.length_set] at this; exact this
      rw [List.getElem?_set_self hl] at h2
      cases h2
      exact absurd rfl (ap l m rfl rfl)
    · rw [List.getElem?_set_ne (fun q => e1 q.symm)] at h2
      exact ⟨j, l, h1, h2⟩
def sPar2 (i j : Nat) (a b : Mx Sl) : Mx Fl := mbind a fun x => mbind b fun y S => some (.nx, { S with env := (S.env.set i x).set j y })
def sPar3 (i j k : Nat) (a b c : Mx Sl) : Mx Fl := mbind a fun x => mbind b fun y => mbind c fun z S => some (.nx, { S with env := ((S.env.set i x).set j y).set k z })
theorem par2_go {S S' : Sx} {σ : Sg} {H : Hp} {P : Ph} {i j : Nat} {t u : TE} {a b : Mx Sl} {fl : Fl} (h1 : SemP K t a) (h2 : SemP K u b) (r : RepS K P S σ H) (hf : sPar2 i j a b S = some (fl, S')) {R : V → V → Hp → Prop}
    (q : ∀ v w H' P', P.Le P' → RepS K P' S' ((σ.set i (some v)).set j (some w)) H' → R v w H') : fl = .nx ∧ t σ H fun v H1 => u σ H1 fun w H2 => R v w H2 := by
  obtain ⟨x, S1, e1, hf⟩ := mbind_some hf
  obtain ⟨y, S2, e2, hf⟩ := mbind_some hf
  cases hf
  refine ⟨rfl, h1 S S1 σ H P x r e1 _ fun v H1 P1 le1 r1 rv => ?_⟩
  refine h2 S1 S2 σ H1 (P1.base S1 σ H1) y r1.base e2 _ fun w H2 P2 le2 r2 rw' => ?_
  obtain ⟨le3, r3⟩ := r1.back le2 r2
  have rv3 := repP_stay r1 le2 r2 rv
  have rw3 := repP_back r1 le2 rw'
  refine q v w H2 _ (le1.trans le3) ?_
  refine store_p (store_p r3 rv3) (repP_store rw3 rv3 fun l m ex ey => ?_)
  subst ex ey
  exact repP_apart r1 le2 r2 rv rw'
theorem sem_par2 {i j : Nat} {t u : TE} {a b : Mx Sl} (h1 : SemP K t a) (h2 : SemP K u b) : SemS K (tPar i j (tCons t (tCons u tNil))) (sPar2 i j a b) := by
  intro S S' σ H P fl r hf Dn q
  have go := par2_go (R := fun v w H2 => ∃ v' w', [v, w] = [v', w'] ∧ Dn.nx ((σ.set i (some v')).set j (some w')) H2) h1 h2 r hf
  obtain ⟨x, S1, e1, hf'⟩ := mbind_some hf
  obtain ⟨y, S2, e2, hf'⟩ := mbind_some hf'
  cases hf'
  exact (go fun v w H2 P2 le2 r2 => ⟨v, w, rfl, q _ H2 P2 le2 r2⟩).2
/-- the same by a tuple that is made -/
theorem sem_par2T {i j : Nat} {t u : TE} {a b : Mx Sl} (h1 : SemP K t a) (h2 : SemP K u b) : SemS K (tAsg (tTup (tCons t (tCons u tNil))) (gTup K 2 (gCons (gName i) (gCons (gName j) gNil)))) (sPar2 i j a b) := by
  intro S S' σ H P fl r hf Dn q
  have go := par2_go (R := fun v w H2 => [v, w].length ≤ sizeLine ∧ ∀ p, H2 p = none → gTup K 2 (gCons (gName i) (gCons (gName j) gNil)) (.ref p) σ (upd H2 p (.tup [v, w])) Dn.nx) h1 h2 r hf
  obtain ⟨x, S1, e1, hf'⟩ := mbind_some hf
  obtain ⟨y, S2, e2, hf'⟩ := mbind_some hf'
  cases hf'
  refine (go fun v w H2 P2 le2 r2 => ⟨(by show 2 ≤ sizeLine; decide), fun p hp => ⟨p, _, rfl, SqT.of upd_same, rfl, v, [w], rfl, w, [], rfl, rfl, ?_⟩⟩).2
  exact q _ _ P2 le2 (r2.loose hp)
theorem par3_go {S S' : Sx} {σ : Sg} {H : Hp} {P : Ph} {i j k : Nat} {t u w : TE} {a b c : Mx Sl} {fl : Fl} (h1 : SemP K t a) (h2 : SemP K u b) (h3 : SemP K w c) (r : RepS K P S σ H) (hf : sPar3 i j k a b c S = some (fl, S')) {R : V → V → V → Hp → Prop}
    (q : ∀ v1 v2 v3 H' P', P.Le P' → RepS K P' S' (((σ.set i (some v1)).set j (some v2)).set k (some v3)) H' → R v1 v2 v3 H') : t σ H fun v H1 => u σ H1 fun w' H2 => w σ H2 fun z H3 => R v w' z H3 := by
  obtain ⟨x, S1, e1, hf⟩ := mbind_some hf
  obtain ⟨y, S2, e2, hf⟩ := mbind_some hf
  obtain ⟨z, S3, e3, hf⟩ := mbind_some hf
  cases hf
  refine h1 S S1 σ H P x r e1 _ fun v1 H1 P1 le1 r1 rv => ?_
  refine h2 S1 S2 σ H1 (P1.base S1 σ H1) y r1.base e2 _ fun v2 H2 P2 le2 r2 rw' => ?_
  obtain ⟨le3, r3⟩ := r1.back le2 r2
  have rv3 := repP_stay r1 le2 r2 rv
  have rw3 := repP_back r1 le2 rw'
  refine h3 S2 S3 σ H2 ((P1.back P2).base S2 σ H2) z r3.base e3 _ fun v3 H3 P4 le4 r4 rz => ?_
  obtain ⟨le5, r5⟩ := r3.back le4 r4
  have rv5 := repP_stay r3 le4 r4 rv3
  have rw5 := repP_stay r3 le4 r4 rw3
  have rz5 := repP_back r3 le4 rz
  have ap12 : ∀ l m, x = .cell l → y = .cell m → v1 ≠ v2 := fun l m ex ey => by subst ex ey; exact repP_apart r1 le2 r2 rv rw'
  have ap13 : ∀ l m, x = .cell l → z = .cell m → v1 ≠ v3 := fun l m ex ey => by subst ex ey; exact repP_apart r3 le4 r4 rv3 rz
  have ap23 : ∀ l m, y = .cell l → z = .cell m → v2 ≠ v3 := fun l m ex ey => by subst ex ey; exact repP_apart r3 le4 r4 rw3 rz
  refine q v1 v2 v3 H3 _ ((le1.trans le3).trans le5) ?_
  exact store_p (store_p (store_p r5 rv5) (repP_store rw5 rv5 ap12)) (repP_store (repP_store rz5 rv5 ap13) (repP_store rw5 rv5 ap12) ap23)
theorem sem_par3 {i j k : Nat} {t u w : TE} {a b c : Mx Sl} (h1 : SemP K t a) (h2 : SemP K u b) (h3 : SemP K w c) : SemS K (tPar3 i j k (tCons t (tCons u (tCons w tNil)))) (sPar3 i j k a b c) := by
  intro S S' σ H P fl r hf Dn q
  have go := par3_go (R := fun v1 v2 v3 H2 => ∃ u' v' w', [v1, v2, v3] = [u', v', w'] ∧ Dn.nx (((σ.set i (some u')).set j (some v')).set k (some w')) H2) h1 h2 h3 r hf
  obtain ⟨x, S1, e1, hf'⟩ := mbind_some hf
  obtain ⟨y, S2, e2, hf'⟩ := mbind_some hf'
  obtain ⟨z, S3, e3, hf'⟩ := mbind_some hf'
  cases hf'
  exact go fun v1 v2 v3 H2 P2 le2 r2 => ⟨v1, v2, v3, rfl, q _ H2 P2 le2 r2⟩
theorem sem_par3T {i j k : Nat} {t u w : TE} {a b c : Mx Sl} (h1 : SemP K t a) (h2 : SemP K u b) (h3 : SemP K w c) : SemS K (tAsg (tTup (tCons t (tCons u (tCons w tNil)))) (gTup K 3 (gCons (gName i) (gCons (gName j) (gCons (gName k) gNil))))) (sPar3 i j k a b c) := by
  intro S S' σ H P fl r hf Dn q
  have go := par3_go (R := fun v1 v2 v3 H2 => [v1, v2, v3].length ≤ sizeLine ∧ ∀ p, H2 p = none → gTup K 3 (gCons (gName i) (gCons (gName j) (gCons (gName k) gNil))) (.ref p) σ (upd H2 p (.tup [v1, v2, v3])) Dn.nx) h1 h2 h3 r hf
  obtain ⟨x, S1, e1, hf'⟩ := mbind_some hf
  obtain ⟨y, S2, e2, hf'⟩ := mbind_some hf'
  obtain ⟨z, S3, e3, hf'⟩ := mbind_some hf'
  cases hf'
  refine go fun v1 v2 v3 H2 P2 le2 r2 => ⟨(by show 3 ≤ sizeLine; decide), fun p hp => ⟨p, _, rfl, SqT.of upd_same, rfl, v1, [v2, v3], rfl, v2, [v3], rfl, v3, [], rfl, rfl, ?_⟩⟩
  exact q _ _ P2 le2 (r2.loose hp)
/-! ### loops -/
def forL (tg : D → Sx → Option Sx) (body : Mx Fl) : List D → Mx Fl
  | [] => fun S => some (.nx, S)
  | d :: ds => fun S => match tg d S with
    | none => none
    | some S1 => match body S1 with
      | none => none
      | some (.nx, S2) => forL tg body ds S2
      | some (.ct, S2) => forL tg body ds S2
      | some (.bk, S2) => some (.nx, S2)
      | some (.rt d, S2) => some (.rt d, S2)
def sFor (it : Mx (List D)) (tg : D → Sx → Option Sx) (body : Mx Fl) : Mx Fl := mbind it fun ds => forL tg body ds
theorem sem_for {ix : List Nat} {wi : TI} {g : TG} {tb : TS} {it : Mx (List D)} {tg : D → Sx → Option Sx} {body : Mx Fl} (hi : SemI K wi it) (hg : SemTg K ix g tg) (hb : SemS K tb body) : SemS K (tFor wi g tb) (sFor it tg body) := by
  intro S S' σ H P fl r hf Dn q
  obtain ⟨ds, S1, h1, hf⟩ := mbind_some hf
  refine hi S S1 σ H P ds r h1 _ fun J H1 P1 le1 r1 wd => ?_
  refine ⟨fun i m σc Hc => m = ds.length - i ∧ i ≤ ds.length ∧ ∃ (Pc : Ph) (Sc : Sx), P1.Le Pc ∧ RepS K Pc Sc σc Hc ∧ forL tg body (ds.drop i) Sc = some (fl, S'), ⟨_, rfl, Nat.zero_le _, P1, S1, Ph.Le.refl P1, r1, hf⟩, ?_⟩
  rintro i m σc Hc ⟨rfl, hil, Pc, Sc, lec, rc, hl⟩
  obtain ⟨wgo, wstop⟩ := wd Pc lec Sc σc Hc rc
  by_cases hlt : i < ds.length
  · obtain ⟨go, yl⟩ := wgo i _ (List.getElem?_eq_getElem hlt)
    refine .inr ⟨go, fun σn Hn => ∃ (Pc : Ph) (Sc : Sx), P1.Le Pc ∧ RepS K Pc Sc σn Hn ∧ forL tg body (ds.drop (i + 1)) Sc = some (fl, S'), fun σn Hn hn => ⟨_, by omega, rfl, hlt, hn⟩, fun x H3 y3 => ?_⟩
    obtain ⟨P3, le3, rv3, sm3, wa3, hb3, rep3⟩ := yl x H3 y3
    rw [List.drop_eq_getElem_cons hlt] at hl
    unfold forL at hl
    split at hl
    · cases hl
    · rename_i T1 g1
      refine hg Sc T1 σc H3 P3 x _ (rep3 _ _ rc) rv3 g1 _ fun σ4 r4 l4 w4 ew c4 => ?_
      split at hl
      · cases hl
      · rename_i T2 g2
        exact hb T1 T2 σ4 H3 P3 _ r4 g2 _ fun σ5 H5 P5 le5 r5 => ⟨P5, T2, (lec.trans le3).trans le5, r5, hl⟩
      · rename_i T2 g2
        exact hb T1 T2 σ4 H3 P3 _ r4 g2 _ fun σ5 H5 P5 le5 r5 => ⟨P5, T2, (lec.trans le3).trans le5, r5, hl⟩
      · rename_i T2 g2
        cases hl
        exact hb T1 _ σ4 H3 P3 _ r4 g2 _ fun σ5 H5 P5 le5 r5 => q σ5 H5 P5 (((le1.trans lec).trans le3).trans le5) r5
      · rename_i d T2 g2
        cases hl
        exact hb T1 _ σ4 H3 P3 _ r4 g2 _ fun v σ5 H5 P5 le5 r5 rv => q v σ5 H5 P5 (((le1.trans lec).trans le3).trans le5) r5 rv
  · have e : i = ds.length := by omega
    subst e
    rw [List.drop_length] at hl
    cases hl
    exact .inl ⟨wstop, q σc Hc Pc (le1.trans lec) rc⟩
def whileF (c : Mx Bool) (body : Mx Fl) : Nat → Mx Fl
  | 0 => fun _ => none
  | k + 1 => fun S => match c S with
    | none => none
    | some (false, S1) => some (.nx, S1)
    | some (true, S1) => match body S1 with
      | none => none
      | some (.nx, S2) => whileF c body k S2
      | some (.ct, S2) => whileF c body k S2
      | some (.bk, S2) => some (.nx, S2)
      | some (.rt d, S2) => some (.rt d, S2)
def sWhile (fuel : Sx → Nat) (c : Mx Bool) (body : Mx Fl) : Mx Fl := fun S => whileF c body (fuel S) S
theorem sem_while {tc : TT} {tb : TS} {fuel : Sx → Nat} {c : Mx Bool} {body : Mx Fl} (hc : SemT K tc c) (hb : SemS K tb body) : SemS K (tWhile tc tb) (sWhile fuel c body) := by
  intro S S' σ H P fl r hf Dn q
  refine ⟨fun m σc Hc => ∃ (Pc : Ph) (Sc : Sx), P.Le Pc ∧ RepS K Pc Sc σc Hc ∧ whileF c body m Sc = some (fl, S'), ⟨_, P, S, Ph.Le.refl P, r, hf⟩, ?_⟩
  rintro m σc Hc ⟨Pc, Sc, lec, rc, hl⟩
  cases m with
  | zero => cases hl
  | succ k =>
    unfold whileF at hl
    split at hl
    · cases hl
    · rename_i T1 g1
      cases hl
      refine hc Sc _ σc Hc Pc _ rc g1 _ fun H1 P1 le1 r1 => ?_
      rw [if_neg Bool.false_ne_true]
      exact q σc H1 P1 (lec.trans le1) r1
    · rename_i T1 g1
      refine hc Sc T1 σc Hc Pc _ rc g1 _ fun H1 P1 le1 r1 => ?_
      rw [if_pos rfl]
      refine ⟨fun σn Hn => ∃ (Pc : Ph) (Sc : Sx), P.Le Pc ∧ RepS K Pc Sc σn Hn ∧ whileF c body k Sc = some (fl, S'), fun σn Hn hn => ⟨k, Nat.lt_succ_self k, hn⟩, ?_⟩
      split at hl
      · cases hl
      · rename_i T2 g2
        exact hb T1 T2 σc H1 P1 _ r1 g2 _ fun σ5 H5 P5 le5 r5 => ⟨P5, T2, (lec.trans le1).trans le5, r5, hl⟩
      · rename_i T2 g2
        exact hb T1 T2 σc H1 P1 _ r1 g2 _ fun σ5 H5 P5 le5 r5 => ⟨P5, T2, (lec.trans le1).trans le5, r5, hl⟩
      · rename_i T2 g2
        cases hl
        exact hb T1 _ σc H1 P1 _ r1 g2 _ fun σ5 H5 P5 le5 r5 => q σ5 H5 P5 ((lec.trans le1).trans le5) r5
      · rename_i d T2 g2
        cases hl
        exact hb T1 _ σc H1 P1 _ r1 g2 _ fun v σ5 H5 P5 le5 r5 rv => q v σ5 H5 P5 ((lec.trans le1).trans le5) r5 rv
/-! ### defs -/
abbrev Fn := List D → List Wo → Option (D × List Wo)
def stEnv (n : Nat) (args : List D) : List Sl := args.map Sl.val ++ List.replicate (n - args.length) Sl.un
def fnF (n : Nat) (body : Mx Fl) : Fn := fun args W => match body ⟨stEnv n args, W⟩ with
  | some (.rt d, S) => some (d, S.w)
  | some (.nx, S) => some (.non, S.w)
  | _ => none
/-- a def's promise -/
def spF (K : PySem.W.Frag) (np : Nat) (F : Fn) : Sp := fun vs H Q _ => ∃ (P : Ph) (ds : List D) (W W' : List Wo) (d : D), P.h0 = H ∧ P.m0 = MutW P W ∧ RepW K P W H ∧ RepL K P vs ds ∧ ds.length = np ∧ F ds W = some (d, W') ∧
  ∀ v H' P', P.Le P' → RepW K P' W' H' → Rep K P' v d → Q v H'
theorem start_rep {P : Ph} {W : List Wo} {H : Hp} {N : List Str} {vs : List V} {ds : List D} (r : RepW K P W H) (rl : RepL K P vs ds) (hl : vs.length ≤ N.length) : RepS K P ⟨stEnv N.length ds, W⟩ (L2.start N vs) H where
  w := r
  len := by simp [stEnv, L2.start, rl.length]
  sl := fun i s h => by
    have h' : (stEnv N.length ds)[i]? = some s := h
    unfold stEnv at h'
    by_cases hi : i < ds.length
    · rw [List.getElem?_append_left (by rw [List.length_map]; exact hi), List.getElem?_map, List.getElem?_eq_getElem hi] at h'
      cases h'
      obtain ⟨v, hv, rv⟩ := rl.get (List.getElem?_eq_getElem hi)
      refine ⟨v, ?_, rv⟩
      unfold L2.start
      rw [List.getElem?_append_left (by rw [List.length_map, rl.length]; exact hi), List.getElem?_map, hv]
      rfl
    · rw [List.getElem?_append_right (by rw [List.length_map]; omega)] at h'
      have := List.mem_of_getElem? h'
      have e := List.eq_of_mem_replicate this
      subst e; trivial
  dis := fun i j a l l' h1 _ _ _ => by
    have h' : (stEnv N.length ds)[i]? = some (.cell l) := h1
    unfold stEnv at h'
    by_cases hi : i < ds.length
    · rw [List.getElem?_append_left (by rw [List.length_map]; exact hi), List.getElem?_map, List.getElem?_eq_getElem hi] at h'
      cases h'
    · rw [List.getElem?_append_right (by rw [List.length_map]; omega)] at h'
      have e := List.eq_of_mem_replicate (List.mem_of_getElem? h')
      cases e
/-- THE RULE for a def -/
theorem Fun.okD {P : Program} {w : World} {mg : Str → Option Value} {base : Heap} {x qual : Str} {st : Stmt} {f : Addr} {fd : FuncData} {N ps : List Str} {k n np : Nat} {body : Mx Fl} (F : Fun K x qual st f fd) (S : FnScope N ps (defScope st)) (hn : N.length = n) (hp : ps.length = np) (hnp : np ≤ n)
    (h : ∀ (cdv : Value) (A : Around) (outer : List Env) (s : Shared) (H : Hp) (E : XK), Room k (A.deeper (envOfC qual (defScope st) s.heap.objs.size f cdv)) →
      ∃ t, PSs (cxOf CX0 P w K mg base N qual (defScope st) f cdv A outer s H E).nox (defBody st) t ∧ SemS K t body) : FnOk P w K mg base CX0 (k + 1) f fd ps (spF K np (fnF n body)) := by
  refine F.ok S (fun vs H Q E hs => ?_) fun cdv A outer s H vs Q E hr hs => ?_
  · obtain ⟨P0, ds, W, W', d, h1, h2, h3, h4, h5, _⟩ := hs
    rw [h4.length, h5, hp]
  · obtain ⟨P0, ds, W, W', d, h1, h2, h3, h4, h5, h6, q⟩ := hs
    obtain ⟨t, ht, hsem⟩ := h cdv A outer s H E hr
    refine ⟨t, ht, ?_⟩
    unfold fnF at h6
    rw [← hn] at h6
    have r := start_rep (N := N) h3 h4 (by rw [h4.length, h5, hn]; exact hnp)
    split at h6
    · rename_i d' S' e
      cases h6
      exact hsem _ _ _ H P0 _ r e _ fun v σ' H' P' le r' rv => q v H' P' le r'.w rv
    · rename_i S' e
      cases h6
      exact hsem _ _ _ H P0 _ r e _ fun σ' H' P' le r' => q .non H' P' le r'.w .non
    · cases h6
/-- a call behind which the caller goes on -/
theorem RepS.callee {P : Ph} {S : Sx} {σ : Sg} {H : Hp} (r : RepS K P S σ H) : RepW K { P with h0 := H, m0 := MutW P S.w } S.w H where
  same := r.w.same
  len := r.w.len
  wo := fun k a o h1 h2 => by
    have q := r.w.wo k a o h1 h2
    cases o with
    | lst l => obtain ⟨vs, q1, q2⟩ := q; exact ⟨vs, q1, q2.rebase⟩
  dis := r.w.dis
  nhb := r.w.nhb
  frame := fun a o h _ => h
  live := fun a ⟨k, l, h1, h2⟩ => by
    obtain ⟨vs, q, _⟩ := r.w.wo k a _ h1 h2
    rw [q]; simp
  wfree := fun a m => .inl m
theorem RepS.called {P P1 : Ph} {S : Sx} {σ : Sg} {H H1 : Hp} {W' : List Wo} (r : RepS K P S σ H) (le : ({ P with h0 := H, m0 := MutW P S.w } : Ph).Le P1) (r1 : RepW K P1 W' H1) : P.Le (P.back P1) ∧ RepS K (P.back P1) { S with w := W' } σ H1 := by
  have eh : P1.h0 = H := le.h0
  have em : P1.m0 = MutW P S.w := le.m0
  have fr : ∀ {a : Addr}, P1.h0 a = none ∨ P1.m0 a → P.h0 a = none ∨ P.m0 a := fun {a} h => by
    rw [eh, em] at h
    rcases h with h | h
    · exact .inl (r.w.h0_none h)
    · exact (r.w.wfree a h).symm
  have le2 : P.Le (P.back P1) := ⟨le.hb, fun a h h' => by
    have := le.new a h h'
    exact fr (by rw [eh, em]; exact this), le.wa, rfl, rfl⟩
  refine ⟨le2, ⟨?_, r.len, fun i s h => ?_, r.dis⟩⟩
  · exact {
      same := r1.same
      len := r1.len
      wo := fun k a o h1 h2 => by
        have q := r1.wo k a o h1 h2
        cases o with
        | lst l => obtain ⟨vs, q1, q2⟩ := q; exact ⟨vs, q1, q2.rebase⟩
      dis := r1.dis
      nhb := r1.nhb
      frame := fun a o h m => by
        refine r1.frame a o (by rw [eh]; exact r.w.frame a o h m) fun q => ?_
        rw [em] at q
        rcases r.w.wfree a q with z | z
        · exact m z
        · have h' : P.h0 a = some o := h
          rw [z] at h'; cases h'
      live := fun a m => by
        by_cases q : P1.m0 a
        · exact r1.live a q
        · have hl := r.w.live a m
          cases z : H a with
          | none => exact absurd z hl
          | some o => rw [r1.frame a o (by rw [eh]; exact z) q]; simp
      wfree := fun a m => (fr (r1.wfree a m).symm).symm }
  · have q := r.sl i s h
    cases s with
    | un => trivial
    | val d => obtain ⟨v, h1, h2⟩ := q; exact ⟨v, h1, h2.mono le2⟩
    | cell l =>
      obtain ⟨a, vs, g1, g2, g3, g4, g5, g7⟩ := q
      have nm : ¬ P1.m0 a := by rw [em]; exact g7
      have nn : ¬ (P1.h0 a = none ∨ P1.m0 a) := fun z => by
        rcases z with z | z
        · rw [eh, g2] at z; cases z
        · exact nm z
      refine ⟨a, vs, g1, r1.frame a _ (by rw [eh]; exact g2) nm, g3.mono le2, ?_, g5, fun m => nn (r1.wfree a m).symm⟩
      cases z : P1.hb a with
      | none => exact z
      | some o => exact absurd (by have := le.new a g4 (by rw [z]; simp); rw [eh, em]; exact this) nn
def eCall (F : Fn) (as : Mx (List D)) : Mx D := mbind as fun ds S => if plainL ds = true then match F ds S.w with
  | some (d, W') => some (d, { S with w := W' })
  | none => none else none
theorem sem_call {np : Nat} {F : Fn} {E : XK} {t : TA} {f : Mx (List D)} (h : SemA K t f) (hl : ∀ S ds S', f S = some (ds, S') → ds.length = np) : SemE K (tCall (spF K np F) [] E t) (eCall F f) := by
  intro S S' σ H P d r hf Q q
  obtain ⟨ds, S1, h1, hf⟩ := mbind_some hf
  split at hf
  · rename_i hp
    split at hf
    · rename_i d' W' e
      cases hf
      refine h S S1 σ H P ds r h1 _ fun vs H1 P1 le1 r1 rx => ?_
      refine ⟨{ P1 with h0 := H1, m0 := MutW P1 S1.w }, ds, S1.w, W', d, rfl, rfl, r1.callee, ?_, hl _ _ _ h1, e, fun v H' P' le' r' rv => ?_⟩
      · rw [List.append_nil]; exact (rx.plain hp).rebase
      · obtain ⟨le2, r2⟩ := r1.called le' r'
        exact (q.later le1).now le2 r2 (Rep.toR rv.rebase)
    · cases hf
  · cases hf
end
end Ms
set_option Elab.async false
set_option linter.all false
set_option maxRecDepth 100000
set_option maxHeartbeats 1000000
/-! MsH: one rule for each construct: the hand layer's reading and the data-level run go together. -/
namespace Ms
open PySem PySem.Spec PyProof.Rows L2
set_option autoImplicit false

structure EX (X : Cx) (e : Expr) (t : TE) (f : Mx D) : Prop where
  pe : PE X e t
  sem : SemE X.K t f
structure NX (X : Cx) (e : Expr) (t : TE) (f : Mx (List D)) : Prop where
  pe : PE X e t
  sem : SemN X.K t f
structure TX (X : Cx) (e : Expr) (t : TT) (f : Mx Bool) : Prop where
  pt : PT X e t
  sem : SemT X.K t f
structure WX (X : Cx) (e : Expr) (t : TT) (f : Mx Bool) : Prop where
  pw : PW X e t
  sem : SemT X.K t f
structure AX (X : Cx) (es : List Expr) (t : TA) (f : Mx (List D)) : Prop where
  pa : PA X es t
  sem : SemA X.K t f
structure OX (X : Cx) (e : Option Expr) (t : Sg → Hp → (Option Int → Hp → Prop) → Prop) (f : Mx (Option Int)) : Prop where
  po : PO X e t
  sem : SemO X.K t f
structure RX (X : Cx) (e : Expr) (t : Sg → Hp → (Int → Int → Hp → Prop) → Prop) (f : Mx (Int × Int)) : Prop where
  pr : PRg X e t
  sem : SemG X.K t f
structure IX (X : Cx) (tg iter : Expr) (wi : TI) (f : Mx (List D)) : Prop where
  pi : PI X tg iter wi
  sem : SemI X.K wi f
structure GX (X : Cx) (target : Expr) (ix : List Nat) (g : TG) (tg : D → Sx → Option Sx) : Prop where
  pg : PG X target g
  sem : SemTg X.K ix g tg
structure GsX (X : Cx) (targets : List Expr) (ix : List Nat) (g : TGs) (tg : List D → Sx → Option Sx) : Prop where
  pg : PGs X targets g
  sem : SemTgs X.K ix g tg
structure LsX (X : Cx) (targets : List Expr) (g : TGs) (tg : List D → Sx → Option Sx) : Prop where
  pg : PGs X targets g
  sem : SemTl X.K g tg
structure PX (X : Cx) (e : Expr) (t : TE) (f : Mx Sl) : Prop where
  pe : PE X e t
  sem : SemP X.K t f
structure SX (X : Cx) (st : Stmt) (t : TS) (f : Mx Fl) : Prop where
  ps : PS X st t
  sem : SemS X.K t f
structure BX (X : Cx) (st : List Stmt) (t : TS) (f : Mx Fl) : Prop where
  ps : PSs X st t
  sem : SemS X.K t f

/-- the built-ins that the program does not name anew -/
structure Bi (mg : Str → Option Value) (xs : List Str) : Prop where
  no : ∀ x ∈ xs, mg x = none

section
variable {X : Cx} {pos p p2 p3 apos tpos : Pos} {a b c e : Expr} {es : List Expr} {ta tb tc te : TE} {t u : TA} {fa fb fc fe : Mx D} {f g : Mx (List D)}
/-! ### names, constants -/
theorem x_var (i : Nat) {x : Str} (hN : X.N[i]? = some x := by rfl) (hv : Vis X.env.scope x := by first | exact Or.inl rfl | exact Or.inr (Or.inl rfl) | exact Or.inr (Or.inr rfl)) (hd : (x == ("__debug__" : Str)) = false := by decide)
    (hcd : (x == ("__classdict__" : Str)) = false := by decide) : EX X (.Name x pos) (tVar i) (eVar i) := ⟨pe_var hN hv hd hcd, sem_var⟩
theorem x_frz (i : Nat) {x : Str} (hN : X.N[i]? = some x := by rfl) (hv : Vis X.env.scope x := by first | exact Or.inl rfl | exact Or.inr (Or.inl rfl) | exact Or.inr (Or.inr rfl)) (hd : (x == ("__debug__" : Str)) = false := by decide)
    (hcd : (x == ("__classdict__" : Str)) = false := by decide) : EX X (.Name x pos) (tVar i) (eFrz i) := ⟨pe_var hN hv hd hcd, sem_frz⟩
theorem x_int {i : Int} {j : Nat} : EX X (.Constant (.int i) j pos) (tC (.int i)) (eK (.int i)) := ⟨pe_int, sem_int⟩
theorem x_bl {i : Bool} {j : Nat} : EX X (.Constant (.bool i) j pos) (tC (.bl i)) (eK (.bl i)) := ⟨pe_bl, sem_bl⟩
theorem x_non {j : Nat} : EX X (.Constant .none j pos) (tC .non) (eK .non) := ⟨pe_non, sem_non⟩
theorem x_str {s : Str} {j : Nat} : EX X (.Constant (.str s) j pos) (tC (.str s)) (eK (.str s)) := ⟨pe_str, sem_str⟩
/-- a module's number -/
theorem x_gint {x : Str} {i : Int} (tk : Tok) (hg : Gl X x) (hm : X.mg x = some (.int i tk)) (hd : (x == ("__debug__" : Str)) = false := by decide) : EX X (.Name x pos) (tC (.int i)) (eK (.int i)) := ⟨pe_glob hg hm ⟨tk, rfl⟩ hd, sem_int⟩
/-! ### operators -/
theorem x_op {op : Operator} {r : R2} {g : D → D → Mx D} (ho : OpR X (binaryOp op) r) (hs : OpD X.K r g) (ha : EX X a ta fa) (hb : EX X b tb fb) : EX X (.BinOp a op b pos) (tOp r ta tb) (e2 g fa fb) := ⟨pe_op ho ha.pe hb.pe, sem_op hs ha.sem hb.sem⟩
theorem x_add (ha : EX X a ta fa) (hb : EX X b tb fb) : EX X (.BinOp a .Add b pos) (tOp (rAddA X.K) ta tb) (e2 dAdd fa fb) := x_op op_addA opd_add ha hb
theorem x_sub (ha : EX X a ta fa) (hb : EX X b tb fb) : EX X (.BinOp a .Sub b pos) (tOp (rI0 fun i j => .int (i - j)) ta tb) (e2 dSub fa fb) := x_op op_sub opd_sub ha hb
theorem x_mul (ha : EX X a ta fa) (hb : EX X b tb fb) : EX X (.BinOp a .Mult b pos) (tOp (rMulA X.K) ta tb) (e2 dMulI fa fb) := x_op op_mulA opd_mul ha hb
theorem x_div (ha : EX X a ta fa) (hb : EX X b tb fb) : EX X (.BinOp a .FloorDiv b pos) (tOp (rI CDiv fun i j => .int (i / j)) ta tb) (e2 dDiv fa fb) := x_op op_fdiv opd_div ha hb
theorem x_mod (ha : EX X a ta fa) (hb : EX X b tb fb) : EX X (.BinOp a .Mod b pos) (tOp (rI (fun _ j => 0 < j) fun i j => .int (i % j)) ta tb) (e2 dMod fa fb) := x_op op_mod opd_mod ha hb
theorem n_cat (ha : EX X a ta fa) (hb : EX X b tb fb) : NX X (.BinOp a .Add b pos) (tOp (rAddA X.K) ta tb) (n2 dCat fa fb) := ⟨pe_op op_addA ha.pe hb.pe, sem_opN opn_catA ha.sem hb.sem⟩
theorem n_rep (ha : EX X a ta fa) (hb : EX X b tb fb) : NX X (.BinOp a .Mult b pos) (tOp (rMulA X.K) ta tb) (n2 dRep fa fb) := ⟨pe_op op_mulA ha.pe hb.pe, sem_opN opn_rep ha.sem hb.sem⟩
theorem x_neg (ha : EX X a ta fa) : EX X (.UnaryOp .USub a pos) (tUn (rU fun i => .int (-i)) ta) (e1 uNeg fa) := ⟨pe_un un_neg ha.pe, sem_un und_neg ha.sem⟩
/-! ### comparisons -/
theorem x_cmp {op : CmpOp} {r : R2} {g : D → D → Mx D} (ho : OpR X (compareOp op) r) (hs : OpD X.K r g) (ha : EX X a ta fa) (hb : EX X b tb fb) (hm : behindInMarks op b = false) : EX X (.Compare a [op] [b] pos) (tOp r ta tb) (e2 g fa fb) := ⟨pe_cmpR ho ha.pe hb.pe hm, sem_op hs ha.sem hb.sem⟩
theorem c_cmp {op : CmpOp} {r : R2} {g : D → D → Mx D} (ho : OpR X (compareOp op) r) (hs : OpD X.K r g) (ha : EX X a ta fa) (hb : EX X b tb fb) (hm : behindInMarks op b = false) : TX X (.Compare a [op] [b] pos) (tTest (tOp r ta tb)) (cVal (e2 g fa fb)) := ⟨pt_cmpR ho ha.pe hb.pe hm, sem_test (sem_op hs ha.sem hb.sem)⟩
theorem room64 {k : Nat} {A : Around} (hr : Room k A) : A.units + 64 < cLine := hr.units
theorem room65 {k : Nat} {A : Around} (hr : Room k A) : A.units + 65 < cLine := by have := hr.un; omega
theorem x_lt (ha : EX X a ta fa) (hb : EX X b tb fb) : EX X (.Compare a [.Lt] [b] pos) (tOp (rI0 fun i j => .bl (decide (i < j))) ta tb) (e2 dLt fa fb) := x_cmp op_lt opd_lt ha hb (nomark _)
theorem x_le (ha : EX X a ta fa) (hb : EX X b tb fb) : EX X (.Compare a [.LtE] [b] pos) (tOp (rI0 fun i j => .bl (decide (i ≤ j))) ta tb) (e2 dLe fa fb) := x_cmp op_le opd_le ha hb (nomark _)
theorem x_gt (ha : EX X a ta fa) (hb : EX X b tb fb) : EX X (.Compare a [.Gt] [b] pos) (tOp (rI0 fun i j => .bl (decide (j < i))) ta tb) (e2 dGt fa fb) := x_cmp op_gt opd_gt ha hb (nomark _)
theorem x_ge (ha : EX X a ta fa) (hb : EX X b tb fb) : EX X (.Compare a [.GtE] [b] pos) (tOp (rI0 fun i j => .bl (decide (j ≤ i))) ta tb) (e2 dGe fa fb) := x_cmp op_ge opd_ge ha hb (nomark _)
theorem x_eq {k : Nat} (hr : Room k X.A) (ha : EX X a ta fa) (hb : EX X b tb fb) : EX X (.Compare a [.Eq] [b] pos) (tOp (rEqD X.K) ta tb) (e2 dEq fa fb) := x_cmp (op_eqD (room64 hr)) opd_eq ha hb (nomark _)
theorem x_ne {k : Nat} (hr : Room k X.A) (ha : EX X a ta fa) (hb : EX X b tb fb) : EX X (.Compare a [.NotEq] [b] pos) (tOp (rNeD X.K) ta tb) (e2 dNe fa fb) := x_cmp (op_neD (room64 hr)) opd_ne ha hb (nomark _)
def dIs (x y : D) : Mx D := if x.isCr then mfail else dIsN x y
def dIsnt (x y : D) : Mx D := if x.isCr then mfail else dNotN x y
theorem x_is (ha : EX X a ta fa) (hb : EX X b tb fb) : EX X (.Compare a [.Is] [b] pos) (tOp (fun x y H Q => y = .non ∧ Q (.bl (decide (x = .non))) H) ta tb) (e2 dIs fa fb) := x_cmp op_isN opd_isN ha hb (nomark _)
theorem x_isnt (ha : EX X a ta fa) (hb : EX X b tb fb) : EX X (.Compare a [.IsNot] [b] pos) (tOp (fun x y H Q => y = .non ∧ Q (.bl (!decide (x = .non))) H) ta tb) (e2 dIsnt fa fb) := x_cmp op_notN opd_notN ha hb (nomark _)
theorem x_in {k : Nat} (hr : Room k X.A) (ha : EX X a ta fa) (hb : EX X b tb fb) (hm : behindInMarks .In b = false := by rfl) : EX X (.Compare a [.In] [b] pos) (tOp (rInA X.K) ta tb) (e2 dIn fa fb) := x_cmp (op_inA (room65 hr)) opd_in ha hb hm
theorem x_notIn {k : Nat} (hr : Room k X.A) (ha : EX X a ta fa) (hb : EX X b tb fb) (hm : behindInMarks .NotIn b = false := by rfl) : EX X (.Compare a [.NotIn] [b] pos) (tOp (rNotInA X.K) ta tb) (e2 dNotIn fa fb) := x_cmp (op_notInA (room65 hr)) opd_notIn ha hb hm
theorem c_lt (ha : EX X a ta fa) (hb : EX X b tb fb) : TX X (.Compare a [.Lt] [b] pos) (tTest (tOp (rI0 fun i j => .bl (decide (i < j))) ta tb)) (cVal (e2 dLt fa fb)) := c_cmp op_lt opd_lt ha hb (nomark _)
theorem c_le (ha : EX X a ta fa) (hb : EX X b tb fb) : TX X (.Compare a [.LtE] [b] pos) (tTest (tOp (rI0 fun i j => .bl (decide (i ≤ j))) ta tb)) (cVal (e2 dLe fa fb)) := c_cmp op_le opd_le ha hb (nomark _)
theorem c_gt (ha : EX X a ta fa) (hb : EX X b tb fb) : TX X (.Compare a [.Gt] [b] pos) (tTest (tOp (rI0 fun i j => .bl (decide (j < i))) ta tb)) (cVal (e2 dGt fa fb)) := c_cmp op_gt opd_gt ha hb (nomark _)
theorem c_ge (ha : EX X a ta fa) (hb : EX X b tb fb) : TX X (.Compare a [.GtE] [b] pos) (tTest (tOp (rI0 fun i j => .bl (decide (j ≤ i))) ta tb)) (cVal (e2 dGe fa fb)) := c_cmp op_ge opd_ge ha hb (nomark _)
theorem c_eq {k : Nat} (hr : Room k X.A) (ha : EX X a ta fa) (hb : EX X b tb fb) : TX X (.Compare a [.Eq] [b] pos) (tTest (tOp (rEqD X.K) ta tb)) (cVal (e2 dEq fa fb)) := c_cmp (op_eqD (room64 hr)) opd_eq ha hb (nomark _)
theorem c_ne {k : Nat} (hr : Room k X.A) (ha : EX X a ta fa) (hb : EX X b tb fb) : TX X (.Compare a [.NotEq] [b] pos) (tTest (tOp (rNeD X.K) ta tb)) (cVal (e2 dNe fa fb)) := c_cmp (op_neD (room64 hr)) opd_ne ha hb (nomark _)
theorem c_is (ha : EX X a ta fa) (hb : EX X b tb fb) : TX X (.Compare a [.Is] [b] pos) (tTest (tOp (fun x y H Q => y = .non ∧ Q (.bl (decide (x = .non))) H) ta tb)) (cVal (e2 dIs fa fb)) := c_cmp op_isN opd_isN ha hb (nomark _)
theorem c_isnt (ha : EX X a ta fa) (hb : EX X b tb fb) : TX X (.Compare a [.IsNot] [b] pos) (tTest (tOp (fun x y H Q => y = .non ∧ Q (.bl (!decide (x = .non))) H) ta tb)) (cVal (e2 dIsnt fa fb)) := c_cmp op_notN opd_notN ha hb (nomark _)
theorem c_in {k : Nat} (hr : Room k X.A) (ha : EX X a ta fa) (hb : EX X b tb fb) (hm : behindInMarks .In b = false := by rfl) : TX X (.Compare a [.In] [b] pos) (tTest (tOp (rInA X.K) ta tb)) (cVal (e2 dIn fa fb)) := c_cmp (op_inA (room65 hr)) opd_in ha hb hm
theorem c_notIn {k : Nat} (hr : Room k X.A) (ha : EX X a ta fa) (hb : EX X b tb fb) (hm : behindInMarks .NotIn b = false := by rfl) : TX X (.Compare a [.NotIn] [b] pos) (tTest (tOp (rNotInA X.K) ta tb)) (cVal (e2 dNotIn fa fb)) := c_cmp (op_notInA (room65 hr)) opd_notIn ha hb hm
/-! ### truth -/
theorem tru_sound {P : Ph} {S : Sx} {σ : Sg} {H : Hp} {v : V} {d : D} {b : Bool} {K : PySem.W.Frag} (r : RepS K P S σ H) (rv : RepR K P σ v d) (h : truD S d = some b) : TruV K v H b := by
  have sq : (match seqC S d with
    | some l => some (!l.isEmpty)
    | none => none) = some b → TruV K v H b := fun h => by
    split at h
    · rename_i l hl
      cases h
      obtain ⟨a, vs, e, h1, h2⟩ := seqC_sound r rv hl
      subst e
      have ev : (!l.isEmpty) = !vs.isEmpty := by cases h2 <;> rfl
      rcases h1 with h1 | h1
      · exact .inl ⟨vs, h1, ev⟩
      · exact .inr (.inl ⟨vs, h1, ev⟩)
    · cases h
  cases d with
  | non => cases h; rw [rep_non rv]; rfl
  | bl c => cases h; rw [rep_bl rv]; rfl
  | int i => cases h; rw [rep_int rv]; rfl
  | str x =>
    unfold truD at h
    dsimp only at h
    split at h
    · cases h
      rw [rep_str rv]
      refine ⟨le_line (by assumption), ?_⟩
      cases hx : x.length with
      | zero => rfl
      | succ n =>
        have : ((n + 1 : Nat) : Int) ≠ 0 := by omega
        simp [bne_iff_ne]
        omega
    · cases h
  | tup l => exact sq h
  | lst l => exact sq h
  | rd l => exact sq h
  | ob k => exact sq h
  | cr i => exact sq h
theorem c_tru (ha : EX X a ta fa) (he : ∀ whole, isTrue a X.env whole = (do let v ← whole; standAt a.pos; holding [v] (truthy v)) := by intro _; rfl) :
    TX X a (fun σ H Q => ta σ H fun x H' => ∃ k, TruV X.K x H' k ∧ Q k H') (cTru fa) := ⟨pt_truth ha.pe he, by
  intro S S' σ H P b r hf Q q
  obtain ⟨d, S1, h1, hf⟩ := mbind_some hf
  split at hf
  · cases hf
    exact ha.sem S _ σ H P d r h1 _ fun v H1 P1 le1 r1 rv => ⟨_, tru_sound r1 rv (by assumption), q H1 P1 le1 r1⟩
  · cases hf⟩
theorem c_not {t : TT} {fc : Mx Bool} (h : TX X a t fc) : TX X (.UnaryOp .Not a pos) (tNot t) (cNot fc) := ⟨pt_not h.pt, sem_cnot h.sem⟩
theorem w_and1 {t : TT} {fc : Mx Bool} (h : TX X a t fc) : WX X (.BoolOp .And [a] pos) t fc := ⟨pw_and1 h.pt, h.sem⟩
theorem w_or1 {t : TT} {fc : Mx Bool} (h : TX X a t fc) : WX X (.BoolOp .Or [a] pos) t fc := ⟨pw_or1 h.pt, h.sem⟩
theorem w_and {t u : TT} {fc fd : Mx Bool} (h : TX X a t fc) (h2 : WX X (.BoolOp .And (b :: es) pos) u fd) : WX X (.BoolOp .And (a :: b :: es) pos) (tAnd t u) (cAnd fc fd) := ⟨pw_and h.pt h2.pw, sem_cand h.sem h2.sem⟩
theorem w_or {t u : TT} {fc fd : Mx Bool} (h : TX X a t fc) (h2 : WX X (.BoolOp .Or (b :: es) pos) u fd) : WX X (.BoolOp .Or (a :: b :: es) pos) (tOr t u) (cOr fc fd) := ⟨pw_or h.pt h2.pw, sem_cor h.sem h2.sem⟩
theorem c_w {t : TT} {fc : Mx Bool} (h : WX X a t fc) : TX X a t fc := ⟨h.pw.pt, h.sem⟩
theorem x_if {t : TT} {fcc : Mx Bool} (h : TX X c t fcc) (ha : EX X a ta fa) (hb : EX X b tb fb) : EX X (.IfExp c a b pos) (tIf t ta tb) (eIf fcc fa fb) := ⟨pe_ifExp h.pt ha.pe hb.pe, sem_if h.sem ha.sem hb.sem⟩
theorem x_one {op : BoolOp} (ha : EX X a ta fa) : EX X (.BoolOp op [a] pos) ta fa := ⟨pe_one ha.pe, ha.sem⟩
theorem x_and (ha : EX X a ta fa) (hb : EX X (.BoolOp .And (b :: es) pos) tb fb) : EX X (.BoolOp .And (a :: b :: es) pos) (tAndV ta tb) (eAnd fa fb) := ⟨pe_and ha.pe hb.pe, sem_eand ha.sem hb.sem⟩
theorem x_or (ha : EX X a ta fa) (hb : EX X (.BoolOp .Or (b :: es) pos) tb fb) : EX X (.BoolOp .Or (a :: b :: es) pos) (tOrV ta tb) (eOr fa fb) := ⟨pe_or ha.pe hb.pe, sem_eor ha.sem hb.sem⟩
theorem x_not (ha : EX X a ta fa) : EX X (.UnaryOp .Not a pos) (tNotV ta) (eNot fa) := ⟨pe_not ha.pe, sem_enot ha.sem⟩
/-- a < b < c -/
def eChain (g g' : D → D → Mx D) (fa fb fc : Mx D) : Mx D := mbind fa fun x => mbind fb fun y => mbind (cVal (g x y)) fun k => if k = true then mbind fc fun z => g' y z else mret (.bl false)
theorem sem_chain {K : PySem.W.Frag} {r r' : R2} {g g' : D → D → Mx D} (hg : OpD K r g) (hg' : OpD K r' g') (ha : SemE K ta fa) (hb : SemE K tb fb) (hc : SemE K tc fc) : SemE K (tChain r r' ta tb tc) (eChain g g' fa fb fc) := by
  intro S S' σ H P d r0 hf Q q
  obtain ⟨x, S1, e1, hf⟩ := mbind_some hf
  obtain ⟨y, S2, e2, hf⟩ := mbind_some hf
  obtain ⟨k, S3, e3, hf⟩ := mbind_some hf
  refine ha S S1 σ H P x r0 e1 _ fun vx H1 P1 le1 r1 rx => ?_
  refine hb S1 S2 σ H1 P1 y r1 e2 _ fun vy H2 P2 le2 r2 ry => ?_
  refine hg S2 S3 σ H2 P2 vx vy x y (.bl k) r2 (rx.mono le2) ry (cVal_some e3) _ fun vk H3 P3 le3 r3 rk => ⟨k, rep_bl rk, ?_⟩
  cases k with
  | false => cases hf; exact (((q.later le1).later le2).later le3).now (Ph.Le.refl P3) r3 (Rep.toR (.bl false))
  | true =>
    obtain ⟨z, S4, e4, hf⟩ := mbind_some hf
    refine hc S3 S4 σ H3 P3 z r3 e4 _ fun vz H4 P4 le4 r4 rz => ?_
    exact hg' S4 S' σ H4 P4 vy vz y z d r4 ((ry.mono le3).mono le4) rz hf Q ((((q.later le1).later le2).later le3).later le4)
theorem x_chain {op op' : CmpOp} {r r' : R2} {g g' : D → D → Mx D} (ho : OpR X (compareOp op) r) (ho' : OpR X (compareOp op') r') (hs : OpD X.K r g) (hs' : OpD X.K r' g') (ha : EX X a ta fa) (hb : EX X b tb fb) (hc : EX X c tc fc)
    (hm : lastMarks [op, op'] [b, c] = false := by with_unfolding_all rfl) : EX X (.Compare a [op, op'] [b, c] pos) (tChain r r' ta tb tc) (eChain g g' fa fb fc) := ⟨pe_chain ho ho' ha.pe hb.pe hc.pe hm, sem_chain hs hs' ha.sem hb.sem hc.sem⟩
theorem c_chain {op op' : CmpOp} {r r' : R2} {g g' : D → D → Mx D} (ho : OpR X (compareOp op) r) (ho' : OpR X (compareOp op') r') (hs : OpD X.K r g) (hs' : OpD X.K r' g') (ha : EX X a ta fa) (hb : EX X b tb fb) (hc : EX X c tc fc)
    (hm : lastMarks [op, op'] [b, c] = false := by with_unfolding_all rfl) : TX X (.Compare a [op, op'] [b, c] pos) (tTest (tChain r r' ta tb tc)) (cVal (eChain g g' fa fb fc)) := ⟨pt_chain ho ho' ha.pe hb.pe hc.pe hm, sem_test (sem_chain hs hs' ha.sem hb.sem hc.sem)⟩
/-! ### displays, arguments -/
theorem a_nil : AX X [] tNil aNil := ⟨pa_nil, sem_anil⟩
theorem a_cons (ha : EX X e te fe) (hb : AX X es t f) (hs : starEach (e :: es) X.env = (false, eval e X.env) :: starEach es X.env := by rfl) : AX X (e :: es) (tCons te t) (aCons fe f) := ⟨pa_cons ha.pe hb.pa hs, sem_acons ha.sem hb.sem⟩
theorem x_tup {k : Nat} (h : AX X es t f) : EX X (.Tuple es k pos) (tTup t) (eC mkTup f) := ⟨pe_tup h.pa, sem_tup h.sem⟩
theorem n_lst (h : AX X es t f) : NX X (.List es pos) (tLst t) (nLst f) := ⟨pe_lst h.pa, sem_lst h.sem⟩
theorem x_lst {f : Mx (List D)} (h : NX X e te f) : EX X e te (eLst f) := ⟨h.pe, sem_eLst h.sem⟩
theorem x_ob {f : Mx (List D)} (h : NX X e te f) : EX X e te (eOb f) := ⟨h.pe, sem_eOb h.sem⟩
/-! ### subscripts, slices -/
theorem x_ix (ha : EX X a ta fa) (hb : EX X b tb fb) (hs : PlainIx b := by intro _ _; rfl) : EX X (.Subscript a b pos) (tOp (rIx X.K) ta tb) (e2 dIx fa fb) := ⟨pe_ix ix_seq ha.pe hb.pe hs, sem_op opd_ix ha.sem hb.sem⟩
theorem o_none : OX X none tNoPart oNone := ⟨po_none, sem_onone⟩
theorem o_some (h : EX X e te fe) : OX X (some e) (tPart te) (oSome fe) := ⟨po_some h.pe, sem_osome h.sem⟩
theorem x_sl {lo hi : Option Expr} {tl th : Sg → Hp → (Option Int → Hp → Prop) → Prop} {fl fh : Mx (Option Int)} (ha : EX X a ta fa) (hl : OX X lo tl fl) (hh : OX X hi th fh) : EX X (.Subscript a (.Slice lo hi none p2) pos) (tSl (rSlAny X.K) ta tl th) (eSl dSl fa fl fh) :=
  ⟨pe_slice sl_any ha.pe hl.po hh.po, sem_sl ha.sem hl.sem hh.sem⟩
theorem n_sl {lo hi : Option Expr} {tl th : Sg → Hp → (Option Int → Hp → Prop) → Prop} {fl fh : Mx (Option Int)} (ha : EX X a ta fa) (hl : OX X lo tl fl) (hh : OX X hi th fh) : NX X (.Subscript a (.Slice lo hi none p2) pos) (tSl (rSlAny X.K) ta tl th) (nSl fa fl fh) :=
  ⟨pe_slice sl_any ha.pe hl.po hh.po, sem_nsl ha.sem hl.sem hh.sem⟩
theorem n_rev {k : Nat} {q1 q2 q3 : Pos} (ha : EX X a ta fa) : NX X (.Subscript a (.Slice none none (some (.UnaryOp .USub (.Constant (.int 1) k q1) q2)) q3) pos) (tRevL X.K ta) (n1 dRev fa) := ⟨pe_revL ha.pe, sem_rev ha.sem⟩
/-! ### calls of built-ins -/
theorem x_blt {x : Str} {id : String} {r : List V → Hp → VK → Prop} {g : List D → Mx D} (hc : CallR X (.builtin id) r) (hs : CallD X.K r g) (hg : Gl X x) (hm : X.mg x = none) (hv : bootBuiltins x = some (.builtin id)) (ha : AX X (e :: es) t f)
    (hn : x ≠ "__name__" := by decide) (hdb : (x == ("__debug__" : Str)) = false := by decide) (he : starEach (e :: es) X.env = (false, eval e X.env) :: starEach es X.env := by rfl) (hpl : (backTo pos (starEach es X.env)).any (·.1) = false := by rfl) :
    EX X (.Call (.Name x p) (e :: es) [] pos) (tCB r t) (eC g f) := ⟨pe_callB hc hg hm hv ha.pa hn hdb he hpl, sem_c hs ha.sem⟩
theorem x_bty {x : Str} {T : String} {r : List V → Hp → VK → Prop} {g : List D → Mx D} (hc : CallR X (.type T) r) (hs : CallD X.K r g) (hg : Gl X x) (hm : X.mg x = none) (hv : bootBuiltins x = some (.type T)) (ha : AX X (e :: es) t f)
    (hn : x ≠ "__name__" := by decide) (hdb : (x == ("__debug__" : Str)) = false := by decide) (he : starEach (e :: es) X.env = (false, eval e X.env) :: starEach es X.env := by rfl) (hpl : (backTo pos (starEach es X.env)).any (·.1) = false := by rfl) :
    EX X (.Call (.Name x p) (e :: es) [] pos) (tCB r t) (eC g f) := ⟨pe_callTy hc hg hm hv ha.pa hn hdb he hpl, sem_c hs ha.sem⟩
theorem n_blt {x : Str} {id : String} {r : List V → Hp → VK → Prop} {g : List D → Mx (List D)} (hc : CallR X (.builtin id) r) (hs : CallN X.K r g) (hg : Gl X x) (hm : X.mg x = none) (hv : bootBuiltins x = some (.builtin id)) (ha : AX X (e :: es) t f)
    (hn : x ≠ "__name__" := by decide) (hdb : (x == ("__debug__" : Str)) = false := by decide) (he : starEach (e :: es) X.env = (false, eval e X.env) :: starEach es X.env := by rfl) (hpl : (backTo pos (starEach es X.env)).any (·.1) = false := by rfl) :
    NX X (.Call (.Name x p) (e :: es) [] pos) (tCB r t) (nC g f) := ⟨pe_callB hc hg hm hv ha.pa hn hdb he hpl, sem_cn hs ha.sem⟩
theorem n_bty {x : Str} {T : String} {r : List V → Hp → VK → Prop} {g : List D → Mx (List D)} (hc : CallR X (.type T) r) (hs : CallN X.K r g) (hg : Gl X x) (hm : X.mg x = none) (hv : bootBuiltins x = some (.type T)) (ha : AX X (e :: es) t f)
    (hn : x ≠ "__name__" := by decide) (hdb : (x == ("__debug__" : Str)) = false := by decide) (he : starEach (e :: es) X.env = (false, eval e X.env) :: starEach es X.env := by rfl) (hpl : (backTo pos (starEach es X.env)).any (·.1) = false := by rfl) :
    NX X (.Call (.Name x p) (e :: es) [] pos) (tCB r t) (nC g f) := ⟨pe_callTy hc hg hm hv ha.pa hn hdb he hpl, sem_cn hs ha.sem⟩
theorem n_sortR {rev : Bool} {x : Str} {kpos vpos : Pos} {j : Nat} {k : Nat} (hr : Room k X.A) (hg : Gl X x) (hm : X.mg x = none) (hv : bootBuiltins x = some (.builtin "sorted")) (ha : AX X (e :: es) t f) (hn : x ≠ "__name__" := by decide) (hdb : (x == ("__debug__" : Str)) = false := by decide)
    (he : backTo pos (starEach (e :: es) X.env) = (false, eval e X.env) :: backTo pos (starEach es X.env) := by rfl) (hpl : (backTo pos (starEach (e :: es) X.env)).any (·.1) = false := by rfl) :
    NX X (.Call (.Name x p) (e :: es) [⟨some (Str.ofString "reverse"), .Constant (.bool rev) j vpos, kpos⟩] pos) (tCKw (fun xs zs H Q => ∃ v, xs = [v] ∧ zs = [.bl rev] ∧ rSortD X.K rev v H Q) t (tCons (tC (.bl rev)) tNil)) (nSortR rev f) :=
  ⟨pe_callBK (cr_sortDR (room64 hr)) hg hm hv ha.pa (pk_cons pe_bl pk_nil) hn hdb he hpl (by rfl) (by rfl) (by rfl), sem_sortR ha.sem⟩
/-! ### range as an argument -/
theorem r_1 (hg : Gl X "range") (hm : X.mg "range" = none) (ha : EX X a ta fa) (na : starEach [a] X.env = (false, eval a X.env) :: starEach [] X.env := by rfl) : RX X (.Call (.Name "range" p) [a] [] pos) (tRg1 ta) (gRg1 fa) := ⟨prg_1 hg hm ha.pe na, sem_rg1 ha.sem⟩
theorem r_2 (hg : Gl X "range") (hm : X.mg "range" = none) (ha : EX X a ta fa) (hb : EX X b tb fb) (na : starEach [a, b] X.env = (false, eval a X.env) :: starEach [b] X.env := by rfl) (nb : starEach [b] X.env = (false, eval b X.env) :: starEach [] X.env := by rfl)
    (hp : (backTo pos (starEach [b] X.env)).any (·.1) = false := by rfl) : RX X (.Call (.Name "range" p) [a, b] [] pos) (tRg2 ta tb) (gRg2 fa fb) := ⟨prg_2 hg hm ha.pe hb.pe na nb hp, sem_rg2 ha.sem hb.sem⟩
theorem n_listRg {tr : Sg → Hp → (Int → Int → Hp → Prop) → Prop} {fr : Mx (Int × Int)} (hc : X.calm = true) (hg : Gl X "list") (hm : X.mg "list" = none) (h : RX X e tr fr) (na : starEach [e] X.env = (false, eval e X.env) :: starEach [] X.env := by rfl) :
    NX X (.Call (.Name "list" p) [e] [] pos) (tLstRg tr) (nRg fr) := ⟨pe_listRg hc hg hm h.pr na, sem_nrg h.sem⟩
theorem x_tupRg {tr : Sg → Hp → (Int → Int → Hp → Prop) → Prop} {fr : Mx (Int × Int)} (hc : X.calm = true) (hg : Gl X "tuple") (hm : X.mg "tuple" = none) (h : RX X e tr fr) (na : starEach [e] X.env = (false, eval e X.env) :: starEach [] X.env := by rfl) :
    EX X (.Call (.Name "tuple" p) [e] [] pos) (tTupRg tr) (eTRg fr) := ⟨pe_tupRg hc hg hm h.pr na, sem_trg h.sem⟩
/-! ### methods of lists -/
theorem x_m {name : Str} {id : String} {r : V → List V → Hp → VK → Prop} {g : D → List D → Mx D} (slot : Slot "list" name id) (hty : typeOf (.builtin id) = pure (.type "method_descriptor")) (hm : MtR X id r) (hs : MetD X.K r g) (ho : EX X a ta fa) (ha : AX X (e :: es) t f)
    (hbase : attributeBase a name X.env (eval a X.env) = eval a X.env := by rfl)
    (hfew : ((backTo pos (starEach (e :: es) X.env)).all (fun x => !x.1) && (backToKw pos (keywordEach [] X.env)).all (fun x => x.1.isSome)
      && decide ((e :: es).length + ([] : List Keyword).length + (if ([] : List Keyword).isEmpty then 0 else 1) < 30)) = true := by rfl)
    (hline : (apos.endLine == pos.line) = true := by rfl) (hst : starEach (e :: es) X.env = (false, eval e X.env) :: starEach es X.env := by rfl) (hplain : (backTo pos (starEach es X.env)).any (·.1) = false := by rfl) :
    EX X (.Call (.Attribute a name apos) (e :: es) [] pos) (tBM X.K "list" r ta t) (eM g fa f) := ⟨pe_bm PySem.F.plainAttrs_list slot hty hm ho.pe ha.pa hbase hfew hline hst hplain, sem_m hs ho.sem ha.sem⟩
theorem x_m0 {name : Str} {id : String} {r : V → List V → Hp → VK → Prop} {g : D → List D → Mx D} (slot : Slot "list" name id) (hty : typeOf (.builtin id) = pure (.type "method_descriptor")) (hm : MtR X id r) (hs : MetD X.K r g) (ho : EX X a ta fa)
    (hbase : attributeBase a name X.env (eval a X.env) = eval a X.env := by rfl) (hline : (apos.endLine == pos.line) = true := by rfl) : EX X (.Call (.Attribute a name apos) [] [] pos) (tBM0 X.K "list" r ta) (eM g fa aNil) := ⟨pe_bm0 PySem.F.plainAttrs_list slot hty hm ho.pe hbase hline, sem_m0 hs ho.sem⟩
/-! ### a call of a def of the program -/
theorem x_call {np k j : Nat} {F : Fn} {x : Str} {fa : Addr} {fd : FuncData} {ps : List Str} (G : FnOk X.prog X.w X.K X.mg X.base CX0 j fa fd ps (spF X.K np F)) (hr : Room k X.A) (hjk : j ≤ k) (hg : Gl X x) (hm : X.mg x = some (.ref fa)) (hk : PySem.W.keepIn X.K (.ref fa) = true) (hb : Binds X.K fd ps [])
    (ha : AX X (e :: es) t f) (hl : ∀ S ds S', f S = some (ds, S') → ds.length = np) (hdb : (x == ("__debug__" : Str)) = false := by decide) (he : starEach (e :: es) X.env = (false, eval e X.env) :: starEach es X.env := by rfl) (hpl : (backTo pos (starEach es X.env)).any (·.1) = false := by rfl) :
    EX X (.Call (.Name x p) (e :: es) [] pos) (tCall (spF X.K np F) [] E0 t) (eCall F f) := ⟨pe_call G (hr.mono hjk) hg hm hk hb .nil pass0 ha.pa hdb he hpl, sem_call ha.sem hl⟩
theorem len_anil : ∀ S ds S', aNil S = some (ds, S') → ds.length = 0 := fun S ds S' h => by cases h; rfl
theorem len_acons {fe : Mx D} {f : Mx (List D)} {n : Nat} (h : ∀ S ds S', f S = some (ds, S') → ds.length = n) : ∀ S ds S', aCons fe f S = some (ds, S') → ds.length = n + 1 := fun S ds S' hf => by
  obtain ⟨x, S1, h1, hf⟩ := mbind_some hf
  obtain ⟨xs, S2, h2, hf⟩ := mbind_some hf
  cases hf
  simp [h _ _ _ h2]
/-! ### what is walked -/
theorem i_seq {tg : Expr} (ha : EX X a ta fa) : IX X tg a (iSq X.K ta) (iSeq fa) := ⟨pi_sq ha.pe, sem_iseq ha.sem⟩
theorem i_rg1 {tg : Expr} (hg : Gl X "range") (hm : X.mg "range" = none) (ha : EX X a ta fa) (hs : starEach [a] X.env = [(false, eval a X.env)] := by rfl) : IX X tg (.Call (.Name "range" p) [a] [] pos) (iRng1 (tCons ta tNil)) (iRg1 fa) := ⟨pi_range1 hg hm (pa_cons ha.pe pa_nil (by exact hs)) hs, sem_irg1 ha.sem⟩
theorem i_rg2 {tg : Expr} (hg : Gl X "range") (hm : X.mg "range" = none) (ha : EX X a ta fa) (hb : EX X b tb fb) (hs : starEach [a, b] X.env = [(false, eval a X.env), (false, eval b X.env)] := by rfl) (hs2 : starEach [b] X.env = [(false, eval b X.env)] := by rfl) :
    IX X tg (.Call (.Name "range" p) [a, b] [] pos) (iRng2 (tCons ta (tCons tb tNil))) (iRg2 fa fb) := ⟨pi_range2 hg hm (pa_cons ha.pe (pa_cons hb.pe pa_nil (by exact hs2)) (by rw [hs, hs2])) hs hs2, sem_irg2 ha.sem hb.sem⟩
theorem i_en {elts : List Expr} {kk : Nat} (hg : Gl X "enumerate") (hm : X.mg "enumerate" = none) (ha : EX X a ta fa) (hs : starEach [a] X.env = [(false, eval a X.env)] := by rfl) : IX X (.Tuple elts kk tpos) (.Call (.Name "enumerate" p) [a] [] pos) (iEnA X.K (tCons ta tNil)) (iEn fa) :=
  ⟨pi_en hg hm (pa_cons ha.pe pa_nil (by exact hs)) hs, sem_ien ha.sem⟩
theorem i_rv {tg : Expr} (hg : Gl X "reversed") (hm : X.mg "reversed" = none) (ha : EX X a ta fa) (hs : starEach [a] X.env = (false, eval a X.env) :: starEach [] X.env := by rfl) : IX X tg (.Call (.Name "reversed" p) [a] [] pos) (RT.iRevA X.K ta) (iRv fa) := ⟨RT.pi_revA hg hm ha.pe hs, sem_irv ha.sem⟩
/-! ### targets -/
theorem g_name {i : Nat} {x : Str} (hN : X.N.Nodup) (hi : X.N[i]? = some x) (hx : Loc X.env.scope x) (hf : X.fn x = true ∨ X.env.scope.names.lookup x = some .local := by first | exact .inl rfl | exact .inr rfl | assumption) : GX X (.Name x pos) [i] (gName i) (gtName i) := ⟨pg_name hN hi hx hf, semtg_name⟩
theorem gs_nil : GsX X [] [] gNil gtNil := ⟨pgs_nil, semtgs_nil⟩
theorem gs_cons {ix jx : List Nat} {h : TG} {hs : TGs} {tg : D → Sx → Option Sx} {tgs : List D → Sx → Option Sx} (ha : GX X e ix h tg) (hb : GsX X es jx hs tgs) (hst : (assignEach (e :: es) X.env).map (·.2) = assign e X.env :: (assignEach es X.env).map (·.2) := by rfl) :
    GsX X (e :: es) (ix ++ jx) (gCons h hs) (gtCons tg tgs) := ⟨pgs_cons ha.pg hb.pg hst, semtgs_cons ha.sem hb.sem⟩
theorem g_tup {ix : List Nat} {hs : TGs} {tgs : List D → Sx → Option Sx} {k n : Nat} (hc : X.calm = true) (h : GsX X es ix hs tgs) (hn : (assignEach es X.env).length = n := by rfl) (hst : (assignEach es X.env).findIdx? (·.1) = none := by rfl) :
    GX X (.Tuple es k pos) ix (gAnyTup X.K n hs) (gtTup n tgs) := ⟨pg_any hc h.pg hn hst, semtg_tup h.sem⟩
theorem ls_nil : LsX X [] gNil gtNil := ⟨pgs_nil, semtl_nil⟩
theorem ls_name {i : Nat} {x : Str} {hs : TGs} {tgs : List D → Sx → Option Sx} (hN : X.N.Nodup) (hi : X.N[i]? = some x) (hx : Loc X.env.scope x) (hb : LsX X es hs tgs) (hf : X.fn x = true ∨ X.env.scope.names.lookup x = some .local := by first | exact .inl rfl | exact .inr rfl | assumption)
    (hst : (assignEach (.Name x pos :: es) X.env).map (·.2) = assign (.Name x pos) X.env :: (assignEach es X.env).map (·.2) := by rfl) : LsX X (.Name x pos :: es) (gCons (gName i) hs) (gtCons (gtName i) tgs) := ⟨pgs_cons (pg_name hN hi hx hf) hb.pg hst, semtl_name hb.sem⟩
theorem ls_sub {hs : TGs} {tgs : List D → Sx → Option Sx} (ha : EX X a ta fa) (hi : EX X b tb fb) (hb : LsX X es hs tgs)
    (hx : ∀ v, assign (.Subscript a b pos) X.env v = (do
      let ov ← eval a X.env |> holding [v]
      let iv ← holding [v, ov] (eval b X.env)
      standAt pos
      holding [v, ov, iv] (setItem ov iv v)
      release [v, ov, iv] []) := by intro _; rfl)
    (hst : (assignEach (.Subscript a b pos :: es) X.env).map (·.2) = assign (.Subscript a b pos) X.env :: (assignEach es X.env).map (·.2) := by rfl) : LsX X (.Subscript a b pos :: es) (gCons (gSub ta tb rSetL) hs) (gtCons (gtSub fa fb) tgs) := ⟨pgs_cons (pg_sub ha.pe hi.pe set_list hx) hb.pg hst, semtl_sub ha.sem hi.sem hb.sem⟩
/-! ### comprehensions -/
theorem n_lc {elt tg iter : Expr} {ifs : List Expr} {scope : Scope} {own : List (Str × Nat)} {ix : List Nat} {wi : TI} {h : TG} {tt : TT} {te : TE} {h1 : Shared → Hp → Addr → List (Str × Addr) → List Addr → TG} {t1 : Shared → Hp → Addr → List (Str × Addr) → List Addr → TT} {e1 : Shared → Hp → Addr → List (Str × Addr) → List Addr → TE} {it : Mx (List D)} {gt : D → Sx → Option Sx} {ct : Mx Bool} {fe : Mx D} (hc : X.calm = true) (hN : X.N.Nodup) (hi : IX X tg iter wi it) (ok : BlkOk X.N X.env.scope scope own)
    (hix : ∀ i ∈ ix, i ∈ own.map (·.2))
    (hg : ∀ (s : Shared) (H : Hp) (C : Addr) (cl : List (Str × Addr)) (fp : List Addr), GX (X.blk s H scope (compEnvC scope cl C X.env) fp) tg ix (h1 s H C cl fp) gt)
    (ht : ∀ (s : Shared) (H : Hp) (C : Addr) (cl : List (Str × Addr)) (fp : List Addr), PTs (X.blk s H scope (compEnvC scope cl C X.env) fp) ifs (t1 s H C cl fp) ∧ SemT X.K (t1 s H C cl fp) ct)
    (he : ∀ (s : Shared) (H : Hp) (C : Addr) (cl : List (Str × Addr)) (fp : List Addr), EX (X.blk s H scope (compEnvC scope cl C X.env) fp) elt (e1 s H C cl fp) fe) (hh1 : ∀ (s : Shared) (H : Hp) (C : Addr) (cl : List (Str × Addr)) (fp : List Addr), h1 s H C cl fp = h := by intro _ _ _ _ _; first | rfl | (dsimp only [Cx.blk] <;> rfl)) (ht1 : ∀ (s : Shared) (H : Hp) (C : Addr) (cl : List (Str × Addr)) (fp : List Addr), t1 s H C cl fp = tt := by intro _ _ _ _ _; first | rfl | (dsimp only [Cx.blk] <;> rfl)) (he1 : ∀ (s : Shared) (H : Hp) (C : Addr) (cl : List (Str × Addr)) (fp : List Addr), e1 s H C cl fp = te := by intro _ _ _ _ _; first | rfl | (dsimp only [Cx.blk] <;> rfl)) (hs : ∀ x, foldedSetIterable iter X.env x = pure x := by intro _; rfl) :
    NX X (.ListComp elt [⟨tg, iter, ifs, 0⟩] scope pos) (tLc wi h tt te (own.map (·.2))) (nLC (own.map (·.2)) it gt ct fe) := by
  obtain rfl : h1 = fun _ _ _ _ _ => h := by funext s H C cl fp; exact hh1 s H C cl fp
  obtain rfl : t1 = fun _ _ _ _ _ => tt := by funext s H C cl fp; exact ht1 s H C cl fp
  obtain rfl : e1 = fun _ _ _ _ _ => te := by funext s H C cl fp; exact he1 s H C cl fp
  refine ⟨pe_lc hc hN hi.pi ok (fun s H C cl fp => (hg s H C cl fp).pg) (fun s H C cl fp => (ht s H C cl fp).1) (fun s H C cl fp => (he s H C cl fp).pe) hs, ?_⟩
  have s0 : Shared := X.s_0
  exact sem_lc hix hi.sem (hg s0 (fun _ => none) 0 [] []).sem (ht s0 (fun _ => none) 0 [] []).2 (he s0 (fun _ => none) 0 [] []).sem
theorem ts_nil : PTs X [] tYes ∧ SemT X.K tYes cYes := ⟨pts_nil, sem_yes⟩
theorem ts_one {t : TT} {fcc : Mx Bool} (h : TX X c t fcc) : PTs X [c] t ∧ SemT X.K t fcc := ⟨pts_one h.pt, h.sem⟩
/-! ### statements -/
theorem b_nil : BX X [] tNext sNext := ⟨pss_nil, sem_next⟩
theorem b_one {st : Stmt} {t : TS} {f : Mx Fl} (h : SX X st t f) : BX X [st] t f := ⟨pss_one h.ps, h.sem⟩
theorem b_cons {st : Stmt} {rest : List Stmt} {t u : TS} {f g : Mx Fl} (h : SX X st t f) (h2 : BX X rest u g) : BX X (st :: rest) (tSeq t u) (sSeq f g) := ⟨pss_cons h.ps h2.ps, sem_seq h.sem h2.sem⟩
theorem s_pass : SX X (.Pass pos) tNext sNext := ⟨ps_pass, sem_next⟩
theorem s_break : SX X (.Break pos) tBreak sBreak := ⟨ps_break, sem_break⟩
theorem s_cont : SX X (.Continue pos) tCont sCont := ⟨ps_continue, sem_cont⟩
theorem s_expr (h : EX X e te fe) (hs : swapsWith e none pos.line X.env = pure false := by rfl) : SX X (.Expr e pos) (tDrop te) (sExpr fe) := ⟨ps_expr h.pe hs, sem_expr h.sem⟩
theorem s_ret (h : EX X e te fe) : SX X (.Return (some e) pos) (tRet te) (sRet fe) := ⟨ps_ret h.pe, sem_ret h.sem⟩
theorem s_retN : SX X (.Return none pos) tRetN sRetN := ⟨ps_retN, sem_retN⟩
theorem s_if {t : TT} {fcc : Mx Bool} {st st2 : List Stmt} {u1 u2 : TS} {f g : Mx Fl} (h : TX X c t fcc) (h1 : BX X st u1 f) (h2 : BX X st2 u2 g) : SX X (.If c st st2 pos) (tIfS t u1 u2) (sIf fcc f g) := ⟨ps_if h.pt h1.ps h2.ps, sem_sif h.sem h1.sem h2.sem⟩
theorem s_set {i : Nat} {x : Str} {pos' : Pos} (hN : X.N.Nodup) (hi : X.N[i]? = some x) (hx : Loc X.env.scope x) (h : EX X e te fe) (hs : swapsWith e (some (.Name x pos')) pos.line X.env = pure false := by rfl)
    (hf : X.fn x = true ∨ X.env.scope.names.lookup x = some .local := by first | exact .inl rfl | exact .inr rfl | assumption) : SX X (.Assign [.Name x pos'] e pos) (tAsg te (gName i)) (sAsg fe (gtName i)) := ⟨ps_set hN hi hx h.pe hs hf, sem_asg h.sem semtg_name⟩
theorem s_new {i : Nat} {x : Str} {pos' : Pos} {f : Mx (List D)} (hN : X.N.Nodup) (hi : X.N[i]? = some x) (hx : Loc X.env.scope x) (h : NX X e te f) (hs : swapsWith e (some (.Name x pos')) pos.line X.env = pure false := by rfl)
    (hf : X.fn x = true ∨ X.env.scope.names.lookup x = some .local := by first | exact .inl rfl | exact .inr rfl | assumption) : SX X (.Assign [.Name x pos'] e pos) (tAsg te (gName i)) (sNew i f) := ⟨ps_set hN hi hx h.pe hs hf, sem_new h.sem⟩
theorem s_asg {tg : Expr} {ix : List Nat} {h : TG} {gt : D → Sx → Option Sx} (he : EX X e te fe) (hg : GX X tg ix h gt) (hs : swapsWithSole [tg] e pos.line X.env = pure false := by rfl) (hw : swappedStores [tg] e X.env = pure none := by rfl)
    (h1 : (assignEach [tg] X.env).map (·.2) = [assign tg X.env] := by rfl) : SX X (.Assign [tg] e pos) (tAsg te h) (sAsg fe gt) := ⟨ps_asg he.pe hg.pg hs hw h1, sem_asg he.sem hg.sem⟩
theorem s_asgL {k n : Nat} {hs : TGs} {gt : List D → Sx → Option Sx} (hc : X.calm = true) (he : EX X e te fe) (hg : LsX X es hs gt) (hn : (assignEach es X.env).length = n := by rfl) (hst : (assignEach es X.env).findIdx? (·.1) = none := by rfl)
    (hsw : swapsWithSole [.Tuple es k tpos] e pos.line X.env = pure false := by rfl) (hw : swappedStores [.Tuple es k tpos] e X.env = pure none := by rfl) (h1 : (assignEach [.Tuple es k tpos] X.env).map (·.2) = [assign (.Tuple es k tpos) X.env] := by rfl) :
    SX X (.Assign [.Tuple es k tpos] e pos) (tAsg te (gAnyTup X.K n hs)) (sAsgL fe n gt) := ⟨ps_asg he.pe (pg_any hc hg.pg hn hst) hsw hw h1, sem_asgL he.sem hg.sem⟩
theorem s_put (hv : EX X e te fe) (ho : EX X a ta fa) (hi : EX X b tb fb)
    (hx : ∀ v, assign (.Subscript a b tpos) X.env v = (do
      let ov ← eval a X.env |> holding [v]
      let iv ← holding [v, ov] (eval b X.env)
      standAt tpos
      holding [v, ov, iv] (setItem ov iv v)
      release [v, ov, iv] []) := by intro _; rfl)
    (hs : swapsWithSole [.Subscript a b tpos] e pos.line X.env = pure false := by rfl) (hw : swappedStores [.Subscript a b tpos] e X.env = pure none := by rfl)
    (h1 : (assignEach [.Subscript a b tpos] X.env).map (·.2) = [assign (.Subscript a b tpos) X.env] := by rfl) : SX X (.Assign [.Subscript a b tpos] e pos) (tAsg te (gSub ta tb rSetL)) (sSet fe fa fb) := ⟨ps_asg hv.pe (pg_sub ho.pe hi.pe set_list hx) hs hw h1, sem_set hv.sem ho.sem hi.sem⟩
theorem s_lcSet {i : Nat} {y : Str} {py spos : Pos} {elt tg iter : Expr} {ifs : List Expr} {scope : Scope} {own : List (Str × Nat)} {ix : List Nat} {wi : TI} {h : TG} {tt : TT} {te : TE} {h1 : Shared → Hp → Addr → List (Str × Addr) → List Addr → TG} {t1 : Shared → Hp → Addr → List (Str × Addr) → List Addr → TT} {e1 : Shared → Hp → Addr → List (Str × Addr) → List Addr → TE} {it : Mx (List D)} {gt : D → Sx → Option Sx} {ct : Mx Bool} {fe : Mx D} (hc : X.calm = true) (hN : X.N.Nodup)
    (hy : X.N[i]? = some y) (hyl : X.env.scope.names.lookup y = some .local) (hsw : swapsWith (.ListComp elt [⟨tg, iter, ifs, 0⟩] scope pos) (some (.Name y py)) spos.line X.env = pure true) (hi : IX X tg iter wi it) (ok : BlkOk X.N X.env.scope scope own) (hix : ∀ i ∈ ix, i ∈ own.map (·.2))
    (hg : ∀ (s : Shared) (H : Hp) (C : Addr) (cl : List (Str × Addr)) (fp : List Addr), GX (X.blk s H scope (compEnvC scope cl C X.env) fp) tg ix (h1 s H C cl fp) gt)
    (ht : ∀ (s : Shared) (H : Hp) (C : Addr) (cl : List (Str × Addr)) (fp : List Addr), PTs (X.blk s H scope (compEnvC scope cl C X.env) fp) ifs (t1 s H C cl fp) ∧ SemT X.K (t1 s H C cl fp) ct)
    (he : ∀ (s : Shared) (H : Hp) (C : Addr) (cl : List (Str × Addr)) (fp : List Addr), EX (X.blk s H scope (compEnvC scope cl C X.env) fp) elt (e1 s H C cl fp) fe) (hh1 : ∀ (s : Shared) (H : Hp) (C : Addr) (cl : List (Str × Addr)) (fp : List Addr), h1 s H C cl fp = h := by intro _ _ _ _ _; first | rfl | (dsimp only [Cx.blk] <;> rfl)) (ht1 : ∀ (s : Shared) (H : Hp) (C : Addr) (cl : List (Str × Addr)) (fp : List Addr), t1 s H C cl fp = tt := by intro _ _ _ _ _; first | rfl | (dsimp only [Cx.blk] <;> rfl)) (he1 : ∀ (s : Shared) (H : Hp) (C : Addr) (cl : List (Str × Addr)) (fp : List Addr), e1 s H C cl fp = te := by intro _ _ _ _ _; first | rfl | (dsimp only [Cx.blk] <;> rfl)) (hs : ∀ x, foldedSetIterable iter X.env x = pure x := by intro _; rfl) :
    SX X (.Assign [.Name y py] (.ListComp elt [⟨tg, iter, ifs, 0⟩] scope pos) spos) (tAsg (tLc wi h tt te (own.map (·.2))) (gName i)) (sAsg (eLst (nLC (own.map (·.2)) it gt ct fe)) (gtName i)) := by
  obtain rfl : h1 = fun _ _ _ _ _ => h := by funext s H C cl fp; exact hh1 s H C cl fp
  obtain rfl : t1 = fun _ _ _ _ _ => tt := by funext s H C cl fp; exact ht1 s H C cl fp
  obtain rfl : e1 = fun _ _ _ _ _ => te := by funext s H C cl fp; exact he1 s H C cl fp
  have N := n_lc (pos := pos) hc hN hi ok hix hg ht he (fun _ _ _ _ _ => rfl) (fun _ _ _ _ _ => rfl) (fun _ _ _ _ _ => rfl) hs
  exact ⟨ps_setLc hc hN hy hyl hsw hi.pi ok (fun s H C cl fp => (hg s H C cl fp).pg) (fun s H C cl fp => (ht s H C cl fp).1) (fun s H C cl fp => (he s H C cl fp).pe) hs, sem_asg (sem_eLst N.sem) semtg_name⟩
theorem s_lcNew {i : Nat} {y : Str} {py spos : Pos} {elt tg iter : Expr} {ifs : List Expr} {scope : Scope} {own : List (Str × Nat)} {ix : List Nat} {wi : TI} {h : TG} {tt : TT} {te : TE} {h1 : Shared → Hp → Addr → List (Str × Addr) → List Addr → TG} {t1 : Shared → Hp → Addr → List (Str × Addr) → List Addr → TT} {e1 : Shared → Hp → Addr → List (Str × Addr) → List Addr → TE} {it : Mx (List D)} {gt : D → Sx → Option Sx} {ct : Mx Bool} {fe : Mx D} (hc : X.calm = true) (hN : X.N.Nodup)
    (hy : X.N[i]? = some y) (hyl : X.env.scope.names.lookup y = some .local) (hsw : swapsWith (.ListComp elt [⟨tg, iter, ifs, 0⟩] scope pos) (some (.Name y py)) spos.line X.env = pure true) (hi : IX X tg iter wi it) (ok : BlkOk X.N X.env.scope scope own) (hix : ∀ i ∈ ix, i ∈ own.map (·.2))
    (hg : ∀ (s : Shared) (H : Hp) (C : Addr) (cl : List (Str × Addr)) (fp : List Addr), GX (X.blk s H scope (compEnvC scope cl C X.env) fp) tg ix (h1 s H C cl fp) gt)
    (ht : ∀ (s : Shared) (H : Hp) (C : Addr) (cl : List (Str × Addr)) (fp : List Addr), PTs (X.blk s H scope (compEnvC scope cl C X.env) fp) ifs (t1 s H C cl fp) ∧ SemT X.K (t1 s H C cl fp) ct)
    (he : ∀ (s : Shared) (H : Hp) (C : Addr) (cl : List (Str × Addr)) (fp : List Addr), EX (X.blk s H scope (compEnvC scope cl C X.env) fp) elt (e1 s H C cl fp) fe) (hh1 : ∀ (s : Shared) (H : Hp) (C : Addr) (cl : List (Str × Addr)) (fp : List Addr), h1 s H C cl fp = h := by intro _ _ _ _ _; first | rfl | (dsimp only [Cx.blk] <;> rfl)) (ht1 : ∀ (s : Shared) (H : Hp) (C : Addr) (cl : List (Str × Addr)) (fp : List Addr), t1 s H C cl fp = tt := by intro _ _ _ _ _; first | rfl | (dsimp only [Cx.blk] <;> rfl)) (he1 : ∀ (s : Shared) (H : Hp) (C : Addr) (cl : List (Str × Addr)) (fp : List Addr), e1 s H C cl fp = te := by intro _ _ _ _ _; first | rfl | (dsimp only [Cx.blk] <;> rfl)) (hs : ∀ x, foldedSetIterable iter X.env x = pure x := by intro _; rfl) :
    SX X (.Assign [.Name y py] (.ListComp elt [⟨tg, iter, ifs, 0⟩] scope pos) spos) (tAsg (tLc wi h tt te (own.map (·.2))) (gName i)) (sNew i (nLC (own.map (·.2)) it gt ct fe)) := by
  obtain rfl : h1 = fun _ _ _ _ _ => h := by funext s H C cl fp; exact hh1 s H C cl fp
  obtain rfl : t1 = fun _ _ _ _ _ => tt := by funext s H C cl fp; exact ht1 s H C cl fp
  obtain rfl : e1 = fun _ _ _ _ _ => te := by funext s H C cl fp; exact he1 s H C cl fp
  have N := n_lc (pos := pos) hc hN hi ok hix hg ht he (fun _ _ _ _ _ => rfl) (fun _ _ _ _ _ => rfl) (fun _ _ _ _ _ => rfl) hs
  exact ⟨ps_setLc hc hN hy hyl hsw hi.pi ok (fun s H C cl fp => (hg s H C cl fp).pg) (fun s H C cl fp => (ht s H C cl fp).1) (fun s H C cl fp => (he s H C cl fp).pe) hs, sem_new N.sem⟩
theorem p_val (h : EX X e te fe) : PX X e te (pVal fe) := ⟨h.pe, sem_pval h.sem⟩
theorem p_new {f : Mx (List D)} (h : NX X e te f) : PX X e te (pNew f) := ⟨h.pe, sem_pnew h.sem⟩
theorem s_par2 {i j : Nat} {x y : Str} {px py pt : Pos} {kt k2 : Nat} {pt2 : Pos} {f1 f2 : Mx Sl} (hc : X.calm = true) (hN : X.N.Nodup) (hi : X.N[i]? = some x) (hj : X.N[j]? = some y) (hij : i ≠ j)
    (hx : X.env.scope.names.lookup x = some .local) (hy : X.env.scope.names.lookup y = some .local) (ha : PX X a ta f1) (hb : PX X b tb f2)
    (hw : swappedStores [.Tuple [.Name x px, .Name y py] kt pt] (.Tuple [a, b] k2 pt2) X.env = pure (some [x, y]))
    (hs : swapsWithSole [.Tuple [.Name x px, .Name y py] kt pt] (.Tuple [a, b] k2 pt2) pos.line X.env = pure false := by rfl)
    (s1 : starEach [a, b] X.env = (false, eval a X.env) :: starEach [b] X.env := by rfl) (s2 : starEach [b] X.env = (false, eval b X.env) :: starEach [] X.env := by rfl) :
    SX X (.Assign [.Tuple [.Name x px, .Name y py] kt pt] (.Tuple [a, b] k2 pt2) pos) (tPar i j (tCons ta (tCons tb tNil))) (sPar2 i j f1 f2) := ⟨ps_par hc hN hi hj hij hx hy (pa_cons ha.pe (pa_cons hb.pe pa_nil s2) s1) hw hs, sem_par2 ha.sem hb.sem⟩
theorem s_par2T {i j : Nat} {x y : Str} {px py pt : Pos} {kt k2 : Nat} {pt2 : Pos} {f1 f2 : Mx Sl} (hc : X.calm = true) (hN : X.N.Nodup) (hi : X.N[i]? = some x) (hj : X.N[j]? = some y) (hx : Loc X.env.scope x) (hy : Loc X.env.scope y) (ha : PX X a ta f1) (hb : PX X b tb f2)
    (hw : swappedStores [.Tuple [.Name x px, .Name y py] kt pt] (.Tuple [a, b] k2 pt2) X.env = pure none := by rfl) (hs : swapsWithSole [.Tuple [.Name x px, .Name y py] kt pt] (.Tuple [a, b] k2 pt2) pos.line X.env = pure false := by rfl)
    (h1 : (assignEach [.Tuple [.Name x px, .Name y py] kt pt] X.env).map (·.2) = [assign (.Tuple [.Name x px, .Name y py] kt pt) X.env] := by rfl)
    (hn : (assignEach [.Name x px, .Name y py] X.env).length = 2 := by rfl) (hst : (assignEach [.Name x px, .Name y py] X.env).findIdx? (·.1) = none := by rfl)
    (g1 : (assignEach [.Name x px, .Name y py] X.env).map (·.2) = assign (.Name x px) X.env :: (assignEach [.Name y py] X.env).map (·.2) := by rfl) (g2 : (assignEach [.Name y py] X.env).map (·.2) = assign (.Name y py) X.env :: (assignEach [] X.env).map (·.2) := by rfl)
    (s1 : starEach [a, b] X.env = (false, eval a X.env) :: starEach [b] X.env := by rfl) (s2 : starEach [b] X.env = (false, eval b X.env) :: starEach [] X.env := by rfl)
    (hf : X.fn x = true ∨ X.env.scope.names.lookup x = some .local := by first | exact .inl rfl | exact .inr rfl | assumption) (hf2 : X.fn y = true ∨ X.env.scope.names.lookup y = some .local := by first | exact .inl rfl | exact .inr rfl | assumption) :
    SX X (.Assign [.Tuple [.Name x px, .Name y py] kt pt] (.Tuple [a, b] k2 pt2) pos) (tAsg (tTup (tCons ta (tCons tb tNil))) (gTup X.K 2 (gCons (gName i) (gCons (gName j) gNil)))) (sPar2 i j f1 f2) :=
  ⟨ps_asg (pe_tup (pa_cons ha.pe (pa_cons hb.pe pa_nil s2) s1)) (pg_tup hc (pgs_cons (pg_name hN hi hx hf) (pgs_cons (pg_name hN hj hy hf2) pgs_nil g2) g1) hn hst) hs hw h1, sem_par2T ha.sem hb.sem⟩
theorem s_par3 {i j l : Nat} {x y z : Str} {px py pz pt : Pos} {kt k2 : Nat} {pt2 : Pos} {f1 f2 f3 : Mx Sl} (hc : X.calm = true) (hN : X.N.Nodup) (hi : X.N[i]? = some x) (hj : X.N[j]? = some y) (hl : X.N[l]? = some z) (hij : i ≠ j) (hil : i ≠ l) (hjl : j ≠ l)
    (hx : X.env.scope.names.lookup x = some .local) (hy : X.env.scope.names.lookup y = some .local) (hz : X.env.scope.names.lookup z = some .local) (ha : PX X a ta f1) (hb : PX X b tb f2) (hcc : PX X c tc f3)
    (hw : swappedStores [.Tuple [.Name x px, .Name y py, .Name z pz] kt pt] (.Tuple [a, b, c] k2 pt2) X.env = pure (some [x, y, z]))
    (hs : swapsWithSole [.Tuple [.Name x px, .Name y py, .Name z pz] kt pt] (.Tuple [a, b, c] k2 pt2) pos.line X.env = pure false := by rfl)
    (s1 : starEach [a, b, c] X.env = (false, eval a X.env) :: starEach [b, c] X.env := by rfl) (s2 : starEach [b, c] X.env = (false, eval b X.env) :: starEach [c] X.env := by rfl) (s3 : starEach [c] X.env = (false, eval c X.env) :: starEach [] X.env := by rfl) :
    SX X (.Assign [.Tuple [.Name x px, .Name y py, .Name z pz] kt pt] (.Tuple [a, b, c] k2 pt2) pos) (tPar3 i j l (tCons ta (tCons tb (tCons tc tNil)))) (sPar3 i j l f1 f2 f3) :=
  ⟨ps_par3 hc hN hi hj hl hij hil hjl hx hy hz (pa_cons ha.pe (pa_cons hb.pe (pa_cons hcc.pe pa_nil s3) s2) s1) hw hs, sem_par3 ha.sem hb.sem hcc.sem⟩
theorem s_augI {i : Nat} {x : Str} {pos' : Pos} (hN : X.N.Nodup) (hi : X.N[i]? = some x) (hx : Loc X.env.scope x) (h : EX X e te fe) (hf : X.fn x = true ∨ X.env.scope.names.lookup x = some .local := by first | exact .inl rfl | exact .inr rfl | assumption) :
    SX X (.AugAssign (.Name x pos') .Add e pos) (tAug i te (ipI fun i j => i + j)) (sAug i fe (iop fun i j => i + j)) := ⟨ps_aug hN hi hx h.pe ip_add hf, sem_aug h.sem ipd_add⟩
theorem s_for {tg iter : Expr} {body : List Stmt} {ix : List Nat} {wi : TI} {h : TG} {tb : TS} {it : Mx (List D)} {gt : D → Sx → Option Sx} {fb : Mx Fl} (hp : PassesOwn (model X.prog X.w) X.A X.env X.xe) (hc : X.calm = true) (hi : IX X tg iter wi it) (hg : GX X tg ix h gt) (hb : BX X body tb fb)
    (hs : ∀ x, foldedSetIterable iter X.env x = pure x := by intro _; rfl) : SX X (.For tg iter body [] pos) (tFor wi h tb) (sFor it gt fb) := ⟨ps_for hp hc hi.pi hg.pg hb.ps hs, sem_for hi.sem hg.sem hb.sem⟩
theorem s_while {body : List Stmt} {t : TT} {tb : TS} {fcc : Mx Bool} {fb : Mx Fl} (fuel : Sx → Nat) (hp : PassesOwn (model X.prog X.w) X.A X.env X.xe) (h : TX X c t fcc) (hb : BX X body tb fb) : SX X (.While c body [] pos) (tWhile t tb) (sWhile fuel fcc fb) := ⟨ps_while hp h.pt hb.ps, sem_while h.sem hb.sem⟩
end
theorem i_zip {X : Cx} {pos p tpos : Pos} {a b : Expr} {ta tb : TE} {fa fb : Mx D} {elts : List Expr} {kk : Nat} (hg : Gl X "zip") (hm : X.mg "zip" = none) (ha : EX X a ta fa) (hb : EX X b tb fb) (s1 : starEach [a, b] X.env = (false, eval a X.env) :: starEach [b] X.env := by rfl)
    (s2 : starEach [b] X.env = (false, eval b X.env) :: starEach [] X.env := by rfl) (hpl : (backTo pos (starEach [b] X.env)).any (·.1) = false := by rfl) :
    IX X (.Tuple elts kk tpos) (.Call (.Name "zip" p) [a, b] [] pos) (RZ.iZipA X.K (tCons ta (tCons tb tNil))) (iZip2 fa fb) := ⟨RZ.pi_zipA hg hm (pa_cons ha.pe (pa_cons hb.pe pa_nil s2) s1) s1 hpl, sem_izip ha.sem hb.sem⟩
theorem bx_ex {X : Cx} {st : List Stmt} {t : TS} {f : Mx Fl} (h : BX X st t f) : ∃ t, BX X st t f := ⟨t, h⟩
/-- a def of the program as the top has left it -/
structure DefX (K : PySem.W.Frag) (mg : Str → Option Value) (x : Str) (st : Stmt) (ps : List Str) (f : Addr) (fd : FuncData) : Prop where
  fu : Fun K x x st f fd
  at_ : mg x = some (.ref f)
  bi : Binds K fd ps []
  bt : ∀ (s : Shared) (us : List Value), us.length = ps.length → BindsTo s fd ⟨us, []⟩ (ps.zip us)
structure DefC (K : PySem.W.Frag) (mg : Str → Option Value) (x : Str) (st : Stmt) (ps : List Str) : Prop where
  ex : ∃ (f : Addr) (fd : FuncData), DefX K mg x st ps f fd
/-- a def that can be called: what it does with data -/
structure CalX (P : Program) (w : World) (K : PySem.W.Frag) (mg : Str → Option Value) (base : Heap) (x : Str) (ps : List Str) (np j : Nat) (F : Fn) (f : Addr) (fd : FuncData) : Prop where
  fn : FnOk P w K mg base CX0 j f fd ps (spF K np F)
  at_ : mg x = some (.ref f)
  kp : PySem.W.keepIn K (.ref f) = true
  bi : Binds K fd ps []
structure CalC (P : Program) (w : World) (K : PySem.W.Frag) (mg : Str → Option Value) (base : Heap) (x : Str) (ps : List Str) (np j : Nat) (F : Fn) : Prop where
  ex : ∃ (f : Addr) (fd : FuncData), CalX P w K mg base x ps np j F f fd
theorem DefX.ok {K : PySem.W.Frag} {P : Program} {w : World} {mg : Str → Option Value} {base : Heap} {x : Str} {st : Stmt} {N ps : List Str} {k n np : Nat} {body : Mx Fl} {f : Addr} {fd : FuncData} (D : DefX K mg x st ps f fd) (S : FnScope N ps (defScope st)) (hn : N.length = n) (hp : ps.length = np) (hnp : np ≤ n)
    (h : ∀ (f : Addr) (cdv : Value) (A : Around) (outer : List Env) (s : Shared) (H : Hp) (E : XK), Room k (A.deeper (envOfC x (defScope st) s.heap.objs.size f cdv)) →
      ∃ t, BX (cxOf CX0 P w K mg base N x (defScope st) f cdv A outer s H E).nox (defBody st) t body) : CalX P w K mg base x ps np (k + 1) (fnF n body) f fd := by
  refine ⟨Fun.okD D.fu S hn hp hnp fun cdv A outer s H E hr => ?_, D.at_, D.fu.kp, D.bi⟩
  obtain ⟨t, b⟩ := h f cdv A outer s H E hr
  exact ⟨t, b.ps, b.sem⟩
theorem DefC.ok {K : PySem.W.Frag} {P : Program} {w : World} {mg : Str → Option Value} {base : Heap} {x : Str} {st : Stmt} {N ps : List Str} {k n np : Nat} {body : Mx Fl} (D : DefC K mg x st ps) (S : FnScope N ps (defScope st)) (hn : N.length = n) (hp : ps.length = np) (hnp : np ≤ n)
    (h : ∀ (f : Addr) (cdv : Value) (A : Around) (outer : List Env) (s : Shared) (H : Hp) (E : XK), Room k (A.deeper (envOfC x (defScope st) s.heap.objs.size f cdv)) →
      ∃ t, BX (cxOf CX0 P w K mg base N x (defScope st) f cdv A outer s H E).nox (defBody st) t body) : CalC P w K mg base x ps np (k + 1) (fnF n body) := by
  obtain ⟨f, fd, D⟩ := D.ex
  exact ⟨f, fd, D.ok S hn hp hnp h⟩
theorem x_calC {X : Cx} {pos p : Pos} {e : Expr} {es : List Expr} {t : TA} {f : Mx (List D)} {np k j : Nat} {F : Fn} {x : Str} {ps : List Str} (C : CalC X.prog X.w X.K X.mg X.base x ps np j F) (hr : Room k X.A) (hjk : j ≤ k) (hg : Gl X x) (ha : AX X (e :: es) t f)
    (hl : ∀ S ds S', f S = some (ds, S') → ds.length = np) (hdb : (x == ("__debug__" : Str)) = false := by decide) (he : starEach (e :: es) X.env = (false, eval e X.env) :: starEach es X.env := by rfl) (hpl : (backTo pos (starEach es X.env)).any (·.1) = false := by rfl) :
    EX X (.Call (.Name x p) (e :: es) [] pos) (tCall (spF X.K np F) [] E0 t) (eCall F f) := by
  obtain ⟨fa, fd, C⟩ := C.ex
  exact x_call C.fn hr hjk hg C.at_ C.kp C.bi ha hl hdb he hpl
end Ms
set_option Elab.async false
set_option maxRecDepth 100000
namespace Ms
open PySem PySem.Spec PyProof.Rows L2
set_option autoImplicit false
/-! the law's own end -/
theorem defC_mk {K : PySem.W.Frag} {h : Heap} {mg : Str → Option Value} {x : Str} {st : Stmt} {ps : List Str} {f : Addr} {oc : Value} {od an : Option Addr} {osl : Array (Option Value)} {kV doc pm cdv ct : Value} (X : K.In h) (G : h.Ns mainGlobals mg)
    (a : PySem.W.nsIn K mainGlobals x = some (some (.ref f))) (l : K.lookup f = some ⟨oc, od, .func (PySem.W.fnOf x x (defArgs st) (defBody st) (defScope st) .none kV doc pm an cdv ct), osl⟩) (c : PySem.W.codeIn K cdv x = true) (k : PySem.W.keepIn K (.ref f) = true)
    (hb : ∀ (kV doc pm : Value) (an : Option Addr) (cdv ct : Value) (us : List Value), us.length = ps.length → bindArgs (PySem.W.fnOf x x (defArgs st) (defBody st) (defScope st) .none kV doc pm an cdv ct) ⟨us, []⟩ = pure (ps.zip us)) : DefC K mg x st ps :=
  ⟨f, _, fun_mk l c k, PySem.W.mg_of X G a, (fun_mk (st := st) l c k).binds hb, fun _ us hl => .of_eq (hb kV doc pm an cdv ct us hl)⟩
def P0 (H : Hp) : Ph := ⟨H, [], H, fun a => ∃ (k : Nat) (l : List D), ([] : List Addr)[k]? = some a ∧ ([] : List Wo)[k]? = some (.lst l)⟩
theorem p0_no {H : Hp} {a : Addr} (h : (P0 H).m0 a) : False := by
  obtain ⟨k, l, h1, h2⟩ := h
  cases h1
theorem p0_mut {H : Hp} {a : Addr} (h : MutW (P0 H) [] a) : False := by
  obtain ⟨k, l, h1, h2⟩ := h
  cases h1
theorem p0_rep {K : PySem.W.Frag} {H : Hp} : RepW K (P0 H) [] H where
  same := Same.refl _
  len := rfl
  wo := fun k a o h _ => by cases h
  dis := fun j k a l l' h _ _ _ => by cases h
  nhb := fun a h => (p0_mut h).elim
  frame := fun a o h _ => h
  live := fun a h => (p0_no h).elim
  wfree := fun a h => (p0_mut h).elim
theorem ints_rep {K : PySem.W.Frag} {P : Ph} : ∀ ns : List Int, RepL K P (ns.map V.int) (ns.map D.int)
  | [] => .nil
  | n :: ns => .cons (.int n) (ints_rep ns)
/-- the law at the top: only what it computes with data is left -/
theorem walk_ms {l : PySem.W.OpenLaw} {q : Program} {loose : List Str} {XP : (Str → Option Value) → Heap → Prop} {YP : World → Heap → Prop} {d : DefRec} {K : Params → PySem.W.Frag} {x : Str} {F : Fn} {j : Nat}
    (hn : l.most = some 63) (hdf : d.params.defaults = []) (hr : Room j callerA) (hY : ∀ (w : World) (h : Heap), YP w h → (K w.params).In h)
    (hC : ∀ (w : World) (mg : Str → Option Value) (h : Heap), (K w.params).In h → h.Ns mainGlobals mg → ∃ (st : Stmt) (f : Addr) (fd : FuncData), DefX (K w.params) mg d.name st [x] f fd ∧ ∀ base : Heap, (K w.params).In base → base.Ns mainGlobals mg → CalX l.prog w (K w.params) mg base d.name [x] 1 j F f fd)
    (hF : ∀ ns : List Int, ns.length ≤ 63 → ∃ W', F [.rd (ns.map .int)] [] = some (.bl true, W')) :
    PySem.W.WalkO q loose XP YP l.row.toRowW d [] (fun f vs => PySem.call f vs) := by
  refine L2.walk_of (n := 63) (k := j) (x := x) (CX := fun _ => CX0) (sp := fun w => spF (K w.params) 1 F) hn (by decide) hdf hr hY ?_ ?_ fun _ _ _ _ _ z => z
  · intro w mg fa h KX G hmg
    obtain ⟨st, f, fd, D, C⟩ := hC w mg h KX G
    obtain rfl : f = fa := by have e := D.at_; rw [hmg] at e; cases e; rfl
    exact ⟨fd, fun s u => D.bt s [u] rfl, fun base B N => (C base B N).fn⟩
  · intro w H a ns hl hO hS
    obtain ⟨W', e⟩ := hF ns hl
    refine ⟨P0 H, [.rd (ns.map .int)], [], W', .bl true, rfl, rfl, p0_rep, .cons (.rd hS (ints_rep ns)) .nil, rfl, e, fun v H' P' le rw r => ?_⟩
    cases r
    rfl
end Ms
set_option Elab.async false
set_option linter.all false
set_option maxRecDepth 100000
set_option maxHeartbeats 1000000
/-! MsJ: what a run of data-level code comes to (Wp), by the form of the code. -/
namespace Ms
open PySem PySem.Spec PyProof.Rows L2
set_option autoImplicit false

def Wp {α : Type} (f : Mx α) (S : Sx) (Q : α → Sx → Prop) : Prop := ∃ a S', f S = some (a, S') ∧ Q a S'
def Wg (o : Option Sx) (Q : Sx → Prop) : Prop := ∃ S', o = some S' ∧ Q S'
def WpF (F : Fn) (ds : List D) (W : List Wo) (Q : D → List Wo → Prop) : Prop := ∃ d W', F ds W = some (d, W') ∧ Q d W'
noncomputable def wdec (p : Prop) : Bool := @decide p (Classical.propDecidable p)
@[simp] theorem wdec_true {p : Prop} : wdec p = true ↔ p := by unfold wdec; exact @decide_eq_true_iff p (Classical.propDecidable p)
@[simp] theorem wdec_false {p : Prop} : wdec p = false ↔ ¬ p := by unfold wdec; exact @decide_eq_false_iff_not p (Classical.propDecidable p)
@[simp] theorem ex_eq2 {α β : Type} {x : α} {y : β} {Q : α → β → Prop} : (∃ a b, (x = a ∧ y = b) ∧ Q a b) ↔ Q x y := ⟨fun ⟨_, _, ⟨rfl, rfl⟩, q⟩ => q, fun q => ⟨_, _, ⟨rfl, rfl⟩, q⟩⟩
@[simp] theorem wdec_T : wdec True = true := by simp
@[simp] theorem wdec_F : wdec False = false := by simp
theorem ex_if {α β : Type} {c : Prop} [Decidable c] {x : α} {y : β} {Q : α → β → Prop} : (∃ a b, (if c then some (x, y) else none) = some (a, b) ∧ Q a b) ↔ c ∧ Q x y := by
  by_cases h : c
  · rw [if_pos h]; simp [h]
  · rw [if_neg h]; simp [h]
theorem ex_ma {α β γ : Type} {o : Option γ} {f : γ → α} {y : β} {Q : α → β → Prop} : (∃ a b, (match o with | some z => some (f z, y) | none => none) = some (a, b) ∧ Q a b) ↔ ∃ z, o = some z ∧ Q (f z) y := by
  cases o <;> simp
section
variable {α β : Type} {S : Sx} {env : List Sl} {W : List Wo}
theorem Wp.mono {f : Mx α} {Q R : α → Sx → Prop} (h : Wp f S Q) (hQ : ∀ a S', Q a S' → R a S') : Wp f S R := by
  obtain ⟨a, S', e, q⟩ := h
  exact ⟨a, S', e, hQ _ _ q⟩
theorem WpF.mono {F : Fn} {ds : List D} {W : List Wo} {Q R : D → List Wo → Prop} (h : WpF F ds W Q) (hQ : ∀ a S', Q a S' → R a S') : WpF F ds W R := by
  obtain ⟨a, S', e, q⟩ := h
  exact ⟨a, S', e, hQ _ _ q⟩
@[simp] theorem wp_ret {a : α} {Q : α → Sx → Prop} : Wp (mret a) S Q ↔ Q a S := by simp [Wp, mret]
@[simp] theorem wp_bind {f : Mx α} {g : α → Mx β} {Q : β → Sx → Prop} : Wp (mbind f g) S Q ↔ Wp f S fun a S1 => Wp (g a) S1 Q := by
  constructor
  · rintro ⟨b, S2, h, q⟩
    obtain ⟨a, S1, h1, h2⟩ := mbind_some h
    exact ⟨a, S1, h1, b, S2, h2, q⟩
  · rintro ⟨a, S1, h1, b, S2, h2, q⟩
    exact ⟨b, S2, by unfold mbind; rw [h1]; exact h2, q⟩
theorem wp_some {f : Mx α} {a : α} {S' : Sx} {Q : α → Sx → Prop} (h : f S = some (a, S')) : Wp f S Q ↔ Q a S' := by simp [Wp, h]
@[simp] theorem wp_pure {a : α} {S' : Sx} {Q : α → Sx → Prop} : Wp (fun _ => some (a, S')) S Q ↔ Q a S' := by simp [Wp]
@[simp] theorem wp_now {a : α} {Q : α → Sx → Prop} : Wp (fun S => some (a, S)) S Q ↔ Q a S := by simp [Wp]
@[simp] theorem wp_var {i : Nat} {Q : D → Sx → Prop} : Wp (eVar i) S Q ↔ (match S.env[i]? with
  | some (.val d) => Q d S
  | some (.cell _) => Q (.cr i) S
  | _ => False) := by
  unfold Wp eVar
  cases S.env[i]? with
  | none => simp
  | some s => cases s <;> simp
@[simp] theorem wp_frz {i : Nat} {Q : D → Sx → Prop} : Wp (eFrz i) S Q ↔ (match S.env[i]? with
  | some (.val d) => Q d S
  | some (.cell l) => Q (.lst l) { S with env := S.env.set i (.val (.lst l)) }
  | _ => False) := by
  unfold Wp eFrz
  cases S.env[i]? with
  | none => simp
  | some s => cases s <;> simp
@[simp] theorem wp_k {d : D} {Q : D → Sx → Prop} : Wp (eK d) S Q ↔ Q d S := wp_ret
@[simp] theorem wp_e2 {g : D → D → Mx D} {a b : Mx D} {Q : D → Sx → Prop} : Wp (e2 g a b) S Q ↔ Wp a S fun x S1 => Wp b S1 fun y S2 => Wp (g x y) S2 Q := by unfold e2; simp
@[simp] theorem wp_e1 {g : D → Mx D} {a : Mx D} {Q : D → Sx → Prop} : Wp (e1 g a) S Q ↔ Wp a S fun x S1 => Wp (g x) S1 Q := by unfold e1; simp
@[simp] theorem wp_n2 {g : D → D → Mx (List D)} {a b : Mx D} {Q : List D → Sx → Prop} : Wp (n2 g a b) S Q ↔ Wp a S fun x S1 => Wp b S1 fun y S2 => Wp (g x y) S2 Q := by unfold n2; simp
@[simp] theorem wp_n1 {g : D → Mx (List D)} {a : Mx D} {Q : List D → Sx → Prop} : Wp (n1 g a) S Q ↔ Wp a S fun x S1 => Wp (g x) S1 Q := by unfold n1; simp
@[simp] theorem wp_anil {Q : List D → Sx → Prop} : Wp aNil S Q ↔ Q [] S := wp_ret
@[simp] theorem wp_acons {a : Mx D} {as : Mx (List D)} {Q : List D → Sx → Prop} : Wp (aCons a as) S Q ↔ Wp a S fun x S1 => Wp as S1 fun xs S2 => Q (x :: xs) S2 := by unfold aCons; simp
@[simp] theorem wp_eC {g : List D → Mx D} {as : Mx (List D)} {Q : D → Sx → Prop} : Wp (eC g as) S Q ↔ Wp as S fun xs S1 => Wp (g xs) S1 Q := by unfold eC; simp
@[simp] theorem wp_nC {g : List D → Mx (List D)} {as : Mx (List D)} {Q : List D → Sx → Prop} : Wp (nC g as) S Q ↔ Wp as S fun xs S1 => Wp (g xs) S1 Q := by unfold nC; simp
@[simp] theorem wp_tup {ds : List D} {Q : D → Sx → Prop} : Wp (mkTup ds) S Q ↔ (plainL ds = true ∧ ds.length ≤ mostL) ∧ Q (.tup ds) S := by
  unfold Wp mkTup
  by_cases h : plainL ds = true ∧ ds.length ≤ mostL
  · simp [h]
  · rw [if_neg h]; simp [h]
@[simp] theorem wp_nLst {f : Mx (List D)} {Q : List D → Sx → Prop} : Wp (nLst f) S Q ↔ Wp f S fun ds S1 => (plainL ds = true ∧ ds.length ≤ mostL) ∧ Q ds S1 := by
  unfold nLst
  refine wp_bind.trans ?_
  have e : ∀ (ds : List D) (S1 : Sx), Wp (fun S => if plainL ds = true ∧ ds.length ≤ mostL then some (ds, S) else none) S1 Q ↔ (plainL ds = true ∧ ds.length ≤ mostL) ∧ Q ds S1 := fun ds S1 => by
    unfold Wp
    by_cases h : plainL ds = true ∧ ds.length ≤ mostL
    · simp [h]
    · simp [h]
  simp only [e]
@[simp] theorem wp_eLst {f : Mx (List D)} {Q : D → Sx → Prop} : Wp (eLst f) S Q ↔ Wp f S fun ds S1 => Q (.lst ds) S1 := by unfold eLst; simp
@[simp] theorem wp_eOb {f : Mx (List D)} {Q : D → Sx → Prop} : Wp (eOb f) S Q ↔ Wp f S fun ds S1 => Q (.ob S1.w.length) { S1 with w := S1.w ++ [.lst ds] } := by unfold eOb; refine wp_bind.trans ⟨fun h => h.mono fun d S1 q => by simpa [Wp] using q, fun h => h.mono fun d S1 q => by simpa [Wp] using q⟩
@[simp] theorem wp_cVal {f : Mx D} {Q : Bool → Sx → Prop} : Wp (cVal f) S Q ↔ Wp f S fun d S1 => ∃ b, d = .bl b ∧ Q b S1 := by
  unfold cVal
  refine wp_bind.trans ?_
  have e : ∀ (d : D) (S1 : Sx), Wp (fun S => match d with | .bl b => some (b, S) | _ => none) S1 Q ↔ ∃ b, d = .bl b ∧ Q b S1 := fun d S1 => by
    cases d <;> simp [Wp]
  exact ⟨fun h => h.mono fun d S1 q => (e d S1).mp q, fun h => h.mono fun d S1 q => (e d S1).mpr q⟩
theorem wp_ite {k : Bool} {a b : Mx α} {Q : α → Sx → Prop} : Wp (if k = true then a else b) S Q ↔ (k = true → Wp a S Q) ∧ (k = false → Wp b S Q) := by cases k <;> simp
@[simp] theorem wp_cAnd {f g : Mx Bool} {Q : Bool → Sx → Prop} : Wp (cAnd f g) S Q ↔ Wp f S fun k S1 => (k = true → Wp g S1 Q) ∧ (k = false → Q false S1) := by unfold cAnd; simp [wp_ite]
@[simp] theorem wp_cOr {f g : Mx Bool} {Q : Bool → Sx → Prop} : Wp (cOr f g) S Q ↔ Wp f S fun k S1 => (k = true → Q true S1) ∧ (k = false → Wp g S1 Q) := by unfold cOr; simp [wp_ite]
@[simp] theorem wp_cNot {f : Mx Bool} {Q : Bool → Sx → Prop} : Wp (cNot f) S Q ↔ Wp f S fun k S1 => Q (!k) S1 := by unfold cNot; simp
@[simp] theorem wp_eIf {c : Mx Bool} {a b : Mx D} {Q : D → Sx → Prop} : Wp (eIf c a b) S Q ↔ Wp c S fun k S1 => (k = true → Wp a S1 Q) ∧ (k = false → Wp b S1 Q) := by unfold eIf; simp [wp_ite]
@[simp] theorem wp_eAnd {a b : Mx D} {Q : D → Sx → Prop} : Wp (eAnd a b) S Q ↔ Wp (cVal a) S fun k S1 => (k = true → Wp b S1 Q) ∧ (k = false → Q (.bl false) S1) := by unfold eAnd; rw [wp_bind]; simp only [wp_ite, wp_ret]
@[simp] theorem wp_eOr {a b : Mx D} {Q : D → Sx → Prop} : Wp (eOr a b) S Q ↔ Wp (cVal a) S fun k S1 => (k = true → Q (.bl true) S1) ∧ (k = false → Wp b S1 Q) := by unfold eOr; rw [wp_bind]; simp only [wp_ite, wp_ret]
@[simp] theorem wp_eNot {a : Mx D} {Q : D → Sx → Prop} : Wp (eNot a) S Q ↔ Wp (cVal a) S fun k S1 => Q (.bl (!k)) S1 := by unfold eNot; rw [wp_bind]; simp only [wp_ret]
@[simp] theorem wp_cTru {f : Mx D} {Q : Bool → Sx → Prop} : Wp (cTru f) S Q ↔ Wp f S fun d S1 => ∃ b, truD S1 d = some b ∧ Q b S1 := by
  unfold cTru
  refine wp_bind.trans ?_
  have e : ∀ (d : D) (S1 : Sx), Wp (fun S => match truD S d with | some b => some (b, S) | none => none) S1 Q ↔ ∃ b, truD S1 d = some b ∧ Q b S1 := fun d S1 => by
    unfold Wp
    cases h : truD S1 d <;> simp [h]
  exact ⟨fun h => h.mono fun d S1 q => (e d S1).mp q, fun h => h.mono fun d S1 q => (e d S1).mpr q⟩
/-! ### operations on numbers -/
@[simp] theorem wp_iop {g : Int → Int → Int} {i j : Int} {Q : D → Sx → Prop} : Wp (iop g (.int i) (.int j)) S Q ↔ Q (.int (g i j)) S := by simp [Wp, iop]
@[simp] theorem wp_iopC {c : Int → Int → Bool} {g : Int → Int → Int} {i j : Int} {Q : D → Sx → Prop} : Wp (iopC c g (.int i) (.int j)) S Q ↔ c i j = true ∧ Q (.int (g i j)) S := by
  unfold Wp iopC
  exact ex_if
@[simp] theorem wp_icmp {p : Int → Int → Bool} {i j : Int} {Q : D → Sx → Prop} : Wp (icmp p (.int i) (.int j)) S Q ↔ Q (.bl (p i j)) S := by simp [Wp, icmp]
@[simp] theorem wp_neg {i : Int} {Q : D → Sx → Prop} : Wp (uNeg (.int i)) S Q ↔ Q (.int (-i)) S := by simp [Wp, uNeg]
@[simp] theorem wp_addI {i j : Int} {Q : D → Sx → Prop} : Wp (dAdd (.int i) (.int j)) S Q ↔ Q (.int (i + j)) S := by simp [Wp, dAdd]
@[simp] theorem wp_addT {a b : List D} {Q : D → Sx → Prop} : Wp (dAdd (.tup a) (.tup b)) S Q ↔ a.length + b.length ≤ mostL ∧ Q (.tup (a ++ b)) S := by
  unfold Wp
  simp only [dAdd]
  exact ex_if
@[simp] theorem cMul_iff {i j : Int} : cMul i j = true ↔ (-18446744073709551616 < i ∧ i < 18446744073709551616) ∨ (-18446744073709551616 < j ∧ j < 18446744073709551616) := by
  have e : cMul i j = true ↔ (-big64 < i ∧ i < big64) ∨ (-big64 < j ∧ j < big64) := by simp only [cMul, Bool.or_eq_true, Bool.and_eq_true, decide_eq_true_eq]
  exact e
@[simp] theorem cDiv_iff {i j : Int} : cDiv i j = true ↔ 0 < j ∧ j < 1073741824 := by simp [cDiv]
@[simp] theorem cMod_iff {i j : Int} : cMod i j = true ↔ 0 < j := by simp [cMod]
/-! ### lists -/
@[simp] theorem lstC_lst {l : List D} : lstC S (.lst l) = some l := rfl
@[simp] theorem lstC_cr {i : Nat} : lstC S (.cr i) = (match S.env[i]? with | some (.cell l) => some l | _ => none) := rfl
@[simp] theorem lstC_ob {k : Nat} : lstC S (.ob k) = (match S.w[k]? with | some (.lst l) => some l | _ => none) := rfl
@[simp] theorem lstR_rd {l : List D} : lstR S (.rd l) = some l := rfl
@[simp] theorem lstR_lst {l : List D} : lstR S (.lst l) = some l := rfl
@[simp] theorem lstR_cr {i : Nat} : lstR S (.cr i) = lstC S (.cr i) := rfl
@[simp] theorem lstR_ob {k : Nat} : lstR S (.ob k) = lstC S (.ob k) := rfl
@[simp] theorem seqC_tup {l : List D} : seqC S (.tup l) = some l := rfl
@[simp] theorem seqC_lst {l : List D} : seqC S (.lst l) = some l := rfl
@[simp] theorem seqC_rd {l : List D} : seqC S (.rd l) = some l := rfl
@[simp] theorem seqC_cr {i : Nat} : seqC S (.cr i) = lstC S (.cr i) := rfl
@[simp] theorem seqC_ob {k : Nat} : seqC S (.ob k) = lstC S (.ob k) := rfl
def isL : D → Bool
  | .lst _ => true
  | .cr _ => true
  | .ob _ => true
  | _ => false
@[simp] theorem wp_addL {x y : D} {a b : List D} {Q : D → Sx → Prop} (hx : lstC S x = some a) (hy : lstC S y = some b) : Wp (dAdd x y) S Q ↔ a.length + b.length ≤ mostL ∧ Q (.lst (a ++ b)) S := by
  have e : dAdd x y S = if a.length + b.length ≤ mostL then some (.lst (a ++ b), S) else none := by
    cases x <;> cases y <;> simp_all [dAdd, lstC]
  unfold Wp
  rw [e]
  exact ex_if
@[simp] theorem wp_cat {x y : D} {a b : List D} {Q : List D → Sx → Prop} (hx : lstC S x = some a) (hy : lstC S y = some b) : Wp (dCat x y) S Q ↔ a.length + b.length ≤ mostL ∧ Q (a ++ b) S := by
  unfold Wp
  simp only [dCat, hx, hy]
  exact ex_if
@[simp] theorem wp_rep {x : D} {k : Int} {a : List D} {Q : List D → Sx → Prop} (hx : lstC S x = some a) : Wp (dRep x (.int k)) S Q ↔ (-1000000 ≤ k ∧ k ≤ 1000000 ∧ a.length * k.toNat ≤ mostL) ∧ Q (List.replicate k.toNat a).flatten S := by
  unfold Wp
  simp only [dRep, hx]
  exact ex_if
@[simp] theorem wp_ixL {x : D} {i : Int} {l : List D} {Q : D → Sx → Prop} (hx : seqC S x = some l) : Wp (dIx x (.int i)) S Q ↔ ∃ d, atI l i = some d ∧ Q d S := by
  have e : dIx x (.int i) S = match seqC S x with
      | some l => match atI l i with
        | some d => some (d, S)
        | none => none
      | none => none := by
    cases x with
    | str z => cases hx
    | _ => rfl
  unfold Wp
  rw [e, hx]
  cases h : atI l i <;> simp [h]
@[simp] theorem wp_len {x : D} {l : List D} {Q : D → Sx → Prop} (hx : seqC S x = some l) : Wp (gLen [x]) S Q ↔ Q (.int l.length) S := by
  have e : gLen [x] S = some (.int l.length, S) := by cases x <;> simp_all [gLen, seqC, lstR, lstC]
  exact wp_some e
@[simp] theorem wp_abs {i : Int} {Q : D → Sx → Prop} : Wp (gAbs [.int i]) S Q ↔ Q (.int (if i < 0 then -i else i)) S := by simp [Wp, gAbs]
@[simp] theorem wp_min2 {i j : Int} {Q : D → Sx → Prop} : Wp (gMin2 [.int i, .int j]) S Q ↔ Q (.int (if j < i then j else i)) S := by simp [Wp, gMin2]
@[simp] theorem wp_max2 {i j : Int} {Q : D → Sx → Prop} : Wp (gMax2 [.int i, .int j]) S Q ↔ Q (.int (if j > i then j else i)) S := by simp [Wp, gMax2]
@[simp] theorem wp_int {i : Int} {Q : D → Sx → Prop} : Wp (gInt [.int i]) S Q ↔ Q (.int i) S := by simp [Wp, gInt]
@[simp] theorem wp_intB {b : Bool} {Q : D → Sx → Prop} : Wp (gInt [.bl b]) S Q ↔ Q (.int (if b then 1 else 0)) S := by simp [Wp, gInt]
@[simp] theorem wp_tuple {x : D} {l : List D} {Q : D → Sx → Prop} (hx : seqC S x = some l) : Wp (gTuple [x]) S Q ↔ Q (.tup l) S := by
  have e : gTuple [x] S = some (.tup l, S) := by cases x <;> simp_all [gTuple, seqC, lstR, lstC]
  exact wp_some e
@[simp] theorem wp_list {x : D} {l : List D} {Q : List D → Sx → Prop} (hx : seqC S x = some l) : Wp (gList [x]) S Q ↔ Q l S := by
  have e : gList [x] S = some (l, S) := by simp [gList, hx]
  exact wp_some e
@[simp] theorem wp_sum {x : D} {ns : List Int} {Q : D → Sx → Prop} (hx : seqC S x = some (ns.map D.int)) : Wp (gSum [x]) S Q ↔ Q (.int ns.sum) S := by
  have e : gSum [x] S = some (.int ns.sum, S) := by simp [gSum, hx, intsOf_map]
  exact wp_some e
@[simp] theorem rgC_iff {a b : Int} : rgC a b = true ↔ (-1000000 ≤ a ∧ a ≤ 1000000) ∧ (-1000000 ≤ b ∧ b ≤ 1000000) := by simp [rgC, and_assoc]
@[simp] theorem wp_gRg1 {f : Mx D} {Q : Int × Int → Sx → Prop} : Wp (gRg1 f) S Q ↔ Wp f S fun d S1 => ∃ i, d = .int i ∧ Q (0, i) S1 := by
  unfold gRg1
  refine wp_bind.trans ?_
  have e : ∀ (d : D) (S1 : Sx), Wp (fun S => match d with | .int i => some (((0 : Int), i), S) | _ => none) S1 Q ↔ ∃ i, d = .int i ∧ Q (0, i) S1 := fun d S1 => by
    cases d <;> simp [Wp]
  exact ⟨fun h => h.mono fun d S1 q => (e d S1).mp q, fun h => h.mono fun d S1 q => (e d S1).mpr q⟩
@[simp] theorem wp_gRg2 {f g : Mx D} {Q : Int × Int → Sx → Prop} : Wp (gRg2 f g) S Q ↔ Wp f S fun d S1 => Wp g S1 fun e S2 => ∃ i j, d = .int i ∧ e = .int j ∧ Q (i, j) S2 := by
  unfold gRg2
  refine wp_bind.trans ?_
  have e : ∀ (d e : D) (S1 : Sx), Wp (fun S => match d, e with | .int i, .int j => some ((i, j), S) | _, _ => none) S1 Q ↔ ∃ i j, d = .int i ∧ e = .int j ∧ Q (i, j) S1 := fun d e S1 => by
    cases d <;> cases e <;> simp [Wp]
  refine ⟨fun h => h.mono fun d S1 q => ?_, fun h => h.mono fun d S1 q => ?_⟩
  · rw [wp_bind] at q; exact q.mono fun e' S2 q => (e d e' S2).mp q
  · rw [wp_bind]; exact q.mono fun e' S2 q => (e d e' S2).mpr q
@[simp] theorem wp_nRg {f : Mx (Int × Int)} {Q : List D → Sx → Prop} : Wp (nRg f) S Q ↔ Wp f S fun p S1 => rgC p.1 p.2 = true ∧ Q (rgD p.1 p.2) S1 := by
  unfold nRg
  refine wp_bind.trans ?_
  have e : ∀ (p : Int × Int) (S1 : Sx), Wp (fun S => if rgC p.1 p.2 = true then some (rgD p.1 p.2, S) else none) S1 Q ↔ rgC p.1 p.2 = true ∧ Q (rgD p.1 p.2) S1 := fun p S1 => by
    unfold Wp
    cases rgC p.1 p.2 <;> simp
  simp only [e]
@[simp] theorem wp_eTRg {f : Mx (Int × Int)} {Q : D → Sx → Prop} : Wp (eTRg f) S Q ↔ Wp f S fun p S1 => rgC p.1 p.2 = true ∧ Q (.tup (rgD p.1 p.2)) S1 := by
  unfold eTRg
  refine wp_bind.trans ?_
  have e : ∀ (p : Int × Int) (S1 : Sx), Wp (fun S => if rgC p.1 p.2 = true then some (D.tup (rgD p.1 p.2), S) else none) S1 Q ↔ rgC p.1 p.2 = true ∧ Q (.tup (rgD p.1 p.2)) S1 := fun p S1 => by
    unfold Wp
    cases rgC p.1 p.2 <;> simp
  simp only [e]
@[simp] theorem wp_oNone {Q : Option Int → Sx → Prop} : Wp oNone S Q ↔ Q none S := wp_ret
@[simp] theorem wp_oSome {f : Mx D} {Q : Option Int → Sx → Prop} : Wp (oSome f) S Q ↔ Wp f S fun d S1 => ∃ i, d = .int i ∧ Q (some i) S1 := by
  unfold oSome
  refine wp_bind.trans ?_
  have e : ∀ (d : D) (S1 : Sx), Wp (fun S => match d with | .int i => some (some i, S) | _ => none) S1 Q ↔ ∃ i, d = .int i ∧ Q (some i) S1 := fun d S1 => by
    cases d <;> simp [Wp]
  exact ⟨fun h => h.mono fun d S1 q => (e d S1).mp q, fun h => h.mono fun d S1 q => (e d S1).mpr q⟩
@[simp] theorem wp_nSl {a : Mx D} {lo hi : Mx (Option Int)} {Q : List D → Sx → Prop} : Wp (nSl a lo hi) S Q ↔ Wp a S fun x S1 => Wp lo S1 fun l S2 => Wp hi S2 fun h S3 => ∃ c, lstR S3 x = some c ∧ Q (cutD c l h) S3 := by
  unfold nSl
  simp only [wp_bind]
  have e : ∀ (x : D) (l h : Option Int) (S1 : Sx), Wp (fun S => match lstR S x with | some c => some (cutD c l h, S) | none => none) S1 Q ↔ ∃ c, lstR S1 x = some c ∧ Q (cutD c l h) S1 := fun x l h S1 => by
    unfold Wp
    cases hq : lstR S1 x <;> simp [hq]
  exact ⟨fun q => q.mono fun x S1 q => q.mono fun l S2 q => q.mono fun h S3 q => (e x l h S3).mp q, fun q => q.mono fun x S1 q => q.mono fun l S2 q => q.mono fun h S3 q => (e x l h S3).mpr q⟩
@[simp] theorem wp_eSl {g : D → Option Int → Option Int → Mx D} {a : Mx D} {lo hi : Mx (Option Int)} {Q : D → Sx → Prop} : Wp (eSl g a lo hi) S Q ↔ Wp a S fun x S1 => Wp lo S1 fun l S2 => Wp hi S2 fun h S3 => Wp (g x l h) S3 Q := by
  unfold eSl; simp
@[simp] theorem wp_slT {l : List D} {lo hi : Option Int} {Q : D → Sx → Prop} : Wp (dSl (.tup l) lo hi) S Q ↔ Q (.tup (cutD l lo hi)) S := by simp [Wp, dSl]
@[simp] theorem wp_slL {x : D} {l : List D} {lo hi : Option Int} {Q : D → Sx → Prop} (hx : lstR S x = some l) : Wp (dSl x lo hi) S Q ↔ Q (.lst (cutD l lo hi)) S := by
  have e : dSl x lo hi S = some (.lst (cutD l lo hi), S) := by cases x <;> simp_all [dSl, lstR, lstC]
  exact wp_some e
@[simp] theorem wp_revL {x : D} {l : List D} {Q : List D → Sx → Prop} (hx : lstR S x = some l) : Wp (dRev x) S Q ↔ Q l.reverse S := by
  have e : dRev x S = some (l.reverse, S) := by simp [dRev, hx]
  exact wp_some e
@[simp] theorem wp_sort {x : D} {l : List D} {Q : List D → Sx → Prop} (hx : lstR S x = some l) : Wp (gSort [x]) S Q ↔ ∃ m, sortL false l = some m ∧ Q m S := by
  unfold Wp gSort
  simp only [hx]
  cases sortL false l <;> simp
/-! ### methods -/
@[simp] theorem wp_eM {g : D → List D → Mx D} {a : Mx D} {as : Mx (List D)} {Q : D → Sx → Prop} : Wp (eM g a as) S Q ↔ Wp a S fun x S1 => (∃ l, lstR S1 x = some l) ∧ Wp as S1 fun xs S2 => Wp (g x xs) S2 Q := by
  unfold eM
  refine wp_bind.trans ?_
  have e : ∀ (x : D) (S1 : Sx), Wp (fun S => match lstR S x with | some _ => mbind as (fun xs => g x xs) S | none => none) S1 Q ↔ (∃ l, lstR S1 x = some l) ∧ Wp as S1 fun xs S2 => Wp (g x xs) S2 Q := fun x S1 => by
    rw [← wp_bind]
    unfold Wp
    cases hq : lstR S1 x <;> simp [hq]
  exact ⟨fun h => h.mono fun d S1 q => (e d S1).mp q, fun h => h.mono fun d S1 q => (e d S1).mpr q⟩
theorem putC_cr {i : Nat} {l l' : List D} (h : S.env[i]? = some (.cell l)) : putC S l' (.cr i) = some { S with env := S.env.set i (.cell l') } := by simp [putC, h]
theorem putC_ob {k : Nat} {l l' : List D} (h : S.w[k]? = some (.lst l)) : putC S l' (.ob k) = some { S with w := S.w.set k (.lst l') } := by simp [putC, h]
@[simp] theorem putC_cr' {i : Nat} {l' : List D} : putC S l' (.cr i) = (match S.env[i]? with | some (.cell _) => some { S with env := S.env.set i (.cell l') } | _ => none) := rfl
@[simp] theorem putC_ob' {k : Nat} {l' : List D} : putC S l' (.ob k) = (match S.w[k]? with | some (.lst _) => some { S with w := S.w.set k (.lst l') } | _ => none) := rfl
@[simp] theorem wp_appC {i : Nat} {d : D} {Q : D → Sx → Prop} : Wp (mAppend (.cr i) [d]) S Q ↔ ∃ l, S.env[i]? = some (.cell l) ∧ (d.isCr = false ∧ l.length < mostL) ∧ Q .non { S with env := S.env.set i (.cell (l ++ [d])) } := by
  unfold Wp mAppend
  cases h : S.env[i]? with
  | none => simp [h]
  | some s =>
    cases s with
    | cell l =>
      simp only [lstC_cr, h, putC_cr h]
      by_cases hc : d.isCr = false ∧ l.length < mostL
      · simp [hc]
      · rw [if_neg hc]; simp [hc]
    | _ => simp [h]
@[simp] theorem wp_extC {i : Nat} {d : D} {Q : D → Sx → Prop} : Wp (mExtend (.cr i) [d]) S Q ↔ ∃ l m, S.env[i]? = some (.cell l) ∧ lstC S d = some m ∧ l.length + m.length ≤ mostL ∧ Q .non { S with env := S.env.set i (.cell (l ++ m)) } := by
  unfold Wp mExtend
  cases h : S.env[i]? with
  | none => simp [h]
  | some s =>
    cases s with
    | cell l =>
      simp only [lstC_cr, h, putC_cr h]
      cases lstC S d with
      | none => simp
      | some m =>
        by_cases hc : l.length + m.length ≤ mostL
        · simp [hc]
        · simp [hc]
    | _ => simp [h]
@[simp] theorem wp_popAt {x : D} {i : Int} {l : List D} {Q : D → Sx → Prop} (hx : lstC S x = some l) :
    Wp (mPop x [.int i]) S Q ↔ (-1000000 ≤ i ∧ i ≤ 1000000) ∧ ∃ k d S', seqIndex? i l.length = some k ∧ l[k]? = some d ∧ putC S (l.eraseIdx k) x = some S' ∧ Q d S' := by
  unfold Wp mPop
  simp only [hx]
  by_cases h : -1000000 ≤ i ∧ i ≤ 1000000
  · rw [if_pos h]
    cases h1 : seqIndex? i l.length with
    | none => simp
    | some k =>
      cases h2 : l[k]? with
      | none => simp [h2]
      | some d =>
        cases h3 : putC S (l.eraseIdx k) x <;> simp_all
  · rw [if_neg h]; simp [h]
/-! ### statements -/
@[simp] theorem wp_next {Q : Fl → Sx → Prop} : Wp sNext S Q ↔ Q .nx S := wp_ret
@[simp] theorem wp_break {Q : Fl → Sx → Prop} : Wp sBreak S Q ↔ Q .bk S := wp_ret
@[simp] theorem wp_cont {Q : Fl → Sx → Prop} : Wp sCont S Q ↔ Q .ct S := wp_ret
def thenQ (g : Mx Fl) (Q : Fl → Sx → Prop) : Fl → Sx → Prop := fun fl S => match fl with
  | .nx => Wp g S Q
  | fl => Q fl S
@[simp] theorem thenQ_nx {g : Mx Fl} {Q : Fl → Sx → Prop} : thenQ g Q .nx S ↔ Wp g S Q := Iff.rfl
@[simp] theorem thenQ_bk {g : Mx Fl} {Q : Fl → Sx → Prop} : thenQ g Q .bk S ↔ Q .bk S := Iff.rfl
@[simp] theorem thenQ_ct {g : Mx Fl} {Q : Fl → Sx → Prop} : thenQ g Q .ct S ↔ Q .ct S := Iff.rfl
@[simp] theorem thenQ_rt {g : Mx Fl} {d : D} {Q : Fl → Sx → Prop} : thenQ g Q (.rt d) S ↔ Q (.rt d) S := Iff.rfl
@[simp] theorem wp_seq {f g : Mx Fl} {Q : Fl → Sx → Prop} : Wp (sSeq f g) S Q ↔ Wp f S (thenQ g Q) := by
  unfold Wp sSeq
  cases h : f S with
  | none => simp
  | some p =>
    obtain ⟨fl, S1⟩ := p
    cases fl <;> simp [Wp]
@[simp] theorem wp_sExpr {f : Mx D} {Q : Fl → Sx → Prop} : Wp (sExpr f) S Q ↔ Wp f S fun _ S1 => Q .nx S1 := by unfold sExpr; simp
theorem wp_crIf {d : D} {a : α} {S' : Sx} {Q : α → Sx → Prop} : (∃ b S1, (if d.isCr = true then none else some (a, S')) = some (b, S1) ∧ Q b S1) ↔ d.isCr = false ∧ Q a S' := by
  cases d.isCr <;> simp
@[simp] theorem wp_sRet {f : Mx D} {Q : Fl → Sx → Prop} : Wp (sRet f) S Q ↔ Wp f S fun d S1 => d.isCr = false ∧ Q (.rt d) S1 := by
  unfold sRet
  refine wp_bind.trans ?_
  have e : ∀ (d : D) (S1 : Sx), Wp (fun S => if d.isCr = true then none else some (Fl.rt d, S)) S1 Q ↔ d.isCr = false ∧ Q (.rt d) S1 := fun d S1 => wp_crIf
  simp only [e]
@[simp] theorem wp_sRetN {Q : Fl → Sx → Prop} : Wp sRetN S Q ↔ Q (.rt .non) S := wp_ret
@[simp] theorem wp_sIf {c : Mx Bool} {a b : Mx Fl} {Q : Fl → Sx → Prop} : Wp (sIf c a b) S Q ↔ Wp c S fun k S1 => (k = true → Wp a S1 Q) ∧ (k = false → Wp b S1 Q) := by unfold sIf; simp [wp_ite]
@[simp] theorem wp_sAsg {f : Mx D} {tg : D → Sx → Option Sx} {Q : Fl → Sx → Prop} : Wp (sAsg f tg) S Q ↔ Wp f S fun d S1 => d.isCr = false ∧ Wg (tg d S1) (Q .nx) := by
  unfold sAsg
  refine wp_bind.trans ?_
  have e : ∀ (d : D) (S1 : Sx), Wp (fun S => if d.isCr = true then none else match tg d S with | some S1 => some (Fl.nx, S1) | none => none) S1 Q ↔ d.isCr = false ∧ Wg (tg d S1) (Q .nx) := fun d S1 => by
    unfold Wp Wg
    cases h1 : d.isCr <;> cases h2 : tg d S1 <;> simp [h1, h2]
  exact ⟨fun h => h.mono fun d S1 q => (e d S1).mp q, fun h => h.mono fun d S1 q => (e d S1).mpr q⟩
@[simp] theorem wg_name {i : Nat} {d : D} {Q : Sx → Prop} : Wg (gtName i d S) Q ↔ Q { S with env := S.env.set i (.val d) } := by simp [Wg, gtName]
@[simp] theorem wg_nil {Q : Sx → Prop} : Wg (gtNil [] S) Q ↔ Q S := by simp [Wg, gtNil]
@[simp] theorem wg_cons {t : D → Sx → Option Sx} {u : List D → Sx → Option Sx} {d : D} {ds : List D} {Q : Sx → Prop} : Wg (gtCons t u (d :: ds) S) Q ↔ Wg (t d S) fun S1 => Wg (u ds S1) Q := by
  unfold Wg gtCons
  cases h : t d S <;> simp [h]
@[simp] theorem wg_tup {n : Nat} {t : List D → Sx → Option Sx} {d : D} {Q : Sx → Prop} : Wg (gtTup n t d S) Q ↔ ∃ l, frzC d = some l ∧ l.length = n ∧ Wg (t l S) Q := by
  unfold Wg gtTup
  cases frzC d with
  | none => simp
  | some l =>
    by_cases h : l.length = n
    · simp [h]
    · simp [h]
@[simp] theorem frzC_tup {l : List D} : frzC (.tup l) = some l := rfl
@[simp] theorem frzC_lst {l : List D} : frzC (.lst l) = some l := rfl
@[simp] theorem frzC_rd {l : List D} : frzC (.rd l) = some l := rfl
@[simp] theorem wp_sNew {i : Nat} {f : Mx (List D)} {Q : Fl → Sx → Prop} : Wp (sNew i f) S Q ↔ Wp f S fun ds S1 => Q .nx { S1 with env := S1.env.set i (.cell ds) } := by
  unfold sNew
  refine wp_bind.trans ?_
  exact ⟨fun h => h.mono fun d S1 q => by simpa [Wp] using q, fun h => h.mono fun d S1 q => by simpa [Wp] using q⟩
@[simp] theorem wp_sSet {fv fo fi : Mx D} {Q : Fl → Sx → Prop} : Wp (sSet fv fo fi) S Q ↔ Wp fv S fun v S1 => Wp fo S1 fun o S2 => Wp fi S2 fun i S3 => Wg (dSet o i v S3) (Q .nx) := by
  unfold sSet
  simp only [wp_bind]
  have e : ∀ (v o i : D) (S1 : Sx), Wp (fun S => match dSet o i v S with | some S1 => some (Fl.nx, S1) | none => none) S1 Q ↔ Wg (dSet o i v S1) (Q .nx) := fun v o i S1 => by
    unfold Wp Wg
    cases h : dSet o i v S1 <;> simp [h]
  exact ⟨fun q => q.mono fun x S1 q => q.mono fun l S2 q => q.mono fun h S3 q => (e x l h S3).mp q, fun q => q.mono fun x S1 q => q.mono fun l S2 q => q.mono fun h S3 q => (e x l h S3).mpr q⟩
@[simp] theorem wg_setC {i : Nat} {z : Int} {v : D} {Q : Sx → Prop} : Wg (dSet (.cr i) (.int z) v S) Q ↔ ∃ l j, S.env[i]? = some (.cell l) ∧ ixN l.length z = some j ∧ v.isCr = false ∧ Q { S with env := S.env.set i (.cell (l.set j v)) } := by
  unfold Wg dSet
  cases h : S.env[i]? with
  | none => simp [h]
  | some s =>
    cases s with
    | cell l =>
      simp only [lstC_cr, h, putC_cr h]
      cases h1 : ixN l.length z with
      | none => simp [h1]
      | some j => cases h2 : v.isCr <;> simp [h1, h2]
    | _ => simp [h]
@[simp] theorem wg_setO {k : Nat} {z : Int} {v : D} {Q : Sx → Prop} : Wg (dSet (.ob k) (.int z) v S) Q ↔ ∃ l j, S.w[k]? = some (.lst l) ∧ ixN l.length z = some j ∧ v.isCr = false ∧ Q { S with w := S.w.set k (.lst (l.set j v)) } := by
  unfold Wg dSet
  cases h : S.w[k]? with
  | none => simp [h]
  | some s =>
    cases s with
    | lst l =>
      simp only [lstC_ob, h, putC_ob h]
      cases h1 : ixN l.length z with
      | none => simp [h1]
      | some j => cases h2 : v.isCr <;> simp [h1, h2]
@[simp] theorem wp_sAug {i : Nat} {f : Mx D} {g : D → D → Mx D} {Q : Fl → Sx → Prop} : Wp (sAug i f g) S Q ↔ ∃ x, S.env[i]? = some (.val x) ∧ Wp f S fun y S1 => Wp (g x y) S1 fun z S2 => z.isCr = false ∧ Q .nx { S2 with env := S2.env.set i (.val z) } := by
  have e : ∀ x, Wp (mbind f fun y => mbind (g x y) fun z S => if z.isCr = true then none else some (Fl.nx, { S with env := S.env.set i (.val z) })) S Q ↔ Wp f S fun y S1 => Wp (g x y) S1 fun z S2 => z.isCr = false ∧ Q .nx { S2 with env := S2.env.set i (.val z) } := fun x => by
    simp only [wp_bind]
    exact ⟨fun q => q.mono fun y S1 q => q.mono fun z S2 q => wp_crIf.mp q, fun q => q.mono fun y S1 q => q.mono fun z S2 q => wp_crIf.mpr q⟩
  unfold Wp sAug
  cases h : S.env[i]? with
  | none => simp
  | some s =>
    cases s with
    | val x => simpa [Wp] using e x
    | _ => simp
@[simp] theorem wp_pVal {f : Mx D} {Q : Sl → Sx → Prop} : Wp (pVal f) S Q ↔ Wp f S fun d S1 => d.isCr = false ∧ Q (.val d) S1 := by
  unfold pVal
  refine wp_bind.trans ?_
  have e : ∀ (d : D) (S1 : Sx), Wp (fun S => if d.isCr = true then none else some (Sl.val d, S)) S1 Q ↔ d.isCr = false ∧ Q (.val d) S1 := fun d S1 => wp_crIf
  simp only [e]
@[simp] theorem wp_pNew {f : Mx (List D)} {Q : Sl → Sx → Prop} : Wp (pNew f) S Q ↔ Wp f S fun ds S1 => Q (.cell ds) S1 := by unfold pNew; simp
@[simp] theorem wp_par2 {i j : Nat} {a b : Mx Sl} {Q : Fl → Sx → Prop} : Wp (sPar2 i j a b) S Q ↔ Wp a S fun x S1 => Wp b S1 fun y S2 => Q .nx { S2 with env := (S2.env.set i x).set j y } := by
  unfold sPar2
  simp only [wp_bind]
  exact ⟨fun q => q.mono fun y S1 q => q.mono fun z S2 q => by simpa [Wp] using q, fun q => q.mono fun y S1 q => q.mono fun z S2 q => by simpa [Wp] using q⟩
@[simp] theorem wp_par3 {i j k : Nat} {a b c : Mx Sl} {Q : Fl → Sx → Prop} : Wp (sPar3 i j k a b c) S Q ↔ Wp a S fun x S1 => Wp b S1 fun y S2 => Wp c S2 fun z S3 => Q .nx { S3 with env := ((S3.env.set i x).set j y).set k z } := by
  unfold sPar3
  simp only [wp_bind]
  exact ⟨fun q => q.mono fun x S1 q => q.mono fun y S1 q => q.mono fun z S2 q => by simpa [Wp] using q, fun q => q.mono fun x S1 q => q.mono fun y S1 q => q.mono fun z S2 q => by simpa [Wp] using q⟩
@[simp] theorem wp_iSeq {f : Mx D} {Q : List D → Sx → Prop} : Wp (iSeq f) S Q ↔ Wp f S fun d S1 => ∃ l, frzC d = some l ∧ Q l S1 := by
  unfold iSeq
  refine wp_bind.trans ?_
  have e : ∀ (d : D) (S1 : Sx), Wp (fun S => match frzC d with | some l => some (l, S) | none => none) S1 Q ↔ ∃ l, frzC d = some l ∧ Q l S1 := fun d S1 => by
    unfold Wp
    cases h : frzC d <;> simp [h]
  exact ⟨fun h => h.mono fun d S1 q => (e d S1).mp q, fun h => h.mono fun d S1 q => (e d S1).mpr q⟩
@[simp] theorem wp_iRg1 {f : Mx D} {Q : List D → Sx → Prop} : Wp (iRg1 f) S Q ↔ Wp f S fun d S1 => ∃ i, d = .int i ∧ i62 i = true ∧ Q (rgD 0 i) S1 := by
  unfold iRg1
  refine wp_bind.trans ?_
  have e : ∀ (d : D) (S1 : Sx), Wp (fun S => match d with | .int j => if i62 j = true then some (rgD 0 j, S) else none | _ => none) S1 Q ↔ ∃ i, d = .int i ∧ i62 i = true ∧ Q (rgD 0 i) S1 := fun d S1 => by
    unfold Wp
    cases d with
    | int j => cases h : i62 j <;> simp [h]
    | _ => simp
  exact ⟨fun h => h.mono fun d S1 q => (e d S1).mp q, fun h => h.mono fun d S1 q => (e d S1).mpr q⟩
@[simp] theorem i62_iff {i : Int} : i62 i = true ↔ -4611686018427387904 ≤ i ∧ i < 4611686018427387904 := by simp [i62]
@[simp] theorem wp_iEn {f : Mx D} {Q : List D → Sx → Prop} : Wp (iEn f) S Q ↔ Wp f S fun d S1 => ∃ l, frzC d = some l ∧ Q (enumD 0 l) S1 := by
  unfold iEn
  refine wp_bind.trans ?_
  have e : ∀ (d : D) (S1 : Sx), Wp (fun S => match frzC d with | some l => some (enumD 0 l, S) | none => none) S1 Q ↔ ∃ l, frzC d = some l ∧ Q (enumD 0 l) S1 := fun d S1 => by
    unfold Wp
    cases h : frzC d <;> simp [h]
  exact ⟨fun h => h.mono fun d S1 q => (e d S1).mp q, fun h => h.mono fun d S1 q => (e d S1).mpr q⟩
/-! ### calls -/
@[simp] theorem wp_call {F : Fn} {as : Mx (List D)} {Q : D → Sx → Prop} : Wp (eCall F as) S Q ↔ Wp as S fun ds S1 => plainL ds = true ∧ WpF F ds S1.w fun d W' => Q d { S1 with w := W' } := by
  unfold eCall
  refine wp_bind.trans ?_
  have e : ∀ (ds : List D) (S1 : Sx), Wp (fun S => if plainL ds = true then match F ds S.w with | some (d, W') => some (d, { S with w := W' }) | none => none else none) S1 Q ↔ plainL ds = true ∧ WpF F ds S1.w fun d W' => Q d { S1 with w := W' } := fun ds S1 => by
    unfold Wp WpF
    cases plainL ds
    · simp
    · cases h : F ds S1.w with
      | none => simp [h]
      | some p => obtain ⟨a, b⟩ := p; simp [h]
  exact ⟨fun h => h.mono fun d S1 q => (e d S1).mp q, fun h => h.mono fun d S1 q => (e d S1).mpr q⟩
def retQ (Q : D → List Wo → Prop) : Fl → Sx → Prop := fun fl S => match fl with
  | .rt d => Q d S.w
  | .nx => Q .non S.w
  | _ => False
@[simp] theorem retQ_rt {Q : D → List Wo → Prop} {d : D} : retQ Q (.rt d) S ↔ Q d S.w := Iff.rfl
@[simp] theorem retQ_nx {Q : D → List Wo → Prop} : retQ Q .nx S ↔ Q .non S.w := Iff.rfl
theorem wpf {n : Nat} {body : Mx Fl} {args : List D} {Q : D → List Wo → Prop} : WpF (fnF n body) args W Q ↔ Wp body ⟨stEnv n args, W⟩ (retQ Q) := by
  unfold WpF fnF Wp
  cases h : body ⟨stEnv n args, W⟩ with
  | none => simp
  | some p =>
    obtain ⟨fl, S1⟩ := p
    cases fl <;> simp [retQ]
/-! ### loops -/
@[simp] theorem wp_for {it : Mx (List D)} {tg : D → Sx → Option Sx} {body : Mx Fl} {Q : Fl → Sx → Prop} : Wp (sFor it tg body) S Q ↔ Wp it S fun ds S1 => Wp (forL tg body ds) S1 Q := by unfold sFor; simp
def loopQ (N : Sx → Prop) (Q : Fl → Sx → Prop) : Fl → Sx → Prop := fun fl S => match fl with
  | .nx => N S
  | .ct => N S
  | .bk => Q .nx S
  | .rt d => Q (.rt d) S
@[simp] theorem loopQ_nx {N : Sx → Prop} {Q : Fl → Sx → Prop} : loopQ N Q .nx S ↔ N S := Iff.rfl
@[simp] theorem loopQ_ct {N : Sx → Prop} {Q : Fl → Sx → Prop} : loopQ N Q .ct S ↔ N S := Iff.rfl
@[simp] theorem loopQ_bk {N : Sx → Prop} {Q : Fl → Sx → Prop} : loopQ N Q .bk S ↔ Q .nx S := Iff.rfl
@[simp] theorem loopQ_rt {N : Sx → Prop} {Q : Fl → Sx → Prop} {d : D} : loopQ N Q (.rt d) S ↔ Q (.rt d) S := Iff.rfl
theorem wp_forL {tg : D → Sx → Option Sx} {body : Mx Fl} {Q : Fl → Sx → Prop} : ∀ (ds : List D) (IV : Nat → Sx → Prop) (S : Sx), IV 0 S →
    (∀ i d S, ds[i]? = some d → IV i S → Wg (tg d S) fun S1 => Wp body S1 (loopQ (IV (i + 1)) Q)) → (∀ S, IV ds.length S → Q .nx S) → Wp (forL tg body ds) S Q
  | [], IV, S, h0, hs, he => ⟨.nx, S, rfl, he S h0⟩
  | d :: ds, IV, S, h0, hs, he => by
    obtain ⟨S1, e1, fl, S2, e2, q⟩ := hs 0 d S rfl h0
    have go : IV 1 S2 → Wp (forL tg body ds) S2 Q := fun h => wp_forL ds (fun i => IV (i + 1)) S2 h (fun i d S hi => hs (i + 1) d S (by simpa using hi)) he
    cases fl with
    | nx =>
      obtain ⟨a, S3, e3, q3⟩ := go q
      exact ⟨a, S3, by simp only [forL, e1, e2]; exact e3, q3⟩
    | ct =>
      obtain ⟨a, S3, e3, q3⟩ := go q
      exact ⟨a, S3, by simp only [forL, e1, e2]; exact e3, q3⟩
    | bk => exact ⟨.nx, S2, by simp only [forL, e1, e2], q⟩
    | rt d' => exact ⟨.rt d', S2, by simp only [forL, e1, e2], q⟩
theorem wp_whileF {c : Mx Bool} {body : Mx Fl} {Q : Fl → Sx → Prop} (IV : Sx → Prop) (m : Sx → Nat)
    (hs : ∀ S, IV S → Wp c S fun k S1 => (k = true → Wp body S1 (loopQ (fun S2 => IV S2 ∧ m S2 < m S) Q)) ∧ (k = false → Q .nx S1)) : ∀ (k : Nat) (S : Sx), IV S → m S < k → Wp (whileF c body k) S Q
  | 0, S, _, h => absurd h (Nat.not_lt_zero _)
  | k + 1, S, h0, hm => by
    obtain ⟨b, S1, e1, ht, hf⟩ := hs S h0
    cases b with
    | false => exact ⟨.nx, S1, by simp only [whileF, e1], hf rfl⟩
    | true =>
      obtain ⟨fl, S2, e2, q⟩ := ht rfl
      have go : IV S2 ∧ m S2 < m S → Wp (whileF c body k) S2 Q := fun h => wp_whileF IV m hs k S2 h.1 (by omega)
      cases fl with
      | nx =>
        obtain ⟨a, S3, e3, q3⟩ := go q
        exact ⟨a, S3, by simp only [whileF, e1, e2]; exact e3, q3⟩
      | ct =>
        obtain ⟨a, S3, e3, q3⟩ := go q
        exact ⟨a, S3, by simp only [whileF, e1, e2]; exact e3, q3⟩
      | bk => exact ⟨.nx, S2, by simp only [whileF, e1, e2], q⟩
      | rt d' => exact ⟨.rt d', S2, by simp only [whileF, e1, e2], q⟩
theorem wp_while {fuel : Sx → Nat} {c : Mx Bool} {body : Mx Fl} {Q : Fl → Sx → Prop} (IV : Sx → Prop) (m : Sx → Nat) (h0 : IV S) (hm : m S < fuel S)
    (hs : ∀ S, IV S → Wp c S fun k S1 => (k = true → Wp body S1 (loopQ (fun S2 => IV S2 ∧ m S2 < m S) Q)) ∧ (k = false → Q .nx S1)) : Wp (sWhile fuel c body) S Q := wp_whileF IV m hs _ S h0 hm
/-! ### comprehensions -/
@[simp] theorem unS_nil : unS env [] = env := rfl
@[simp] theorem unS_cons {i : Nat} {is : List Nat} : unS env (i :: is) = (unS env is).set i .un := rfl
@[simp] theorem bkS_nil {env0 : List Sl} : bkS env0 env [] = env := rfl
@[simp] theorem bkS_cons {env0 : List Sl} {i : Nat} {is : List Nat} : bkS env0 env (i :: is) = (bkS env0 env is).set i (env0.getD i .un) := rfl
@[simp] theorem okS_nil : okS env [] = true := rfl
@[simp] theorem okS_cons {i : Nat} {is : List Nat} : okS env (i :: is) = true ↔ (∀ l, env[i]? ≠ some (.cell l)) ∧ okS env is = true := by
  unfold okS
  rw [List.all_cons, Bool.and_eq_true]
  refine and_congr ?_ Iff.rfl
  cases env[i]? with
  | none => simp
  | some s => cases s <;> simp
@[simp] theorem wp_yes {Q : Bool → Sx → Prop} : Wp cYes S Q ↔ Q true S := wp_ret

@[simp] theorem wp_lc {own : List Nat} {it : Mx (List D)} {tg : D → Sx → Option Sx} {tt : Mx Bool} {elt : Mx D} {Q : List D → Sx → Prop} : Wp (nLC own it tg tt elt) S Q ↔ Wp it S fun ds S1 => (okS S1.env own = true ∧ ds.length ≤ mostL) ∧
    Wp (lcL own tg tt elt ds) { S1 with env := unS S1.env own } fun ys S2 => Q ys { S2 with env := bkS S1.env S2.env own } := by
  unfold Wp nLC
  cases h : it S with
  | none => simp
  | some p =>
    obtain ⟨ds, S1⟩ := p
    by_cases hc : okS S1.env own = true ∧ ds.length ≤ mostL
    · cases h2 : lcL own tg tt elt ds { S1 with env := unS S1.env own } with
      | none => simp [hc, h2]
      | some p2 => obtain ⟨a, b⟩ := p2; simp [hc, h2]
    · simp [hc]
/-- the state goes through the invariant; what came out so far: ys -/
theorem wp_lcL {own : List Nat} {tg : D → Sx → Option Sx} {tt : Mx Bool} {elt : Mx D} : ∀ (ds : List D) (IV : Nat → List D → Sx → Prop) (pre : List D) (S : Sx) (Q : List D → Sx → Prop), IV 0 pre S →
    (∀ i d ys S, ds[i]? = some d → IV i ys S → Wg (tg d S) fun S1 => Wp tt S1 fun b S2 => (b = true → Wp elt S2 fun y S3 => y.isCr = false ∧ IV (i + 1) (ys ++ [y]) { S3 with env := unS S3.env own }) ∧ (b = false → IV (i + 1) ys { S2 with env := unS S2.env own })) →
    (∀ ys S, IV ds.length (pre ++ ys) S → Q ys S) → Wp (lcL own tg tt elt ds) S Q
  | [], IV, pre, S, Q, h0, hs, he => ⟨[], S, rfl, he [] S (by simpa using h0)⟩
  | d :: ds, IV, pre, S, Q, h0, hs, he => by
    obtain ⟨S1, e1, b, S2, e2, ht, hf⟩ := hs 0 d pre S rfl h0
    cases b with
    | true =>
      obtain ⟨y, S3, e3, hc, q⟩ := ht rfl
      obtain ⟨ys, S4, e4, q4⟩ := wp_lcL ds (fun i => IV (i + 1)) (pre ++ [y]) _ (fun ys S => Q (y :: ys) S) q (fun i d ys S hi => hs (i + 1) d ys S (by simpa using hi)) (fun ys S h => he _ _ (by simpa using h))
      exact ⟨y :: ys, S4, by simp [lcL, e1, e2, e3, hc, e4], q4⟩
    | false =>
      obtain ⟨ys, S4, e4, q4⟩ := wp_lcL ds (fun i => IV (i + 1)) pre _ Q (hf rfl) (fun i d ys S hi => hs (i + 1) d ys S (by simpa using hi)) he
      exact ⟨ys, S4, by simp only [lcL, e1, e2]; exact e4, q4⟩
end
end Ms
set_option Elab.async false
set_option linter.all false
set_option maxRecDepth 100000
set_option maxHeartbeats 1000000
/-! MsK: plain data: equality, places, ranges, sorting. -/
namespace Ms
open PySem PySem.Spec PyProof.Rows L2
set_option autoImplicit false

@[simp] theorem isCr_int {i : Int} : (D.int i).isCr = false := rfl
@[simp] theorem isCr_non : D.non.isCr = false := rfl
@[simp] theorem isCr_bl {b : Bool} : (D.bl b).isCr = false := rfl
@[simp] theorem isCr_str {b : Str} : (D.str b).isCr = false := rfl
@[simp] theorem isCr_tup {l : List D} : (D.tup l).isCr = false := rfl
@[simp] theorem isCr_lst {l : List D} : (D.lst l).isCr = false := rfl
@[simp] theorem isCr_rd {l : List D} : (D.rd l).isCr = false := rfl
@[simp] theorem isCr_ob {k : Nat} : (D.ob k).isCr = false := rfl
@[simp] theorem isCr_cr {k : Nat} : (D.cr k).isCr = true := rfl
@[simp] theorem plainL_nil : plainL [] = true := rfl
@[simp] theorem plainL_cons {d : D} {ds : List D} : plainL (d :: ds) = true ↔ d.isCr = false ∧ plainL ds = true := by simp [plainL]
theorem plainL_iff {ds : List D} : plainL ds = true ↔ ∀ d ∈ ds, d.isCr = false := by
  induction ds with
  | nil => simp
  | cons d ds ih => simp [ih]
/-- whole numbers that are not below 0 -/
abbrev dn (n : Nat) : D := .int (n : Int)
abbrev tN (l : List Nat) : D := .tup (l.map dn)
abbrev lN (l : List Nat) : D := .lst (l.map dn)
/-! ### places -/
theorem ixN_nat {n k : Nat} (h : k < n) : ixN n (k : Int) = some k := by
  unfold ixN
  rw [if_pos (by omega), if_pos (by omega)]
  simp
theorem atI_nat {α : Type} {l : List α} {k : Nat} : atI l (k : Int) = l[k]? := by
  unfold atI
  by_cases h : k < l.length
  · rw [ixN_nat h]; rfl
  · have : ixN l.length (k : Int) = none := by
      unfold ixN
      rw [if_pos (by omega), if_neg (by omega)]
    rw [this, List.getElem?_eq_none (by omega)]
    rfl
theorem atI_of {α : Type} {l : List α} {i : Int} (h0 : 0 ≤ i) : atI l i = l[i.toNat]? := by
  obtain ⟨k, rfl⟩ : ∃ k : Nat, i = (k : Int) := ⟨i.toNat, by omega⟩
  rw [atI_nat]
  rfl
theorem atI_last {α : Type} {l : List α} : atI l (-1) = l[l.length - 1]? := by
  unfold atI ixN
  cases l with
  | nil => rfl
  | cons a l =>
    rw [if_neg (by decide), if_pos (by simp; omega)]
    have : (-1 + ((a :: l).length : Int)).toNat = (a :: l).length - 1 := by simp only [List.length_cons]; omega
    rw [this]
    rfl
@[simp] theorem atI_zero {α : Type} {l : List α} : atI l 0 = l[0]? := atI_nat (k := 0)
@[simp] theorem atI_one {α : Type} {l : List α} : atI l 1 = l[1]? := atI_nat (k := 1)
@[simp] theorem atI_two {α : Type} {l : List α} : atI l 2 = l[2]? := atI_nat (k := 2)
@[simp] theorem atI_cast {α : Type} {l : List α} {k : Nat} : atI l (k : Int) = l[k]? := atI_nat
@[simp] theorem atI_neg1 {α : Type} {l : List α} : atI l (-1) = l[l.length - 1]? := atI_last
@[simp] theorem ixN_zero {n : Nat} : ixN (n + 1) 0 = some 0 := ixN_nat (k := 0) (by omega)
@[simp] theorem ixN_one {n : Nat} : ixN (n + 2) 1 = some 1 := ixN_nat (k := 1) (by omega)
@[simp] theorem ixN_21 : ixN 2 1 = some 1 := ixN_one
@[simp] theorem ixN_cast {n k j : Nat} : ixN n (k : Int) = some j ↔ k < n ∧ k = j := by
  by_cases h : k < n
  · simp [ixN_nat h, h]
  · have e : ixN n (k : Int) = none := by
      unfold ixN
      rw [if_pos (by omega), if_neg (by omega)]
    simp [e, h]
theorem seqIndex_nat {n k : Nat} (h : k < n) : seqIndex? (k : Int) n = some k := by
  unfold seqIndex?
  simp
  omega
@[simp] theorem seqIndex_zero {n : Nat} : seqIndex? 0 (n + 1) = some 0 := seqIndex_nat (k := 0) (by omega)
@[simp] theorem seqIndex_cast {n k j : Nat} : seqIndex? (k : Int) n = some j ↔ k < n ∧ k = j := by
  by_cases h : k < n
  · simp [seqIndex_nat h, h]
  · have e : seqIndex? (k : Int) n = none := by
      unfold seqIndex?
      simp
      omega
    simp [e, h]
/-! ### equality -/
mutual
/-- numbers, tuples, lists of no more than n levels -/
def plB : Nat → D → Bool
  | _, .int _ => true
  | n + 1, .tup l => plBL n l
  | n + 1, .lst l => plBL n l
  | _, _ => false
def plBL : Nat → List D → Bool
  | _, [] => true
  | n, d :: ds => plB n d && plBL n ds
end
theorem plBL_iff {n : Nat} : ∀ {l : List D}, plBL n l = true ↔ ∀ d ∈ l, plB n d = true
  | [] => by simp [plBL]
  | d :: ds => by simp [plBL, plBL_iff (l := ds)]
@[simp] theorem plB_int {n : Nat} {i : Int} : plB n (.int i) = true := by cases n <;> rfl
@[simp] theorem plB_tup {n : Nat} {l : List D} : plB (n + 1) (.tup l) = true ↔ ∀ d ∈ l, plB n d = true := by rw [← plBL_iff]; rfl
@[simp] theorem plB_lst {n : Nat} {l : List D} : plB (n + 1) (.lst l) = true ↔ ∀ d ∈ l, plB n d = true := by rw [← plBL_iff]; rfl
mutual
/-- such data as the kit's data -/
def pyD : D → PyData
  | .int i => .int i
  | .tup l => .tuple (pyL l)
  | .lst l => .list (pyL l)
  | _ => .none
def pyL : List D → List PyData
  | [] => []
  | d :: ds => pyD d :: pyL ds
end
mutual
theorem toPy_pl : ∀ (n : Nat) (d : D), plB n d = true → toPy d = some (pyD d)
  | _, .int i, _ => rfl
  | 0, .tup l, h => by cases h
  | n + 1, .tup l, h => by simp only [toPy, toPyL_pl n l h, pyD]
  | 0, .lst l, h => by cases h
  | n + 1, .lst l, h => by simp only [toPy, toPyL_pl n l h, pyD]
  | n, .non, h => by cases n <;> cases h
  | n, .bl _, h => by cases n <;> cases h
  | n, .str _, h => by cases n <;> cases h
  | n, .rd _, h => by cases n <;> cases h
  | n, .ob _, h => by cases n <;> cases h
  | n, .cr _, h => by cases n <;> cases h
theorem toPyL_pl : ∀ (n : Nat) (l : List D), plBL n l = true → toPyL l = some (pyL l)
  | _, [], _ => rfl
  | n, d :: ds, h => by
    simp only [plBL, Bool.and_eq_true] at h
    simp only [toPyL, toPy_pl n d h.1, toPyL_pl n ds h.2, pyL]
end
mutual
theorem eqv_pl : ∀ (n : Nat) (a b : D), plB n a = true → plB n b = true → (PyData.eqv (pyD a) (pyD b) = true ↔ a = b)
  | n, .int i, .int j, _, _ => by simp [pyD, PyData.eqv]
  | 0, .int i, .tup l, _, h => by cases h
  | 0, .int i, .lst l, _, h => by cases h
  | n + 1, .int i, .tup l, _, _ => by simp [pyD, PyData.eqv]
  | n + 1, .int i, .lst l, _, _ => by simp [pyD, PyData.eqv]
  | 0, .tup l, _, h, _ => by cases h
  | 0, .lst l, _, h, _ => by cases h
  | n + 1, .tup l, .int i, _, _ => by simp [pyD, PyData.eqv]
  | n + 1, .lst l, .int i, _, _ => by simp [pyD, PyData.eqv]
  | n + 1, .tup l, .tup m, h1, h2 => by simp only [pyD, PyData.eqv]; rw [eqvL_pl n l m h1 h2]; simp
  | n + 1, .lst l, .lst m, h1, h2 => by simp only [pyD, PyData.eqv]; rw [eqvL_pl n l m h1 h2]; simp
  | n + 1, .tup l, .lst m, h1, h2 => by simp [pyD, PyData.eqv]
  | n + 1, .lst l, .tup m, h1, h2 => by simp [pyD, PyData.eqv]
  | n, .non, _, h, _ => by cases n <;> cases h
  | n, .bl _, _, h, _ => by cases n <;> cases h
  | n, .str _, _, h, _ => by cases n <;> cases h
  | n, .rd _, _, h, _ => by cases n <;> cases h
  | n, .ob _, _, h, _ => by cases n <;> cases h
  | n, .cr _, _, h, _ => by cases n <;> cases h
  | n, _, .non, _, h => by cases n <;> cases h
  | n, _, .bl _, _, h => by cases n <;> cases h
  | n, _, .str _, _, h => by cases n <;> cases h
  | n, _, .rd _, _, h => by cases n <;> cases h
  | n, _, .ob _, _, h => by cases n <;> cases h
  | n, _, .cr _, _, h => by cases n <;> cases h
theorem eqvL_pl : ∀ (n : Nat) (a b : List D), plBL n a = true → plBL n b = true → (PyData.eqvAll (pyL a) (pyL b) = true ↔ a = b)
  | _, [], [], _, _ => by simp [pyL, PyData.eqvAll]
  | _, [], _ :: _, _, _ => by simp [pyL, PyData.eqvAll]
  | _, _ :: _, [], _, _ => by simp [pyL, PyData.eqvAll]
  | n, x :: xs, y :: ys, h1, h2 => by
    simp only [plBL, Bool.and_eq_true] at h1 h2
    simp only [pyL, PyData.eqvAll, Bool.and_eq_true, eqv_pl n x y h1.1 h2.1, eqvL_pl n xs ys h1.2 h2.2, List.cons.injEq]
end
mutual
theorem lay_pl : ∀ (n : Nat) (d : D), plB n d = true → (pyD d).canLay0 = true ∧ (pyD d).depth ≤ n + 1
  | _, .int i, _ => ⟨rfl, by simp [pyD, PyData.depth]⟩
  | 0, .tup l, h => by cases h
  | n + 1, .tup l, h => by
    have q := layL_pl n l h
    exact ⟨q.1, by simp only [pyD, PyData.depth]; have := q.2; omega⟩
  | 0, .lst l, h => by cases h
  | n + 1, .lst l, h => by
    have q := layL_pl n l h
    exact ⟨q.1, by simp only [pyD, PyData.depth]; have := q.2; omega⟩
  | n, .non, h => by cases n <;> cases h
  | n, .bl _, h => by cases n <;> cases h
  | n, .str _, h => by cases n <;> cases h
  | n, .rd _, h => by cases n <;> cases h
  | n, .ob _, h => by cases n <;> cases h
  | n, .cr _, h => by cases n <;> cases h
theorem layL_pl : ∀ (n : Nat) (l : List D), plBL n l = true → PyData.canLayAll0 (pyL l) = true ∧ PyData.depthAll (pyL l) ≤ n + 1
  | _, [], _ => ⟨rfl, by simp [pyL, PyData.depthAll]⟩
  | n, d :: ds, h => by
    simp only [plBL, Bool.and_eq_true] at h
    have q1 := lay_pl n d h.1
    have q2 := layL_pl n ds h.2
    refine ⟨by simp only [pyL, PyData.canLayAll0, q1.1, q2.1]; rfl, ?_⟩
    simp only [pyL, PyData.depthAll]
    omega
end
theorem shaped_pl {n : Nat} {d : D} (h : plB n d = true) (hn : n ≤ 50) : SeqAt.shaped (pyD d) = true := by
  have q := lay_pl n d h
  simp only [SeqAt.shaped, q.1, Bool.true_and, decide_eq_true_eq]
  omega

theorem look_pl {S : Sx} {n : Nat} {d : D} (h : plB n d = true) : look S d = d := by
  cases d with
  | cr i => cases n <;> cases h
  | ob i => cases n <;> cases h
  | _ => rfl
section
variable {S : Sx} {Q : D → Sx → Prop}
theorem wp_eqB {neg : Bool} {n : Nat} {a b x y : D} (hx : look S x = a) (hy : look S y = b) (ha : plB n a = true) (hb : plB n b = true) (hn : n ≤ 50) :
    Wp (dEqB neg x y) S Q ↔ Q (.bl (if neg then !wdec (a = b) else wdec (a = b))) S := by
  have e : PyData.eqv (pyD a) (pyD b) = wdec (a = b) := by
    rw [Bool.eq_iff_iff, wdec_true]
    exact eqv_pl n a b ha hb
  refine wp_some ?_
  simp only [dEqB, hx, hy, toPy_pl n a ha, toPy_pl n b hb, shaped_pl ha hn, shaped_pl hb hn, e]
  rfl
theorem wp_eq {n : Nat} {a b x y : D} (hx : look S x = a) (hy : look S y = b) (ha : plB n a = true) (hb : plB n b = true) (hn : n ≤ 50) : Wp (dEq x y) S Q ↔ Q (.bl (wdec (a = b))) S := wp_eqB (neg := false) hx hy ha hb hn
theorem wp_ne {n : Nat} {a b x y : D} (hx : look S x = a) (hy : look S y = b) (ha : plB n a = true) (hb : plB n b = true) (hn : n ≤ 50) : Wp (dNe x y) S Q ↔ Q (.bl (!wdec (a = b))) S := wp_eqB (neg := true) hx hy ha hb hn
@[simp] theorem wp_eqI {i j : Int} : Wp (dEq (.int i) (.int j)) S Q ↔ Q (.bl (wdec (i = j))) S := by
  rw [wp_eq (n := 0) (a := .int i) (b := .int j) rfl rfl plB_int plB_int (by decide)]
  simp
@[simp] theorem wp_neI {i j : Int} : Wp (dNe (.int i) (.int j)) S Q ↔ Q (.bl (!wdec (i = j))) S := by
  rw [wp_ne (n := 0) (a := .int i) (b := .int j) rfl rfl plB_int plB_int (by decide)]
  simp
@[simp] theorem wp_eq5 {a b x y : D} (hx : look S x = a) (hy : look S y = b) (ha : plB 5 a = true) (hb : plB 5 b = true) : Wp (dEq x y) S Q ↔ Q (.bl (wdec (a = b))) S := wp_eq hx hy ha hb (by decide)
@[simp] theorem wp_ne5 {a b x y : D} (hx : look S x = a) (hy : look S y = b) (ha : plB 5 a = true) (hb : plB 5 b = true) : Wp (dNe x y) S Q ↔ Q (.bl (!wdec (a = b))) S := wp_ne hx hy ha hb (by decide)
@[simp] theorem look_int {i : Int} : look S (.int i) = .int i := rfl
@[simp] theorem look_tup {l : List D} : look S (.tup l) = .tup l := rfl
@[simp] theorem look_lst {l : List D} : look S (.lst l) = .lst l := rfl
@[simp] theorem look_cr {i : Nat} : look S (.cr i) = (match lstC S (.cr i) with | some l => .lst l | none => .cr i) := rfl
theorem inInts_iff {i : Int} : ∀ {l : List D}, inInts i l = true ↔ D.int i ∈ l
  | [] => by simp [inInts]
  | d :: ds => by
    have q := inInts_iff (i := i) (l := ds)
    cases d with
    | int j =>
      simp only [inInts, Bool.or_eq_true, beq_iff_eq, q, List.mem_cons, D.int.injEq]
      rw [eq_comm (a := j)]
    | _ => simp [inInts, q]
theorem wp_inT {neg : Bool} {i : Int} {l : List D} (h : l.all intD = true) : Wp (dInB neg (.int i) (.tup l)) S Q ↔ Q (.bl (if neg then !wdec (D.int i ∈ l) else wdec (D.int i ∈ l))) S := by
  have e : inInts i l = wdec (D.int i ∈ l) := by rw [Bool.eq_iff_iff, wdec_true]; exact inInts_iff
  refine wp_some ?_
  simp only [dInB, h, e]
  rfl
theorem any_pl {n : Nat} {a : D} (ha : plB n a = true) : ∀ {l : List D}, (∀ d ∈ l, plB n d = true) → ((pyL l).any (fun z => PyData.eqv z (pyD a)) = true ↔ a ∈ l)
  | [], _ => by simp [pyL]
  | d :: ds, h => by
    have q := any_pl ha (l := ds) fun d hd => h d (List.mem_cons_of_mem _ hd)
    have e := eqv_pl n d a (h d (List.mem_cons_self ..)) ha
    rw [eq_comm (a := d)] at e
    simp only [pyL, List.any_cons, Bool.or_eq_true, e, q, List.mem_cons]
theorem wp_inL {neg : Bool} {n : Nat} {x y a : D} {l : List D} (hx : look S x = a) (hy : look S y = .lst l) (ht : frzC y = none ∨ ∃ m, y = .lst m) (ha : plB n a = true) (hl : ∀ d ∈ l, plB n d = true) (hn : n ≤ 49) :
    Wp (dInB neg x y) S Q ↔ Q (.bl (if neg then !wdec (a ∈ l) else wdec (a ∈ l))) S := by
  have e : (pyL l).any (fun z => PyData.eqv z (pyD a)) = wdec (a ∈ l) := by rw [Bool.eq_iff_iff, wdec_true]; exact any_pl ha hl
  have hl' : plB (n + 1) (.lst l) = true := plB_lst.mpr hl
  have e2 : dInB neg x y S = match toPy (look S x), toPy (look S y) with
    | some a, some (.list b) => if (SeqAt.shaped a && SeqAt.shaped (.list b)) = true then some (.bl (if neg then !(b.any fun z => PyData.eqv z a) else b.any fun z => PyData.eqv z a), S) else none
    | _, _ => none := by
    cases y with
    | tup m => rcases ht with h | ⟨m, h⟩ <;> cases h
    | _ => rfl
  refine wp_some ?_
  have s1 := shaped_pl ha (by omega)
  have s2 := shaped_pl hl' (by omega)
  simp only [pyD] at s2
  rw [e2, hx, hy, toPy_pl n a ha, toPy_pl (n + 1) _ hl']
  simp only [pyD, s1, s2, e]
  rfl
end
theorem perm_eraseIdx {α : Type} : ∀ {l : List α} {r : Nat} (h : r < l.length), (l[r] :: l.eraseIdx r).Perm l
  | a :: l, 0, _ => List.Perm.refl _
  | a :: l, r + 1, h => by
    simp only [List.getElem_cons_succ, List.eraseIdx_cons_succ]
    exact (List.Perm.swap _ _ _).trans ((perm_eraseIdx (l := l) (by simpa using h)).cons a)
/-! ### ranges -/
theorem rgD_nat {n : Nat} : rgD 0 (n : Int) = (List.range n).map dn := by
  unfold rgD
  simp
theorem rgD_get {n i : Nat} {d : D} (h : (rgD 0 (n : Int))[i]? = some d) : i < n ∧ d = dn i := by
  rw [rgD_nat, List.getElem?_map] at h
  by_cases hi : i < n
  · rw [List.getElem?_eq_getElem (by simpa using hi)] at h
    simp at h
    exact ⟨hi, by rw [← h]⟩
  · rw [List.getElem?_eq_none (by simp; omega)] at h
    cases h
@[simp] theorem rgD_len {n : Nat} : (rgD 0 (n : Int)).length = n := by rw [rgD_nat]; simp
/-! ### permutations -/
/-- what stands at place x -/
def ap (p : List Nat) (x : Nat) : Nat := p.getD x 0
theorem ap_of {p : List Nat} {x y : Nat} (h : p[x]? = some y) : ap p x = y := by simp [ap, h]
theorem get_ap {p : List Nat} {x : Nat} (h : x < p.length) : p[x]? = some (ap p x) := by
  rw [List.getElem?_eq_getElem h]
  simp [ap, h]
structure IsPerm (n : Nat) (p : List Nat) : Prop where
  len : p.length = n
  lt : ∀ x, x < n → ap p x < n
  inj : ∀ x y, x < n → y < n → ap p x = ap p y → x = y
theorem ap_set {p : List Nat} {x y z : Nat} (h : y < p.length) : ap (p.set y z) x = if x = y then z else ap p x := by
  unfold ap
  rw [List.getD_eq_getElem?_getD, List.getElem?_set]
  by_cases e : y = x
  · subst e; simp [h]
  · rw [if_neg e, if_neg (fun q => e q.symm)]; simp
theorem list_ext_ap {p q : List Nat} (hl : p.length = q.length) (h : ∀ x, x < p.length → ap p x = ap q x) : p = q := by
  apply List.ext_getElem? 
  intro x
  by_cases hx : x < p.length
  · rw [get_ap hx, get_ap (by omega), h x hx]
  · rw [List.getElem?_eq_none (by omega), List.getElem?_eq_none (by omega)]
theorem perm_range {n : Nat} {p : List Nat} (h : p.Perm (List.range n)) : IsPerm n p := by
  have hl : p.length = n := by simpa using h.length_eq
  have nd : p.Nodup := h.nodup_iff.mpr List.nodup_range
  refine ⟨hl, fun x hx => ?_, fun x y hx hy e => ?_⟩
  · have : ap p x ∈ p := List.mem_of_getElem? (get_ap (by omega))
    simpa using h.mem_iff.mp this
  · have h1 := get_ap (p := p) (x := x) (by omega)
    have h2 := get_ap (p := p) (x := y) (by omega)
    rw [← e] at h2
    exact (List.getElem?_inj (by omega) nd).mp (h1.trans h2.symm)
theorem perm_surj {n : Nat} {p : List Nat} (h : p.Perm (List.range n)) {x : Nat} (hx : x < n) : ∃ j, j < n ∧ ap p j = x := by
  have hl : p.length = n := by simpa using h.length_eq
  obtain ⟨j, hj, e⟩ := List.mem_iff_getElem.mp (h.mem_iff.mpr (List.mem_range.mpr hx))
  exact ⟨j, by omega, ap_of (by rw [List.getElem?_eq_getElem hj, e])⟩
theorem wp_sumN {S : Sx} {x : D} {l : List Nat} {Q : D → Sx → Prop} (hx : seqC S x = some (l.map dn)) : Wp (gSum [x]) S Q ↔ Q (dn l.sum) S := by
  have e : l.map dn = (l.map fun n : Nat => (n : Int)).map D.int := by simp [Function.comp_def]
  rw [e] at hx
  have e2 : ((l.map fun n : Nat => (n : Int)).sum : Int) = (l.sum : Nat) := by
    clear hx e
    induction l with
    | nil => rfl
    | cons a l ih => simp [ih]
  rw [wp_sum hx, e2]
@[simp] theorem wp_sumT {S : Sx} {l : List Nat} {Q : D → Sx → Prop} : Wp (gSum [.tup (l.map dn)]) S Q ↔ Q (dn l.sum) S := wp_sumN rfl
@[simp] theorem wp_sumLs {S : Sx} {l : List Nat} {Q : D → Sx → Prop} : Wp (gSum [.lst (l.map dn)]) S Q ↔ Q (dn l.sum) S := wp_sumN rfl
@[simp] theorem atI_add {α : Type} {l : List α} {a b : Nat} : atI l ((a : Int) + (b : Int)) = l[a + b]? := atI_nat (k := a + b)
@[simp] theorem atI_add1 {α : Type} {l : List α} {a : Nat} : atI l ((a : Int) + 1) = l[a + 1]? := atI_nat (k := a + 1)
@[simp] theorem atI_mod1 {α : Type} {l : List α} {a k m : Nat} : atI l ((a : Int) + ((k : Int) + 1) % (m : Int)) = l[a + (k + 1) % m]? := by
  have e : (a : Int) + ((k : Int) + 1) % (m : Int) = ((a + (k + 1) % m : Nat) : Int) := by simp
  rw [e, atI_nat]
@[simp] theorem cut_take {l : List D} {k : Nat} : cutD l none (some (k : Int)) = l.take k := by
  unfold cutD
  rw [HT.sIx_nat, HT.sIx_none]
  rw [Nat.sub_zero, List.drop_zero]
  by_cases h : k ≤ l.length
  · rw [Nat.min_eq_left h]
  · rw [Nat.min_eq_right (by omega), List.take_of_length_le (Nat.le_refl _), List.take_of_length_le (by omega)]
@[simp] theorem cut_1take {l : List D} {k : Nat} : cutD l none (some (1 + (k : Int))) = l.take (1 + k) := by
  have e : (1 : Int) + (k : Int) = ((1 + k : Nat) : Int) := by simp
  rw [e, cut_take]
@[simp] theorem cut_one {l : List D} : cutD l none (some 1) = l.take 1 := cut_take (k := 1)
/-! ### sorting -/
theorem pyL_map : ∀ {l : List D}, pyL l = l.map pyD
  | [] => rfl
  | d :: ds => by simp [pyL, pyL_map (l := ds)]
theorem leD_pl {n : Nat} {a b : D} {r : Bool} (ha : plB n a = true) (hb : plB n b = true) : leD r a b = PySem.W.dataLe r (fun p : PyData => p) (pyD a) (pyD b) := by
  simp only [leD, toPy_pl n a ha, toPy_pl n b hb]
theorem leD_toks {n : Nat} {a b : D} (ha : plB n a = true) (hb : plB n b = true) : leD false a b = !PyProof.Rows.lexLt PyProof.Rows.itemOrd (PySem.W.keyToks (pyD b)) (PySem.W.keyToks (pyD a)) := by
  rw [leD_pl ha hb]
  rfl
theorem leD_int {i j : Int} : leD false (.int i) (.int j) = decide (i ≤ j) := by
  rw [leD_toks (n := 0) plB_int plB_int]
  simp only [pyD, PySem.W.keyToks, PyProof.Rows.lexLt, PyProof.Rows.itemOrd, PyProof.Rows.itemLt, Bool.and_false, Bool.or_false]
  by_cases h : j < i
  · simp [h]
  · simp [h]; omega
theorem leD_total {n : Nat} {a b : D} (ha : plB n a = true) (hb : plB n b = true) : leD false a b = true ∨ leD false b a = true := by
  rw [leD_pl ha hb, leD_pl hb ha]
  have q := (PySem.W.sortLe_total (listOrd PyProof.Rows.itemOrd) false fun p : PyData => PySem.W.keyToks p).total (pyD a) (pyD b)
  exact q
theorem leD_trans {n : Nat} {a b c : D} (ha : plB n a = true) (hb : plB n b = true) (hc : plB n c = true) (h1 : leD false a b = true) (h2 : leD false b c = true) : leD false a c = true := by
  rw [leD_pl ha hb] at h1
  rw [leD_pl hb hc] at h2
  rw [leD_pl ha hc]
  exact (PySem.W.sortLe_total (listOrd PyProof.Rows.itemOrd) false fun p : PyData => PySem.W.keyToks p).trans _ _ _ h1 h2
/-! ### rows of numbers -/
theorem plB_tN {l : List Nat} : plB 1 (tN l) = true := by simp
theorem plB_lN {l : List Nat} : plB 1 (lN l) = true := by simp
def toksN : List Nat → List (Int ⊕ List Nat)
  | [] => [.inl 0]
  | n :: l => .inl 1 :: .inl (n : Int) :: toksN l
theorem toks_lN : ∀ l : List Nat, PySem.W.keyToks (pyD (lN l)) = toksN l
  | [] => rfl
  | n :: l => by
    have q := toks_lN l
    simp only [pyD, PySem.W.keyToks] at q
    simp only [pyD, List.map_cons, pyL, PySem.W.keyToks, PySem.W.keyToksAll, q, toksN]
    rfl
theorem toksN_inj : ∀ l m : List Nat, toksN l = toksN m → l = m
  | [], [], _ => rfl
  | [], _ :: _, h => by simp [toksN] at h
  | _ :: _, [], h => by simp [toksN] at h
  | a :: l, b :: m, h => by
    simp only [toksN, List.cons.injEq, Sum.inl.injEq, true_and] at h
    rw [toksN_inj l m h.2, show a = b by omega]
/-- rows in their order -/
def leN (a b : List Nat) : Bool := leD false (lN a) (lN b)
theorem leN_eq {a b : List Nat} : leN a b = !PyProof.Rows.lexLt PyProof.Rows.itemOrd (toksN b) (toksN a) := by
  unfold leN
  rw [leD_toks plB_lN plB_lN, toks_lN, toks_lN]
theorem leN_total (a b : List Nat) : leN a b = true ∨ leN b a = true := leD_total plB_lN plB_lN
theorem leN_trans {a b c : List Nat} (h1 : leN a b = true) (h2 : leN b c = true) : leN a c = true := leD_trans plB_lN plB_lN plB_lN h1 h2
theorem leN_anti {a b : List Nat} (h1 : leN a b = true) (h2 : leN b a = true) : a = b := by
  rw [leN_eq, Bool.not_eq_true'] at h1 h2
  exact (toksN_inj _ _ (lex_total _ _ h1 h2)).symm
theorem leN_head {x y : Nat} {a b : List Nat} (h : x < y) : leN (x :: a) (y :: b) = true := by
  rw [leN_eq]
  simp only [toksN, PyProof.Rows.lexLt, PyProof.Rows.itemOrd, PyProof.Rows.itemLt]
  have h1 : ¬ ((y : Int) < (x : Int)) := by omega
  have h2 : (x : Int) < (y : Int) := by omega
  simp [h1, h2]
/-- numbers in their order -/
def srt (l : List Nat) : List Nat := l.mergeSort fun a b => decide (a ≤ b)
theorem srt_perm (l : List Nat) : (srt l).Perm l := List.mergeSort_perm _ _
theorem srt_sorted (l : List Nat) : (srt l).Pairwise fun a b => a ≤ b := by
  have q := List.pairwise_mergeSort (le := fun a b : Nat => decide (a ≤ b)) (fun a b c h1 h2 => by simp at *; omega) (fun a b => by simp; omega) l
  exact q.imp fun h => by simpa using h
theorem srt_unique {l m : List Nat} (p : l.Perm m) : srt l = srt m :=
  List.Perm.eq_of_pairwise (fun a b _ _ h1 h2 => Nat.le_antisymm h1 h2) (srt_sorted l) (srt_sorted m) ((srt_perm l).trans (p.trans (srt_perm m).symm))
theorem srt_of_sorted {l : List Nat} (h : l.Pairwise fun a b => a ≤ b) : srt l = l :=
  List.Perm.eq_of_pairwise (fun a b _ _ h1 h2 => Nat.le_antisymm h1 h2) (srt_sorted l) h (srt_perm l)
def srtR (L : List (List Nat)) : List (List Nat) := L.mergeSort leN
theorem srtR_perm (L : List (List Nat)) : (srtR L).Perm L := List.mergeSort_perm _ _
theorem srtR_sorted (L : List (List Nat)) : (srtR L).Pairwise fun a b => leN a b = true :=
  List.pairwise_mergeSort (le := leN) (fun _ _ _ h1 h2 => leN_trans h1 h2) (fun a b => by rcases leN_total a b with h | h <;> simp [h]) L
theorem srtR_unique {L M : List (List Nat)} (p : L.Perm M) : srtR L = srtR M :=
  List.Perm.eq_of_pairwise (fun a b _ _ h1 h2 => leN_anti h1 h2) (srtR_sorted L) (srtR_sorted M) ((srtR_perm L).trans (p.trans (srtR_perm M).symm))
theorem srtR_of_sorted {L : List (List Nat)} (h : L.Pairwise fun a b => leN a b = true) : srtR L = L :=
  List.Perm.eq_of_pairwise (fun a b _ _ h1 h2 => leN_anti h1 h2) (srtR_sorted L) h (srtR_perm L)
theorem sortOk_of {n : Nat} {ps : List PyData} (ha : ∀ p ∈ ps, ∀ q ∈ ps, PySem.W.alike p q = true) (hd : ∀ p ∈ ps, p.depth ≤ 60) (hk : ∀ p ∈ ps, (match p with
    | .none => false
    | .tuple _ => false
    | _ => true) = true) : sortOk ps = true := by
  unfold sortOk
  simp only [Bool.and_eq_true, Bool.or_eq_true, List.all_eq_true, decide_eq_true_eq]
  exact ⟨⟨ha, hd⟩, .inr hk⟩
theorem sortL_n {l : List Nat} : sortL false (l.map dn) = some ((srt l).map dn) := by
  have e : toPyL (l.map dn) = some (pyL (l.map dn)) := toPyL_pl 0 _ (plBL_iff.mpr (by simp))
  have ok : sortOk (pyL (l.map dn)) = true := by
    rw [pyL_map]
    refine sortOk_of (n := 0) ?_ ?_ ?_
    · simp [pyD, PySem.W.alike]
    · simp [pyD, PyData.depth]
    · simp [pyD]
  simp only [sortL, e, ok, if_true]
  unfold srt
  rw [List.map_mergeSort (s := leD false)]
  intro a _ b _
  rw [leD_int]
  simp
theorem alike_ints : ∀ l m : List Nat, PySem.W.alikeAll (pyL (l.map dn)) (pyL (m.map dn)) = true
  | [], _ => by simp [pyL, PySem.W.alikeAll]
  | _ :: _, [] => by simp [pyL, PySem.W.alikeAll]
  | a :: l, b :: m => by simp [pyL, PySem.W.alikeAll, pyD, PySem.W.alike, alike_ints l m]
theorem depth_ints (l : List Nat) : PyData.depthAll (pyL (l.map dn)) ≤ 1 := by
  have := (layL_pl 0 (l.map dn) (plBL_iff.mpr (by simp))).2
  omega
theorem sortL_r {L : List (List Nat)} : sortL false (L.map lN) = some ((srtR L).map lN) := by
  have e : toPyL (L.map lN) = some (pyL (L.map lN)) := toPyL_pl 1 _ (plBL_iff.mpr (by simp))
  have ok : sortOk (pyL (L.map lN)) = true := by
    rw [pyL_map]
    refine sortOk_of (n := 0) ?_ ?_ ?_
    · simp [pyD, PySem.W.alike, alike_ints]
    · intro p hp
      simp only [List.map_map, List.mem_map, Function.comp] at hp
      obtain ⟨l, _, rfl⟩ := hp
      have := depth_ints l
      simp only [pyD, PyData.depth]
      omega
    · simp [pyD]
  simp only [sortL, e, ok, if_true]
  unfold srtR
  rw [List.map_mergeSort (s := leD false)]
  intro a _ b _
  rfl
end Ms
set_option Elab.async false
set_option linter.all false
set_option maxRecDepth 100000
set_option maxHeartbeats 1000000
/-! MsP: pieces of sheets, in plain Lean -/
namespace Ms
open PySem PySem.Spec PyProof.Rows L2
set_option autoImplicit false
/-- y can be reached from x, forward and backward -/
inductive Con (n : Nat) (rows : List (List Nat)) (x : Nat) : Nat → Prop
  | refl : Con n rows x x
  | fwd {y : Nat} {p : List Nat} : p ∈ rows → Con n rows x y → Con n rows x (ap p y)
  | bwd {y : Nat} {p : List Nat} : p ∈ rows → y < n → Con n rows x (ap p y) → Con n rows x y
def Perms (n : Nat) (rows : List (List Nat)) : Prop := ∀ p ∈ rows, IsPerm n p
section
variable {n : Nat} {rows : List (List Nat)}
theorem Con.lt (P : Perms n rows) {x y : Nat} (hx : x < n) (h : Con n rows x y) : y < n := by
  induction h with
  | refl => exact hx
  | fwd hp _ ih => exact (P _ hp).lt _ ih
  | bwd _ hy _ _ => exact hy
theorem Con.trans {x y z : Nat} (h1 : Con n rows x y) (h2 : Con n rows y z) : Con n rows x z := by
  induction h2 with
  | refl => exact h1
  | fwd hp _ ih => exact .fwd hp ih
  | bwd hp hy _ ih => exact .bwd hp hy ih
theorem Con.symm (P : Perms n rows) {x y : Nat} (hx : x < n) (h : Con n rows x y) : Con n rows y x := by
  induction h with
  | refl => exact .refl
  | fwd hp h ih => exact (Con.bwd hp (h.lt P hx) .refl).trans ih
  | bwd hp hy h ih => exact (Con.fwd hp .refl).trans ih
/-- Con of others: each single step of the one is a way of the other -/
theorem Con.mono {rows' : List (List Nat)} (P : Perms n rows) (P' : Perms n rows') (h : ∀ p ∈ rows, ∀ y, y < n → Con n rows' y (ap p y)) {x y : Nat} (hx : x < n) (c : Con n rows x y) : Con n rows' x y := by
  induction c with
  | refl => exact .refl
  | fwd hp c ih => exact ih.trans (h _ hp _ (c.lt P hx))
  | bwd hp hy c ih => exact ih.trans ((h _ hp _ hy).symm P' hy)
/-- M parts the sheets as R says -/
structure Part (n : Nat) (R : Nat → Nat → Prop) (M : List (List Nat)) : Prop where
  nd : ∀ r ∈ M, r.Nodup
  ne : ∀ r ∈ M, r ≠ []
  lt : ∀ r ∈ M, ∀ x ∈ r, x < n
  cov : ∀ x, x < n → ∃ r ∈ M, x ∈ r
  cls : ∀ r ∈ M, ∀ x ∈ r, ∀ y, y < n → (y ∈ r ↔ R x y)
  dis : M.Pairwise fun r s => ∀ x ∈ r, x ∉ s
theorem srt_nodup {r : List Nat} (h : r.Nodup) : (srt r).Nodup := (srt_perm r).nodup_iff.mpr h
theorem mem_srt {r : List Nat} {x : Nat} : x ∈ srt r ↔ x ∈ r := (srt_perm r).mem_iff
theorem Part.nodup {R : Nat → Nat → Prop} {M : List (List Nat)} (h : Part n R M) : (M.map srt).Nodup := by
  unfold List.Nodup
  rw [List.pairwise_map]
  refine List.Pairwise.imp_of_mem ?_ h.dis
  intro r s hr hs hd e
  have ne := h.ne r hr
  cases r with
  | nil => exact ne rfl
  | cons x t =>
    have h1 : x ∈ srt s := by rw [← e]; exact mem_srt.mpr (List.mem_cons_self ..)
    exact hd x (List.mem_cons_self ..) (mem_srt.mp h1)
theorem Part.sub {R R' : Nat → Nat → Prop} {M M' : List (List Nat)} (h : Part n R M) (h' : Part n R' M') (e : ∀ x y, x < n → y < n → (R x y ↔ R' x y)) : ∀ r ∈ M, srt r ∈ M'.map srt := by
  intro r hr
  obtain ⟨x, hx⟩ := List.exists_mem_of_ne_nil r (h.ne r hr)
  have hxn := h.lt r hr x hx
  obtain ⟨r', hr', hx'⟩ := h'.cov x hxn
  have m : ∀ y, y ∈ r ↔ y ∈ r' := fun y => by
    constructor
    · intro hy
      have hyn := h.lt r hr y hy
      exact (h'.cls r' hr' x hx' y hyn).mpr ((e x y hxn hyn).mp ((h.cls r hr x hx y hyn).mp hy))
    · intro hy
      have hyn := h'.lt r' hr' y hy
      exact (h.cls r hr x hx y hyn).mpr ((e x y hxn hyn).mpr ((h'.cls r' hr' x hx' y hyn).mp hy))
  have p : r.Perm r' := (List.perm_ext_iff_of_nodup (h.nd r hr) (h'.nd r' hr')).mpr m
  rw [srt_unique p]
  exact List.mem_map_of_mem hr'
theorem Part.unique {R R' : Nat → Nat → Prop} {M M' : List (List Nat)} (h : Part n R M) (h' : Part n R' M') (e : ∀ x y, x < n → y < n → (R x y ↔ R' x y)) : srtR (M.map srt) = srtR (M'.map srt) := by
  refine srtR_unique ((List.perm_ext_iff_of_nodup h.nodup h'.nodup).mpr fun a => ?_)
  constructor
  · intro ha
    obtain ⟨r, hr, rfl⟩ := List.mem_map.mp ha
    exact h.sub h' e r hr
  · intro ha
    obtain ⟨r, hr, rfl⟩ := List.mem_map.mp ha
    exact h'.sub h (fun x y hx hy => (e x y hx hy).symm) r hr
/-- what pieces tells -/
def Pcs (n : Nat) (rows : List (List Nat)) : List (List Nat) → Prop := fun L => Part n (Con n rows) L ∧ srtR (L.map srt) = L
theorem Pcs.unique {rows' : List (List Nat)} {L M : List (List Nat)} (h : Pcs n rows L) (h' : Pcs n rows' M) (P : Perms n rows) (P' : Perms n rows') (e1 : ∀ p ∈ rows, ∀ y, y < n → Con n rows' y (ap p y)) (e2 : ∀ p ∈ rows', ∀ y, y < n → Con n rows y (ap p y)) : L = M := by
  rw [← h.2, ← h'.2]
  exact h.1.unique h'.1 fun x y hx hy => ⟨fun c => c.mono P P' e1 hx, fun c => c.mono P' P e2 hx⟩
theorem Pcs.of {R : Nat → Nat → Prop} {L M : List (List Nat)} (h : Pcs n rows L) (h' : Part n R M) (e : ∀ x y, x < n → y < n → (Con n rows x y ↔ R x y)) : L = srtR (M.map srt) := by
  rw [← h.2]
  exact h.1.unique h' e
/-! ### how pieces finds them -/
/-- what is known of the pieces when the sheets below i have been looked at -/
structure PIn (n : Nat) (rows : List (List Nat)) (i : Nat) (told : List (List Nat)) (seen : List Nat) : Prop where
  ord : told.Pairwise fun a b => leN a b = true
  head : ∀ r ∈ told, ∃ x t, r = x :: t ∧ x < i
  sorted : ∀ r ∈ told, srt r = r
  nd : ∀ r ∈ told, r.Nodup
  lt : ∀ r ∈ told, ∀ x ∈ r, x < n
  cls : ∀ r ∈ told, ∀ x ∈ r, ∀ y, y < n → (y ∈ r ↔ Con n rows x y)
  dis : told.Pairwise fun r s => ∀ x ∈ r, x ∉ s
  sn : ∀ x, x ∈ seen ↔ ∃ r ∈ told, x ∈ r
  snd : seen.Nodup
  low : ∀ x, x < i → x ∈ seen
  tl : told.length ≤ i
theorem PIn.start : PIn n rows 0 [] [] := ⟨.nil, by simp, by simp, by simp, by simp, by simp, .nil, by simp, .nil, by simp, by simp⟩
theorem PIn.slt {i : Nat} {told : List (List Nat)} {seen : List Nat} (h : PIn n rows i told seen) : ∀ x ∈ seen, x < n := fun x hx => by
  obtain ⟨r, hr, hx⟩ := (h.sn x).mp hx
  exact h.lt r hr x hx
theorem nd_le {l : List Nat} (h : l.Nodup) (hl : ∀ x ∈ l, x < n) : l.length ≤ n := by
  have := List.Nodup.length_le_of_subset (l₂ := List.range n) h fun x hx => List.mem_range.mpr (hl x hx)
  simpa using this
theorem PIn.skip {i : Nat} {told : List (List Nat)} {seen : List Nat} (h : PIn n rows i told seen) (hi : i ∈ seen) : PIn n rows (i + 1) told seen :=
  { h with
    head := fun r hr => by obtain ⟨x, t, e, hx⟩ := h.head r hr; exact ⟨x, t, e, by omega⟩
    low := fun x hx => by
      by_cases e : x = i
      · rw [e]; exact hi
      · exact h.low x (by omega)
    tl := by have := h.tl; omega }
/-- a piece that is being found -/
structure BIn (n : Nat) (rows : List (List Nat)) (i : Nat) (row : List Nat) : Prop where
  nd : row.Nodup
  lt : ∀ x ∈ row, x < n
  con : ∀ x ∈ row, Con n rows i x
  me : i ∈ row
theorem BIn.start {i : Nat} (hi : i < n) : BIn n rows i [i] := ⟨by simp, by simpa using hi, by simp; exact .refl, by simp⟩
theorem BIn.put {i x : Nat} {p row : List Nat} (P : Perms n rows) (h : BIn n rows i row) (hp : p ∈ rows) (hx : x ∈ row) (hn : ap p x ∉ row) : BIn n rows i (row ++ [ap p x]) where
  nd := by
    rw [List.nodup_append]
    exact ⟨h.nd, by simp, fun a ha b hb => by simp at hb; subst hb; intro e; subst e; exact hn ha⟩
  lt := fun y hy => by
    rw [List.mem_append, List.mem_singleton] at hy
    rcases hy with hy | rfl
    · exact h.lt y hy
    · exact (P p hp).lt _ (h.lt x hx)
  con := fun y hy => by
    rw [List.mem_append, List.mem_singleton] at hy
    rcases hy with hy | rfl
    · exact h.con y hy
    · exact .fwd hp (h.con x hx)
  me := by simp [h.me]
theorem BIn.all {i : Nat} {row : List Nat} (P : Perms n rows) (h : BIn n rows i row) (hc : ∀ x ∈ row, ∀ p ∈ rows, ap p x ∈ row) {y : Nat} : y ∈ row ↔ Con n rows i y := by
  refine ⟨h.con y, fun c => ?_⟩
  induction c with
  | refl => exact h.me
  | fwd hp _ ih => exact hc _ ih _ hp
  | @bwd y p hp hy c ih =>
    have nd : (row.map (ap p)).Nodup := by
      unfold List.Nodup
      rw [List.pairwise_map]
      refine List.Pairwise.imp_of_mem ?_ h.nd
      intro a b ha hb hab e
      exact hab ((P p hp).inj a b (h.lt a ha) (h.lt b hb) e)
    have sub : row.map (ap p) ⊆ row := fun z hz => by
      obtain ⟨a, ha, rfl⟩ := List.mem_map.mp hz
      exact hc a ha p hp
    have back : row ⊆ row.map (ap p) := fun z hz => by
      by_cases q : z ∈ row.map (ap p)
      · exact q
      · exfalso
        have nd2 : (z :: row.map (ap p)).Nodup := List.nodup_cons.mpr ⟨q, nd⟩
        have := List.Nodup.length_le_of_subset nd2 (l₂ := row) (by
          intro w hw
          rcases List.mem_cons.mp hw with rfl | hw
          · exact hz
          · exact sub hw)
        simp at this
        omega
    obtain ⟨z, hz, e⟩ := List.mem_map.mp (back ih)
    rw [← (P p hp).inj z y (h.lt z hz) hy e]
    exact hz
theorem srt_head {i : Nat} {row : List Nat} (hi : i ∈ row) (h : ∀ x ∈ row, i ≤ x) : ∃ t, srt row = i :: t := by
  have hs := srt_sorted row
  cases e : srt row with
  | nil =>
    have : i ∈ srt row := mem_srt.mpr hi
    rw [e] at this
    cases this
  | cons y t =>
    rw [e] at hs
    have hy : y ∈ row := mem_srt.mp (by rw [e]; exact List.mem_cons_self ..)
    have h1 := h y hy
    have hi2 : i ∈ y :: t := by rw [← e]; exact mem_srt.mpr hi
    rcases List.mem_cons.mp hi2 with rfl | hi2
    · exact ⟨t, rfl⟩
    · have := (List.pairwise_cons.mp hs).1 i hi2
      exact ⟨t, by rw [show y = i by omega]⟩
theorem PIn.put {i : Nat} {told : List (List Nat)} {seen row : List Nat} (P : Perms n rows) (h : PIn n rows i told seen) (hi : i < n) (hs : i ∉ seen) (b : BIn n rows i row) (hc : ∀ x ∈ row, ∀ p ∈ rows, ap p x ∈ row) : PIn n rows (i + 1) (told ++ [srt row]) (seen ++ row) := by
  have fresh : ∀ x ∈ row, x ∉ seen := fun x hx hxs => by
    obtain ⟨r, hr, hxr⟩ := (h.sn x).mp hxs
    have c := (b.con x hx).symm P hi
    exact hs ((h.sn i).mpr ⟨r, hr, (h.cls r hr x hxr i hi).mpr c⟩)
  have low : ∀ x ∈ row, i ≤ x := fun x hx => by
    by_cases q : x < i
    · exact absurd (h.low x q) (fresh x hx)
    · omega
  obtain ⟨t, ht⟩ := srt_head b.me low
  refine ⟨?_, ?_, ?_, ?_, ?_, ?_, ?_, ?_, ?_, ?_, by have := h.tl; simp; omega⟩
  · rw [List.pairwise_append]
    refine ⟨h.ord, by simp, fun a ha c hc' => ?_⟩
    rw [List.mem_singleton] at hc'
    subst hc'
    obtain ⟨x, u, rfl, hx⟩ := h.head a ha
    rw [ht]
    exact leN_head hx
  · intro r hr
    rw [List.mem_append, List.mem_singleton] at hr
    rcases hr with hr | rfl
    · obtain ⟨x, u, e, hx⟩ := h.head r hr
      exact ⟨x, u, e, by omega⟩
    · exact ⟨i, t, ht, by omega⟩
  · intro r hr
    rw [List.mem_append, List.mem_singleton] at hr
    rcases hr with hr | rfl
    · exact h.sorted r hr
    · exact srt_of_sorted (srt_sorted row)
  · intro r hr
    rw [List.mem_append, List.mem_singleton] at hr
    rcases hr with hr | rfl
    · exact h.nd r hr
    · exact srt_nodup b.nd
  · intro r hr x hx
    rw [List.mem_append, List.mem_singleton] at hr
    rcases hr with hr | rfl
    · exact h.lt r hr x hx
    · exact b.lt x (mem_srt.mp hx)
  · intro r hr x hx y hy
    rw [List.mem_append, List.mem_singleton] at hr
    rcases hr with hr | rfl
    · exact h.cls r hr x hx y hy
    · have cx := b.con x (mem_srt.mp hx)
      rw [mem_srt, b.all P hc]
      exact ⟨fun c => (cx.symm P hi).trans c, fun c => cx.trans c⟩
  · rw [List.pairwise_append]
    refine ⟨h.dis, by simp, fun a ha c hc' x hx hxc => ?_⟩
    rw [List.mem_singleton] at hc'
    subst hc'
    exact fresh x (mem_srt.mp hxc) ((h.sn x).mpr ⟨a, ha, hx⟩)
  · intro x
    rw [List.mem_append, h.sn x]
    constructor
    · rintro (⟨r, hr, hx⟩ | hx)
      · exact ⟨r, List.mem_append_left _ hr, hx⟩
      · exact ⟨srt row, by simp, mem_srt.mpr hx⟩
    · rintro ⟨r, hr, hx⟩
      rw [List.mem_append, List.mem_singleton] at hr
      rcases hr with hr | rfl
      · exact .inl ⟨r, hr, hx⟩
      · exact .inr (mem_srt.mp hx)
  · rw [List.nodup_append]
    exact ⟨h.snd, b.nd, fun a ha c hc' e => by subst e; exact fresh a hc' ha⟩
  · intro x hx
    rw [List.mem_append]
    by_cases e : x = i
    · rw [e]; exact .inr b.me
    · exact .inl (h.low x (by omega))
theorem PIn.done {told : List (List Nat)} {seen : List Nat} (h : PIn n rows n told seen) : Pcs n rows told := by
  refine ⟨⟨h.nd, fun r hr => ?_, h.lt, fun x hx => (h.sn x).mp (h.low x hx), h.cls, h.dis⟩, ?_⟩
  · obtain ⟨x, t, rfl, _⟩ := h.head r hr
    simp
  · have e : told.map srt = told := by
      conv => rhs; rw [← List.map_id told]
      exact List.map_congr_left fun r hr => h.sorted r hr
    rw [e]
    exact srtR_of_sorted h.ord
end
end Ms
set_option Elab.async false
set_option linter.all false
set_option maxRecDepth 100000
set_option maxHeartbeats 1000000
/-! MsQ: pieces of other rows -/
namespace Ms
open PySem PySem.Spec PyProof.Rows L2
set_option autoImplicit false
inductive All2 {α β : Type} (R : α → β → Prop) : List α → List β → Prop
  | nil : All2 R [] []
  | cons {a : α} {b : β} {l : List α} {m : List β} : R a b → All2 R l m → All2 R (a :: l) (b :: m)
theorem All2.left {α β : Type} {R : α → β → Prop} {l : List α} {m : List β} (h : All2 R l m) : ∀ a ∈ l, ∃ b ∈ m, R a b := by
  induction h with
  | nil => intro a h; cases h
  | cons r _ ih =>
    intro a h
    rcases List.mem_cons.mp h with rfl | h
    · exact ⟨_, List.mem_cons_self .., r⟩
    · obtain ⟨b, hb, q⟩ := ih a h
      exact ⟨b, List.mem_cons_of_mem _ hb, q⟩
theorem All2.right {α β : Type} {R : α → β → Prop} {l : List α} {m : List β} (h : All2 R l m) : ∀ b ∈ m, ∃ a ∈ l, R a b := by
  induction h with
  | nil => intro a h; cases h
  | cons r _ ih =>
    intro a h
    rcases List.mem_cons.mp h with rfl | h
    · exact ⟨_, List.mem_cons_self .., r⟩
    · obtain ⟨b, hb, q⟩ := ih a h
      exact ⟨b, List.mem_cons_of_mem _ hb, q⟩
theorem All2.len {α β : Type} {R : α → β → Prop} {l : List α} {m : List β} (h : All2 R l m) : m.length = l.length := by
  induction h with
  | nil => rfl
  | cons _ _ ih => simp [ih]
theorem All2.eq_map {α β : Type} {f : α → β} {l : List α} {m : List β} (h : All2 (fun a b => b = f a) l m) : m = l.map f := by
  induction h with
  | nil => rfl
  | cons r _ ih => rw [r, ih]; rfl
/-- a comprehension that leaves all as it was, each item by its promise -/
theorem wp_lcRel {α β : Type} {own : List Nat} {tg : D → Sx → Option Sx} {elt : Mx D} {e : α → D} {g : β → D} {R : α → β → Prop} {S : Sx} : ∀ {l : List α} {Q : List D → Sx → Prop},
    (∀ a ∈ l, Wg (tg (e a) S) fun S1 => Wp elt S1 fun y S3 => y.isCr = false ∧ { S3 with env := unS S3.env own } = S ∧ ∃ b, y = g b ∧ R a b) → (∀ bs, All2 R l bs → Q (bs.map g) S) → Wp (lcL own tg cYes elt (l.map e)) S Q
  | [], Q, h, q => ⟨[], S, rfl, q [] .nil⟩
  | a :: l, Q, h, q => by
    obtain ⟨S1, e1, y, S3, e3, hc, e4, b, rfl, r⟩ := h a (List.mem_cons_self ..)
    obtain ⟨ys, S5, e5, q5⟩ := wp_lcRel (own := own) (tg := tg) (elt := elt) (e := e) (g := g) (R := R) (S := S) (l := l) (Q := fun ys S' => Q (g b :: ys) S') (fun a ha => h a (List.mem_cons_of_mem _ ha)) fun bs hbs => q (b :: bs) (.cons r hbs)
    refine ⟨g b :: ys, S5, ?_, q5⟩
    rw [← e4] at e5
    have e2 : cYes S1 = some (true, S1) := rfl
    simp only [List.map_cons, lcL, e1, e2, e3, hc, e5]
    rfl
theorem IsPerm.nodup {n : Nat} {p : List Nat} (h : IsPerm n p) : p.Nodup := by
  unfold List.Nodup
  rw [List.pairwise_iff_getElem]
  intro i j hi hj hij e
  have := h.inj i j (by rw [← h.len]; exact hi) (by rw [← h.len]; exact hj) (by rw [ap_of (List.getElem?_eq_getElem hi), ap_of (List.getElem?_eq_getElem hj), e])
  omega
theorem IsPerm.perm {n : Nat} {p : List Nat} (h : IsPerm n p) : p.Perm (List.range n) := by
  have lt : ∀ x ∈ p, x < n := fun x hx => by
    obtain ⟨i, hi, e⟩ := List.mem_iff_getElem.mp hx
    have := h.lt i (by rw [← h.len]; exact hi)
    rwa [ap_of (List.getElem?_eq_some_iff.mpr ⟨hi, e⟩)] at this
  refine (List.perm_ext_iff_of_nodup h.nodup List.nodup_range).mpr fun x => ⟨fun hx => List.mem_range.mpr (lt x hx), fun hx => ?_⟩
  by_cases q : x ∈ p
  · exact q
  · exfalso
    have nd : (x :: p).Nodup := List.nodup_cons.mpr ⟨q, h.nodup⟩
    have := List.Nodup.length_le_of_subset nd (l₂ := List.range n) (by
      intro w hw
      rcases List.mem_cons.mp hw with rfl | hw
      · exact hx
      · exact List.mem_range.mpr (lt w hw))
    simp [h.len] at this
    omega
theorem IsPerm.surj {n : Nat} {p : List Nat} (h : IsPerm n p) {y : Nat} (hy : y < n) : ∃ x, x < n ∧ ap p x = y := perm_surj h.perm hy
section
variable {n : Nat} {rows : List (List Nat)}
theorem Pcs.same {L M : List (List Nat)} (h : Pcs n rows L) (h' : Pcs n rows M) (P : Perms n rows) : L = M :=
  h.unique h' P P (fun p hp y _ => .fwd hp .refl) (fun p hp y _ => .fwd hp .refl)
/-- inverses -/
def InvOf (n : Nat) (p q : List Nat) : Prop := q.length = n ∧ ∀ x, x < n → ap q (ap p x) = x
theorem InvOf.perm {p q : List Nat} (h : InvOf n p q) (P : IsPerm n p) : IsPerm n q where
  len := h.1
  lt := fun y hy => by
    obtain ⟨x, hx, rfl⟩ := P.surj hy
    rw [h.2 x hx]; exact hx
  inj := fun y z hy hz e => by
    obtain ⟨x, hx, rfl⟩ := P.surj hy
    obtain ⟨w, hw, rfl⟩ := P.surj hz
    rw [h.2 x hx, h.2 w hw] at e
    rw [e]
theorem pcs_inv {L M qs : List (List Nat)} (P : Perms n rows) (A : All2 (InvOf n) rows qs) (h : Pcs n rows L) (h' : Pcs n (qs ++ rows.take 1) M) : M = L := by
  have P' : Perms n (qs ++ rows.take 1) := fun q hq => by
    rcases List.mem_append.mp hq with hq | hq
    · obtain ⟨p, hp, r⟩ := A.right q hq
      exact r.perm (P p hp)
    · exact P q (List.mem_of_mem_take hq)
  refine h'.unique h P' P (fun q hq y hy => ?_) fun p hp y hy => ?_
  · rcases List.mem_append.mp hq with hq | hq
    · obtain ⟨p, hp, r⟩ := A.right q hq
      obtain ⟨x, hx, rfl⟩ := (P p hp).surj hy
      rw [r.2 x hx]
      exact .bwd hp hx .refl
    · exact .fwd (List.mem_of_mem_take hq) .refl
  · obtain ⟨q, hq, r⟩ := A.left p hp
    refine .bwd (List.mem_append_left _ hq) ((P p hp).lt y hy) ?_
    rw [r.2 y hy]
    exact .refl
theorem ap_map {p : List Nat} {f : Nat → Nat} {x : Nat} (h : x < p.length) : ap (p.map f) x = f (ap p x) := ap_of (by rw [List.getElem?_map, get_ap h]; rfl)
theorem cmp_perm {p q : List Nat} (hp : IsPerm n p) (hq : IsPerm n q) : IsPerm n (p.map (ap q)) where
  len := by simp [hp.len]
  lt := fun x hx => by rw [ap_map (by rw [hp.len]; exact hx)]; exact hq.lt _ (hp.lt x hx)
  inj := fun x y hx hy e => by
    rw [ap_map (by rw [hp.len]; exact hx), ap_map (by rw [hp.len]; exact hy)] at e
    exact hp.inj x y hx hy (hq.inj _ _ (hp.lt x hx) (hp.lt y hy) e)
theorem pcs_mul {L M : List (List Nat)} {r0 : List Nat} (P : Perms n rows) (h0 : r0 ∈ rows) (h : Pcs n rows L) (h' : Pcs n (rows.map (fun p => p.map (ap r0)) ++ [r0]) M) : M = L := by
  have P' : Perms n (rows.map (fun p => p.map (ap r0)) ++ [r0]) := fun q hq => by
    rcases List.mem_append.mp hq with hq | hq
    · obtain ⟨p, hp, rfl⟩ := List.mem_map.mp hq
      exact cmp_perm (P p hp) (P r0 h0)
    · rw [List.mem_singleton] at hq; rw [hq]; exact P r0 h0
  refine h'.unique h P' P (fun q hq y hy => ?_) fun p hp y hy => ?_
  · rcases List.mem_append.mp hq with hq | hq
    · obtain ⟨p, hp, rfl⟩ := List.mem_map.mp hq
      rw [ap_map (by rw [(P p hp).len]; exact hy)]
      exact .fwd h0 (.fwd hp .refl)
    · rw [List.mem_singleton] at hq; rw [hq]; exact .fwd h0 .refl
  · refine .bwd (p := r0) (by simp) ((P p hp).lt y hy) ?_
    have c : Con n (rows.map (fun p => p.map (ap r0)) ++ [r0]) y (ap (p.map (ap r0)) y) := .fwd (List.mem_append_left _ (List.mem_map_of_mem hp)) .refl
    rwa [ap_map (by rw [(P p hp).len]; exact hy)] at c
/-- turned by b -/
def TurOf (n : Nat) (b p q : List Nat) : Prop := q.length = n ∧ ∀ x, x < n → ap q (ap b x) = ap b (ap p x)
theorem TurOf.perm {b p q : List Nat} (h : TurOf n b p q) (B : IsPerm n b) (P : IsPerm n p) : IsPerm n q where
  len := h.1
  lt := fun y hy => by
    obtain ⟨x, hx, rfl⟩ := B.surj hy
    rw [h.2 x hx]; exact B.lt _ (P.lt x hx)
  inj := fun y z hy hz e => by
    obtain ⟨x, hx, rfl⟩ := B.surj hy
    obtain ⟨w, hw, rfl⟩ := B.surj hz
    rw [h.2 x hx, h.2 w hw] at e
    rw [P.inj x w hx hw (B.inj _ _ (P.lt x hx) (P.lt w hw) e)]
theorem con_tur {b : List Nat} {qs : List (List Nat)} (P : Perms n rows) (B : IsPerm n b) (A : All2 (TurOf n b) rows qs) {u v : Nat} (hu : u < n) (c : Con n rows u v) : Con n qs (ap b u) (ap b v) := by
  induction c with
  | refl => exact .refl
  | @fwd y p hp c ih =>
    obtain ⟨q, hq, r⟩ := A.left p hp
    rw [← r.2 y (c.lt P hu)]
    exact .fwd hq ih
  | @bwd y p hp hy c ih =>
    obtain ⟨q, hq, r⟩ := A.left p hp
    rw [← r.2 y hy] at ih
    exact .bwd hq (B.lt y hy) ih
theorem tur_con {b : List Nat} {qs : List (List Nat)} (P : Perms n rows) (B : IsPerm n b) (A : All2 (TurOf n b) rows qs) {u y : Nat} (hu : u < n) (c : Con n qs (ap b u) y) : ∃ v, v < n ∧ y = ap b v ∧ Con n rows u v := by
  induction c with
  | refl => exact ⟨u, hu, rfl, .refl⟩
  | @fwd y q hq c ih =>
    obtain ⟨v, hv, rfl, c'⟩ := ih
    obtain ⟨p, hp, r⟩ := A.right q hq
    exact ⟨ap p v, (P p hp).lt v hv, r.2 v hv, .fwd hp c'⟩
  | @bwd y q hq hy c ih =>
    obtain ⟨v, hv, e, c'⟩ := ih
    obtain ⟨p, hp, r⟩ := A.right q hq
    obtain ⟨w, hw, rfl⟩ := B.surj hy
    rw [r.2 w hw] at e
    refine ⟨w, hw, rfl, .bwd hp hw ?_⟩
    rwa [B.inj _ _ ((P p hp).lt w hw) hv e]
theorem pcs_tur {b : List Nat} {qs L M : List (List Nat)} (P : Perms n rows) (B : IsPerm n b) (A : All2 (TurOf n b) rows qs) (h : Pcs n rows L) (h' : Pcs n qs M) : M = srtR ((L.map fun r => r.map (ap b)).map srt) := by
  have Q := h.1
  refine h'.of (R := Con n qs) ⟨?_, ?_, ?_, ?_, ?_, ?_⟩ fun x y _ _ => Iff.rfl
  · intro r' hr'
    obtain ⟨r, hr, rfl⟩ := List.mem_map.mp hr'
    unfold List.Nodup
    rw [List.pairwise_map]
    refine List.Pairwise.imp_of_mem ?_ (Q.nd r hr)
    intro x y hx hy hxy e
    exact hxy (B.inj x y (Q.lt r hr x hx) (Q.lt r hr y hy) e)
  · intro r' hr'
    obtain ⟨r, hr, rfl⟩ := List.mem_map.mp hr'
    simpa using Q.ne r hr
  · intro r' hr' x hx
    obtain ⟨r, hr, rfl⟩ := List.mem_map.mp hr'
    obtain ⟨u, hu, rfl⟩ := List.mem_map.mp hx
    exact B.lt u (Q.lt r hr u hu)
  · intro x hx
    obtain ⟨u, hu, rfl⟩ := B.surj hx
    obtain ⟨r, hr, hur⟩ := Q.cov u hu
    exact ⟨_, List.mem_map_of_mem hr, List.mem_map_of_mem hur⟩
  · intro r' hr' x hx y hy
    obtain ⟨r, hr, rfl⟩ := List.mem_map.mp hr'
    obtain ⟨u, hu, rfl⟩ := List.mem_map.mp hx
    have hun := Q.lt r hr u hu
    constructor
    · intro hy'
      obtain ⟨v, hv, rfl⟩ := List.mem_map.mp hy'
      exact con_tur P B A hun ((Q.cls r hr u hu v (Q.lt r hr v hv)).mp hv)
    · intro c
      obtain ⟨v, hv, rfl, c'⟩ := tur_con P B A hun c
      exact List.mem_map_of_mem ((Q.cls r hr u hu v hv).mpr c')
  · rw [List.pairwise_map]
    refine List.Pairwise.imp_of_mem ?_ Q.dis
    intro r s hr hs hd x hx hxs
    obtain ⟨u, hu, rfl⟩ := List.mem_map.mp hx
    obtain ⟨v, hv, e⟩ := List.mem_map.mp hxs
    have := B.inj v u (Q.lt s hs v hv) (Q.lt r hr u hu) e
    subst this
    exact hd v hu hv
/-- two sheets exchanged -/
def swp (n a b : Nat) : List Nat := ((List.range n).set a b).set b a
theorem ap_range {x : Nat} (h : x < n) : ap (List.range n) x = x := ap_of (by simp [h])
theorem ap_swp {a b x : Nat} (ha : a < n) (hb : b < n) (hx : x < n) : ap (swp n a b) x = if b = x then a else if a = x then b else x := by
  unfold swp
  rw [ap_set (by simpa using hb), ap_set (by simpa using ha), ap_range hx]
  by_cases h1 : b = x
  · subst h1; simp
  · have h1' : ¬ x = b := fun e => h1 e.symm
    rw [if_neg h1', if_neg h1]
    by_cases h2 : a = x
    · subst h2; simp
    · rw [if_neg h2, if_neg fun e => h2 e.symm]
theorem swp_perm {a b : Nat} (ha : a < n) (hb : b < n) : IsPerm n (swp n a b) where
  len := by simp [swp]
  lt := fun x hx => by
    rw [ap_swp ha hb hx]
    split
    · exact ha
    · split
      · exact hb
      · exact hx
  inj := fun x y hx hy e => by
    rw [ap_swp ha hb hx, ap_swp ha hb hy] at e
    by_cases h1 : b = x <;> by_cases h2 : b = y <;> by_cases h3 : a = x <;> by_cases h4 : a = y <;> simp_all
theorem flat_nodup : ∀ {t : List (List Nat)}, (t.Pairwise fun r s => ∀ x ∈ r, x ∉ s) → (∀ r ∈ t, r.Nodup) → t.flatten.Nodup
  | [], _, _ => by simp
  | r :: t, dm, nm => by
    rw [List.flatten_cons, List.nodup_append]
    obtain ⟨d1, d2⟩ := List.pairwise_cons.mp dm
    refine ⟨nm r (List.mem_cons_self ..), flat_nodup d2 fun s hs => nm s (List.mem_cons_of_mem _ hs), fun x hx y hy e => ?_⟩
    subst e
    obtain ⟨s, hs, hxs⟩ := List.mem_flatten.mp hy
    exact d1 s hs x hx hxs
theorem flat_len : ∀ {t : List (List Nat)}, (∀ r ∈ t, r ≠ []) → t.length ≤ t.flatten.length
  | [], _ => by simp
  | r :: t, h => by
    have := flat_len (t := t) fun s hs => h s (List.mem_cons_of_mem _ hs)
    have := List.length_pos_iff.mpr (h r (List.mem_cons_self ..))
    rw [List.flatten_cons, List.length_append, List.length_cons]
    omega
theorem Part.len {R : Nat → Nat → Prop} {M : List (List Nat)} (h : Part n R M) : M.length ≤ n := by
  have h1 := flat_len h.ne
  have h2 := nd_le (n := n) (flat_nodup h.dis h.nd) fun x hx => by
    obtain ⟨r, hr, hx⟩ := List.mem_flatten.mp hx
    exact h.lt r hr x hx
  omega
theorem pcs_swp {a b : Nat} {L M met joined : List (List Nat)} (P : Perms n rows) (ha : a < n) (hb : b < n) (h : Pcs n rows L) (h' : Pcs n (rows ++ [swp n a b]) M)
    (hm : met = L.filter fun r => wdec (a ∈ r ∨ b ∈ r)) (hj : joined = L.filter fun r => wdec (¬ (a ∈ r ∨ b ∈ r))) : M = srtR (joined ++ [srt met.flatten]) := by
  have Q := h.1
  have srtd : ∀ r ∈ L, srt r = r := fun r hr => by
    rw [← h.2] at hr
    obtain ⟨q, _, rfl⟩ := List.mem_map.mp ((srtR_perm _).mem_iff.mp hr)
    exact srt_of_sorted (srt_sorted q)
  have P' : Perms n (rows ++ [swp n a b]) := fun q hq => by
    rcases List.mem_append.mp hq with hq | hq
    · exact P q hq
    · rw [List.mem_singleton] at hq; rw [hq]; exact swp_perm ha hb
  have mm : ∀ r, r ∈ met ↔ r ∈ L ∧ (a ∈ r ∨ b ∈ r) := fun r => by rw [hm, List.mem_filter, wdec_true]
  have mj : ∀ r, r ∈ joined ↔ r ∈ L ∧ ¬ (a ∈ r ∨ b ∈ r) := fun r => by rw [hj, List.mem_filter, wdec_true]
  have up : ∀ {x y}, Con n rows x y → Con n (rows ++ [swp n a b]) x y := fun {x y} c => by
    induction c with
    | refl => exact .refl
    | fwd hp _ ih => exact .fwd (List.mem_append_left _ hp) ih
    | bwd hp hy _ ih => exact .bwd (List.mem_append_left _ hp) hy ih
  have ab : Con n (rows ++ [swp n a b]) a b := by
    have c : Con n (rows ++ [swp n a b]) a (ap (swp n a b) a) := .fwd (by simp) .refl
    rw [ap_swp ha hb ha] at c
    by_cases e : b = a
    · rw [e]; exact .refl
    · simpa [e] using c
  have fl : ∀ x, x ∈ met.flatten ↔ ∃ r ∈ L, (a ∈ r ∨ b ∈ r) ∧ x ∈ r := fun x => by
    rw [List.mem_flatten]
    constructor
    · rintro ⟨r, hr, hx⟩
      exact ⟨r, ((mm r).mp hr).1, ((mm r).mp hr).2, hx⟩
    · rintro ⟨r, hr, h1, hx⟩
      exact ⟨r, (mm r).mpr ⟨hr, h1⟩, hx⟩
  have af : a ∈ met.flatten := by
    obtain ⟨r, hr, h1⟩ := Q.cov a ha
    exact (fl a).mpr ⟨r, hr, .inl h1, h1⟩
  have bf : b ∈ met.flatten := by
    obtain ⟨r, hr, h1⟩ := Q.cov b hb
    exact (fl b).mpr ⟨r, hr, .inr h1, h1⟩
  -- what is closed under rows and the swap
  have clo : ∀ T : Nat → Prop, (∀ x, x < n → ∀ y, Con n rows x y → T x → T y) → (T a ↔ T b) → ∀ x, x < n → ∀ y, Con n (rows ++ [swp n a b]) x y → T x → T y := fun T hT hab x hx y c tx => by
    induction c with
    | refl => exact tx
    | @fwd y p hp c ih =>
      have hy := c.lt P' hx
      rcases List.mem_append.mp hp with hp | hp
      · exact hT y hy _ (.fwd hp .refl) ih
      · rw [List.mem_singleton] at hp
        subst hp
        rw [ap_swp ha hb hy]
        by_cases h1 : b = y
        · rw [if_pos h1]; rw [← h1] at ih; exact hab.mpr ih
        · rw [if_neg h1]
          by_cases h2 : a = y
          · rw [if_pos h2]; rw [← h2] at ih; exact hab.mp ih
          · rw [if_neg h2]; exact ih
    | @bwd y p hp hy c ih =>
      rcases List.mem_append.mp hp with hp | hp
      · exact hT _ ((P p hp).lt y hy) _ (.bwd hp hy .refl) ih
      · rw [List.mem_singleton] at hp
        subst hp
        rw [ap_swp ha hb hy] at ih
        by_cases h1 : b = y
        · rw [if_pos h1] at ih; rw [← h1]; exact hab.mp ih
        · rw [if_neg h1] at ih
          by_cases h2 : a = y
          · rw [if_pos h2] at ih; rw [← h2]; exact hab.mpr ih
          · rw [if_neg h2] at ih; exact ih
  have clF : ∀ x, x < n → ∀ y, Con n rows x y → x ∈ met.flatten → y ∈ met.flatten := fun x hx y c hxf => by
    obtain ⟨r, hr, h1, hxr⟩ := (fl x).mp hxf
    exact (fl y).mpr ⟨r, hr, h1, (Q.cls r hr x hxr y (c.lt P hx)).mpr c⟩
  have e : joined ++ [srt met.flatten] = (joined ++ [met.flatten]).map srt := by
    rw [List.map_append]
    congr 1
    conv => lhs; rw [← List.map_id joined]
    exact List.map_congr_left fun r hr => (srtd r ((mj r).mp hr).1).symm
  rw [e]
  refine h'.of (R := Con n (rows ++ [swp n a b])) ⟨?_, ?_, ?_, ?_, ?_, ?_⟩ fun x y _ _ => Iff.rfl
  · intro r hr
    rcases List.mem_append.mp hr with hr | hr
    · exact Q.nd r ((mj r).mp hr).1
    · rw [List.mem_singleton] at hr
      subst hr
      have dm : met.Pairwise fun r s => ∀ x ∈ r, x ∉ s := by rw [hm]; exact Q.dis.filter _
      have nm : ∀ r ∈ met, r.Nodup := fun r hr => Q.nd r ((mm r).mp hr).1
      exact flat_nodup dm nm
  · intro r hr
    rcases List.mem_append.mp hr with hr | hr
    · exact Q.ne r ((mj r).mp hr).1
    · rw [List.mem_singleton] at hr
      rw [hr]
      exact List.ne_nil_of_mem af
  · intro r hr x hx
    rcases List.mem_append.mp hr with hr | hr
    · exact Q.lt r ((mj r).mp hr).1 x hx
    · rw [List.mem_singleton] at hr
      subst hr
      obtain ⟨r, hr, _, hx⟩ := (fl x).mp hx
      exact Q.lt r hr x hx
  · intro x hx
    obtain ⟨r, hr, hxr⟩ := Q.cov x hx
    by_cases q : a ∈ r ∨ b ∈ r
    · exact ⟨met.flatten, by simp, (fl x).mpr ⟨r, hr, q, hxr⟩⟩
    · exact ⟨r, List.mem_append_left _ ((mj r).mpr ⟨hr, q⟩), hxr⟩
  · intro r hr x hx y hy
    rcases List.mem_append.mp hr with hr | hr
    · obtain ⟨hrL, hno⟩ := (mj r).mp hr
      constructor
      · intro hyr
        exact up ((Q.cls r hrL x hx y hy).mp hyr)
      · intro c
        refine clo (fun z => z ∈ r) (fun u hu v c hur => (Q.cls r hrL u hur v (c.lt P hu)).mpr c) ⟨fun q => absurd (.inl q) hno, fun q => absurd (.inr q) hno⟩ x (Q.lt r hrL x hx) y c hx
    · rw [List.mem_singleton] at hr
      subst hr
      constructor
      · intro hyf
        have toA : ∀ z, z ∈ met.flatten → z < n ∧ Con n (rows ++ [swp n a b]) z a := fun z hz => by
          obtain ⟨r, hr, h1, hzr⟩ := (fl z).mp hz
          refine ⟨Q.lt r hr z hzr, ?_⟩
          rcases h1 with h1 | h1
          · exact up ((Q.cls r hr z hzr a ha).mp h1)
          · exact (up ((Q.cls r hr z hzr b hb).mp h1)).trans (ab.symm P' ha)
        obtain ⟨hxn, cx⟩ := toA x hx
        obtain ⟨_, cy⟩ := toA y hyf
        exact cx.trans (cy.symm P' hy)
      · intro c
        obtain ⟨r, hr, _, hxr⟩ := (fl x).mp hx
        exact clo (fun z => z ∈ met.flatten) clF ⟨fun _ => bf, fun _ => af⟩ x (Q.lt r hr x hxr) y c hx
  · rw [List.pairwise_append]
    refine ⟨by rw [hj]; exact Q.dis.filter _, by simp, fun r hr s hs x hx hxs => ?_⟩
    rw [List.mem_singleton] at hs
    subst hs
    obtain ⟨hrL, hno⟩ := (mj r).mp hr
    obtain ⟨s, hsL, h1, hxs⟩ := (fl x).mp hxs
    refine hno ?_
    rcases h1 with h1 | h1
    · exact .inl ((Q.cls r hrL x hx a ha).mpr ((Q.cls s hsL x hxs a ha).mp h1))
    · exact .inr ((Q.cls r hrL x hx b hb).mpr ((Q.cls s hsL x hxs b hb).mp h1))
end

theorem wp_lcFil {α : Type} {own : List Nat} {tg : D → Sx → Option Sx} {tt : Mx Bool} {elt : Mx D} {e : α → D} {c : α → Bool} {S : Sx} : ∀ {l : List α} {Q : List D → Sx → Prop},
    (∀ a ∈ l, Wg (tg (e a) S) fun S1 => Wp tt S1 fun k S2 => k = c a ∧ (k = true → Wp elt S2 fun y S3 => y = e a ∧ y.isCr = false ∧ { S3 with env := unS S3.env own } = S) ∧ (k = false → { S2 with env := unS S2.env own } = S)) → Q ((l.filter c).map e) S → Wp (lcL own tg tt elt (l.map e)) S Q
  | [], Q, h, q => ⟨[], S, rfl, q⟩
  | a :: l, Q, h, q => by
    obtain ⟨S1, e1, k, S2, e2, hk, ht, hf⟩ := h a (List.mem_cons_self ..)
    cases k with
    | true =>
      obtain ⟨y, S3, e3, rfl, hc, e4⟩ := ht rfl
      obtain ⟨ys, S5, e5, q5⟩ := wp_lcFil (own := own) (tg := tg) (tt := tt) (elt := elt) (e := e) (c := c) (S := S) (l := l) (Q := fun ys S' => Q (e a :: ys) S') (fun a ha => h a (List.mem_cons_of_mem _ ha)) (by rw [List.filter_cons, if_pos hk.symm] at q; exact q)
      refine ⟨e a :: ys, S5, ?_, q5⟩
      rw [← e4] at e5
      simp only [List.map_cons, lcL, e1, e2, e3, hc, e5]
      rfl
    | false =>
      have e4 := hf rfl
      obtain ⟨ys, S5, e5, q5⟩ := wp_lcFil (own := own) (tg := tg) (tt := tt) (elt := elt) (e := e) (c := c) (S := S) (l := l) (Q := Q) (fun a ha => h a (List.mem_cons_of_mem _ ha)) (by rw [List.filter_cons, if_neg (by rw [← hk]; decide)] at q; exact q)
      refine ⟨ys, S5, ?_, q5⟩
      rw [← e4] at e5
      simp only [List.map_cons, lcL, e1, e2, e5]
theorem lN_inj {a b : List Nat} (h : lN a = lN b) : a = b := by
  have h := D.lst.inj h
  exact List.map_inj_right (fun x y e => by have := D.int.inj e; omega) |>.mp h
@[simp] theorem wp_neBl {S : Sx} {a b : Bool} {Q : D → Sx → Prop} : Wp (dNe (.bl a) (.bl b)) S Q ↔ Q (.bl (!(a == b))) S := by
  refine wp_some ?_
  cases a <;> cases b <;> rfl
theorem wp_step {f g : Mx Fl} {S : Sx} {Q : Fl → Sx → Prop} (P : Sx → Prop) (h1 : Wp f S fun fl S' => fl = .nx ∧ P S') (h2 : ∀ S', P S' → Wp g S' Q) : Wp (sSeq f g) S Q := by
  rw [wp_seq]
  refine h1.mono fun fl S' h => ?_
  obtain ⟨rfl, h⟩ := h
  exact h2 S' h
@[simp] theorem wp_sAsgL {S : Sx} {n : Nat} {f : Mx D} {tg : List D → Sx → Option Sx} {Q : Fl → Sx → Prop} : Wp (sAsgL f n tg) S Q ↔ Wp f S fun d S1 => d.isCr = false ∧ ∃ l, frzC d = some l ∧ l.length = n ∧ Wg (tg l S1) (Q .nx) := by
  unfold sAsgL
  refine wp_bind.trans ?_
  have e : ∀ (d : D) (S1 : Sx), Wp (fun S => if d.isCr = true then none else match frzC d with
    | some l => if l.length = n then match tg l S with
      | some S1 => some (Fl.nx, S1)
      | none => none else none
    | none => none) S1 Q ↔ d.isCr = false ∧ ∃ l, frzC d = some l ∧ l.length = n ∧ Wg (tg l S1) (Q .nx) := fun d S1 => by
    unfold Wp Wg
    cases h1 : d.isCr with
    | true => simp
    | false =>
      cases h2 : frzC d with
      | none => simp
      | some l =>
        by_cases h3 : l.length = n
        · cases h4 : tg l S1 <;> simp [h3, h4]
        · simp [h3]
  exact ⟨fun h => h.mono fun d S1 q => (e d S1).mp q, fun h => h.mono fun d S1 q => (e d S1).mpr q⟩
@[simp] theorem wg_sub {S : Sx} {fo fi : Mx D} {d : D} {Q : Sx → Prop} : Wg (gtSub fo fi d S) Q ↔ Wp fo S fun o S1 => Wp fi S1 fun i S2 => Wg (dSet o i d S2) Q := by
  unfold Wg Wp gtSub
  cases h1 : fo S with
  | none => simp
  | some p =>
    obtain ⟨o, S1⟩ := p
    cases h2 : fi S1 with
    | none => simp [h2]
    | some p => obtain ⟨i, S2⟩ := p; simp [h2]
end Ms
set_option Elab.async false
set_option linter.all false
set_option maxRecDepth 100000
set_option maxHeartbeats 1000000
/-! MsR: further rules: isinstance, is of truth values, any and all of lists, lists lent to a call, a def that calls itself. -/
namespace Ms
open PySem PySem.Spec PyProof.Rows L2
set_option autoImplicit false
/-! ### isinstance -/
inductive Ty6 where
  | nn | bl | it | st | tp | ls
  deriving DecidableEq
def Ty6.nm : Ty6 → String
  | .nn => "NoneType"
  | .bl => "bool"
  | .it => "int"
  | .st => "str"
  | .tp => "tuple"
  | .ls => "list"
def tyD : D → Ty6
  | .non => .nn
  | .bl _ => .bl
  | .int _ => .it
  | .str _ => .st
  | .tup _ => .tp
  | _ => .ls
def isT (t u : Ty6) : Bool := decide (t = u) || (decide (t = .bl) && decide (u = .it))
theorem kit6 (t u : Ty6) (hu : u ≠ .nn) : kitB t.nm u.nm = some (isT t u) := by
  cases u <;> first | exact absurd rfl hu | (cases t <;> decide +kernel)
def dIsi (u : Ty6) (d : D) : Mx D := fun S => match d with
  | .cr i => match S.env[i]? with
    | some (.cell _) => some (.bl (isT .ls u), S)
    | _ => none
  | .ob k => match S.w[k]? with
    | some (.lst _) => some (.bl (isT .ls u), S)
    | _ => none
  | d => some (.bl (isT (tyD d) u), S)
section
variable {K : PySem.W.Frag} {P : Ph} {S : Sx} {σ : Sg} {H : Hp}
theorem tyx_lst {a : Addr} {vs : List V} (h : SqL K H a vs) : TyX K H (.ref a) (.type "list") := by
  rcases h with (h | ⟨o, h⟩) | ⟨o, its, n, h1, h2, _⟩
  · exact .base (.lst h)
  · exact .base (.frz h)
  · exact .kList h1 h2
theorem tyx_tup {a : Addr} {vs : List V} (h : SqT K H a vs) : TyX K H (.ref a) (.type "tuple") := by
  rcases h with (h | ⟨o, h⟩) | ⟨o, its, n, h1, h2, _⟩
  · exact .base (.tup h)
  · exact .fTuple h
  · exact .kTuple h1 h2
theorem tyx_sound (r : RepS K P S σ H) {v : V} {d e : D} {u : Ty6} {S' : Sx} (rv : RepR K P σ v d) (h : dIsi u d S = some (e, S')) : S' = S ∧ ∃ t : Ty6, TyX K H v (.type t.nm) ∧ e = .bl (isT t u) := by
  cases d with
  | non => cases h; cases rv; exact ⟨rfl, .nn, .base .non, rfl⟩
  | bl b => cases h; cases rv; exact ⟨rfl, .bl, .base (.bl _), rfl⟩
  | int b => cases h; cases rv; exact ⟨rfl, .it, .base (.int _), rfl⟩
  | str b => cases h; cases rv; exact ⟨rfl, .st, .base (.str _), rfl⟩
  | tup l =>
    cases h
    obtain ⟨a, vs, rfl, h1, _⟩ := tup_sound r rv
    exact ⟨rfl, .tp, tyx_tup h1, rfl⟩
  | lst l =>
    cases h
    obtain ⟨a, vs, rfl, h1, _⟩ := lstR_sound (d := .lst l) r rv rfl
    exact ⟨rfl, .ls, tyx_lst h1, rfl⟩
  | rd l =>
    cases h
    obtain ⟨a, vs, rfl, h1, _⟩ := lstR_sound (d := .rd l) r rv rfl
    exact ⟨rfl, .ls, tyx_lst h1, rfl⟩
  | cr i =>
    simp only [dIsi] at h
    split at h
    · rename_i l e
      cases h
      obtain ⟨a, vs, rfl, h1, _⟩ := lstR_sound (d := .cr i) (l := l) r rv (by simp [lstR, lstC, e])
      exact ⟨rfl, .ls, tyx_lst h1, rfl⟩
    · cases h
  | ob i =>
    simp only [dIsi] at h
    split at h
    · rename_i l e
      cases h
      obtain ⟨a, vs, rfl, h1, _⟩ := lstR_sound (d := .ob i) (l := l) r rv (by simp [lstR, lstC, e])
      exact ⟨rfl, .ls, tyx_lst h1, rfl⟩
    · cases h
theorem sem_isi {te : TE} {fe : Mx D} {u : Ty6} (hu : u ≠ .nn) (h : SemE K te fe) : SemE K (tCB (rIsi K) (tCons te (tCons (tC (.ty u.nm)) tNil))) (e1 (dIsi u) fe) := by
  intro S S' σ H P d r0 hf Q q
  obtain ⟨dx, S1, h1, hf⟩ := mbind_some hf
  refine h S S1 σ H P dx r0 h1 _ fun v H1 P1 le1 r1 rv => ?_
  obtain ⟨rfl, t, ty, rfl⟩ := tyx_sound r1 rv hf
  exact ⟨v, .ty u.nm, _, _, isT t u, rfl, .ty _, ty, kit_ty (kit6 t u hu), q.now le1 r1 (Rep.toR (.bl _))⟩
/-! ### is of truth values -/
def dIsB (neg : Bool) (x y : D) : Mx D := fun S => match x, y with
  | .bl a, .bl b => some (.bl (if neg then !decide (a = b) else decide (a = b)), S)
  | _, _ => none
theorem opd_isB : OpD K rIsB (dIsB false) := by
  intro S S' σ H P x y dx dy d r rx ry hf Q q
  unfold dIsB at hf
  split at hf
  · cases hf
    cases rx
    cases ry
    exact ⟨_, _, rfl, rfl, q.now (Ph.Le.refl P) r (Rep.toR (.bl _))⟩
  · cases hf
theorem opd_isntB : OpD K (fun x y H Q => ∃ a b, x = .bl a ∧ y = .bl b ∧ Q (.bl (!decide (a = b))) H) (dIsB true) := by
  intro S S' σ H P x y dx dy d r rx ry hf Q q
  unfold dIsB at hf
  split at hf
  · cases hf
    cases rx
    cases ry
    exact ⟨_, _, rfl, rfl, q.now (Ph.Le.refl P) r (Rep.toR (.bl _))⟩
  · cases hf
/-! ### any, all -/
def blsOf : List D → Option (List Bool)
  | [] => some []
  | .bl b :: ds => match blsOf ds with
    | some bs => some (b :: bs)
    | none => none
  | _ :: _ => none
theorem blsOf_sound : ∀ {ds : List D} {bs : List Bool} {vs : List V}, blsOf ds = some bs → RepL K P vs ds → vs = bs.map V.bl
  | [], bs, vs, h, r => by cases h; cases r; rfl
  | d :: ds, bs, vs, h, r => by
    cases d with
    | bl b =>
      simp only [blsOf] at h
      split at h
      · rename_i bs' e
        cases h
        cases r with
        | cons r1 r2 =>
          cases r1
          rw [blsOf_sound e r2]
          rfl
      · cases h
    | _ => cases h
def gAny (all : Bool) (ds : List D) : Mx D := fun S => match ds with
  | [d] => match lstR S d with
    | some l => match blsOf l with
      | some bs => some (.bl (if all then bs.all id else bs.any id), S)
      | none => none
    | none => none
  | _ => none
theorem calld_any : CallD K (rAny K) (gAny false) := by
  intro S S' σ H P xs ds d r rx hf Q q
  unfold gAny at hf
  split at hf
  · split at hf
    · rename_i l e
      split at hf
      · rename_i bs e2
        cases hf
        cases rx with
        | cons r1 r2 =>
          cases r2
          obtain ⟨a, vs, rfl, h1, h2⟩ := lstR_sound r r1 e
          rw [blsOf_sound e2 h2] at h1
          exact ⟨a, bs, rfl, h1, q.now (Ph.Le.refl P) r (Rep.toR (.bl _))⟩
      · cases hf
    · cases hf
  · cases hf
theorem calld_all : CallD K (rAll K) (gAny true) := by
  intro S S' σ H P xs ds d r rx hf Q q
  unfold gAny at hf
  split at hf
  · split at hf
    · rename_i l e
      split at hf
      · rename_i bs e2
        cases hf
        cases rx with
        | cons r1 r2 =>
          cases r2
          obtain ⟨a, vs, rfl, h1, h2⟩ := lstR_sound r r1 e
          rw [blsOf_sound e2 h2] at h1
          exact ⟨a, bs, rfl, h1, q.now (Ph.Le.refl P) r (Rep.toR (.bl _))⟩
      · cases hf
    · cases hf
  · cases hf
end
/-! ### a list of the frame is lent to a call: it is only read there -/
mutual
def flatD : D → Bool
  | .tup l => flatL l
  | .lst _ => false
  | .rd _ => false
  | .cr _ => false
  | _ => true
def flatL : List D → Bool
  | [] => true
  | d :: ds => flatD d && flatL ds
end
def flatW : List Wo → Bool
  | [] => true
  | .lst l :: ws => flatL l && flatW ws
theorem flatW_get : ∀ {W : List Wo} {k : Nat} {l : List D}, flatW W = true → W[k]? = some (.lst l) → flatL l = true
  | [], k, l, h, e => by simp at e
  | .lst m :: W, 0, l, h, e => by
    simp only [flatW, Bool.and_eq_true] at h
    simp at e
    subst e
    exact h.1
  | .lst m :: W, k + 1, l, h, e => by
    simp only [flatW, Bool.and_eq_true] at h
    exact flatW_get (k := k) h.2 (by simpa using e)
def lendL (S : Sx) : List D → Option (List D)
  | [] => some []
  | d :: ds => match (match d with
      | .cr i => (match S.env[i]? with
        | some (.cell l) => some (.lst l)
        | _ => none)
      | d => some d), lendL S ds with
    | some e, some es => some (e :: es)
    | _, _ => none
section
variable {K : PySem.W.Frag} {P P1 : Ph} {S : Sx} {σ : Sg} {H H1 : Hp}
mutual
theorem Rep.flat {P2 : Ph} (ht : ∀ a vs, SqT K P1.hb a vs → SqT K P2.hb a vs) (hw : P2.wa = P1.wa) : ∀ {v : V} {d : D}, Rep K P1 v d → flatD d = true → Rep K P2 v d
  | _, _, .non, _ => .non
  | _, _, .bl b, _ => .bl b
  | _, _, .int i, _ => .int i
  | _, _, .str x, _ => .str x
  | _, _, .tup h r, f => .tup (ht _ _ h) (RepL.flat ht hw r (by rw [flatD] at f; exact f))
  | _, _, .lst h r, f => absurd f (by rw [flatD]; decide)
  | _, _, .rd h r, f => absurd f (by rw [flatD]; decide)
  | _, _, .ob h, _ => .ob (by rw [hw]; exact h)
theorem RepL.flat {P2 : Ph} (ht : ∀ a vs, SqT K P1.hb a vs → SqT K P2.hb a vs) (hw : P2.wa = P1.wa) : ∀ {vs : List V} {ds : List D}, RepL K P1 vs ds → flatL ds = true → RepL K P2 vs ds
  | _, _, .nil, _ => .nil
  | _, _, .cons r t, f => by
    simp only [flatL, Bool.and_eq_true] at f
    exact .cons (Rep.flat ht hw r f.1) (RepL.flat ht hw t f.2)
end
noncomputable def lendH (S : Sx) (σ : Sg) (H hb : Hp) : Hp := fun a => @ite _ (CellAt S σ a) (Classical.propDecidable _) (H a) (hb a)
theorem lendH_cell {hb : Hp} {a : Addr} (c : CellAt S σ a) : lendH S σ H hb a = H a := by unfold lendH; exact @if_pos _ (Classical.propDecidable _) c _ _ _
theorem lendH_no {hb : Hp} {a : Addr} (c : ¬ CellAt S σ a) : lendH S σ H hb a = hb a := by unfold lendH; exact @if_neg _ (Classical.propDecidable _) c _ _ _
theorem RepS.cell_hb (r : RepS K P S σ H) {a : Addr} (c : CellAt S σ a) : P.hb a = none ∧ ¬ MutW P S.w a ∧ ∃ vs, H a = some (.lst vs) := by
  obtain ⟨i, l, h1, h2⟩ := c
  obtain ⟨b, vs, g1, g2, g3, g4, g5, g7⟩ := r.sl i _ h1
  rw [h2] at g1; cases g1
  exact ⟨g4, g7, vs, g2⟩
theorem RepS.lend_le (r : RepS K P S σ H) : Same P.hb (lendH S σ H P.hb) := fun a o h => by
  by_cases c : CellAt S σ a
  · rw [(r.cell_hb c).1] at h; cases h
  · rw [lendH_no c]; exact h
mutual
theorem Rep.hbmono {P2 : Ph} (hs : Same P1.hb P2.hb) (hw : P2.wa = P1.wa) : ∀ {v : V} {d : D}, Rep K P1 v d → Rep K P2 v d
  | _, _, .non => .non
  | _, _, .bl b => .bl b
  | _, _, .int i => .int i
  | _, _, .str x => .str x
  | _, _, .tup h r => .tup (sameT hs h) (RepL.hbmono hs hw r)
  | _, _, .lst h r => .lst (hs _ _ h) (RepL.hbmono hs hw r)
  | _, _, .rd h r => .rd (hs.seq h) (RepL.hbmono hs hw r)
  | _, _, .ob h => .ob (by rw [hw]; exact h)
theorem RepL.hbmono {P2 : Ph} (hs : Same P1.hb P2.hb) (hw : P2.wa = P1.wa) : ∀ {vs : List V} {ds : List D}, RepL K P1 vs ds → RepL K P2 vs ds
  | _, _, .nil => .nil
  | _, _, .cons r t => .cons (Rep.hbmono hs hw r) (RepL.hbmono hs hw t)
end
noncomputable def Ph.lent (P : Ph) (S : Sx) (σ : Sg) (H : Hp) : Ph := ⟨lendH S σ H P.hb, P.wa, H, MutW P S.w⟩
theorem RepS.lent1 (r : RepS K P S σ H) {v : V} {d : D} (h : Rep K P v d) : Rep K (P.lent S σ H) v d := Rep.hbmono (P1 := P) (P2 := P.lent S σ H) r.lend_le rfl h
theorem RepS.lentL (r : RepS K P S σ H) {v : List V} {d : List D} (h : RepL K P v d) : RepL K (P.lent S σ H) v d := RepL.hbmono (P1 := P) (P2 := P.lent S σ H) r.lend_le rfl h
theorem RepS.lent (r : RepS K P S σ H) : RepW K (P.lent S σ H) S.w H where
  same := fun a o h => by
    by_cases c : CellAt S σ a
    · have h' : lendH S σ H P.hb a = some o := h
      rwa [lendH_cell c] at h'
    · have h' : lendH S σ H P.hb a = some o := h
      rw [lendH_no c] at h'
      exact r.w.same a o h'
  len := r.w.len
  wo := fun k a o h1 h2 => by
    have q := r.w.wo k a o h1 h2
    cases o with
    | lst l => obtain ⟨vs, q1, q2⟩ := q; exact ⟨vs, q1, r.lentL q2⟩
  dis := r.w.dis
  nhb := fun a m => by
    have nc : ¬ CellAt S σ a := fun c => (r.cell_hb c).2.1 m
    show lendH S σ H P.hb a = none
    rw [lendH_no nc]
    exact r.w.nhb a m
  frame := fun a o h _ => h
  live := fun a ⟨k, l, h1, h2⟩ => by
    obtain ⟨vs, q, _⟩ := r.w.wo k a _ h1 h2
    rw [q]; simp
  wfree := fun a m => .inl m
theorem RepS.lend_args (r : RepS K P S σ H) : ∀ {vs : List V} {ds es : List D}, RepRL K P σ vs ds → lendL S ds = some es → plainL es = true → RepL K (P.lent S σ H) vs es
  | _, [], es, rl, h, _ => by cases rl; cases h; exact .nil
  | _, d :: ds, es, rl, h, hp => by
    cases rl with
    | cons r1 r2 =>
      simp only [lendL] at h
      split at h
      · rename_i e es' h1 h2
        cases h
        simp only [plainL, Bool.and_eq_true, Bool.not_eq_true'] at hp
        refine .cons ?_ (r.lend_args r2 h2 hp.2)
        cases d with
        | cr i =>
          simp only at h1
          split at h1
          · rename_i l he
            cases h1
            obtain ⟨a, ws, g1, g2, g3, g4, g5, g7⟩ := r.sl i _ he
            have hv : σ[i]? = some (some _) := r1
            rw [g1] at hv
            cases hv
            refine .lst ?_ (r.lentL g3)
            show lendH S σ H P.hb a = _
            rw [lendH_cell ⟨i, l, he, g1⟩]
            exact g2
          · cases h1
        | _ => cases h1; exact r.lent1 r1
      · cases h
noncomputable def Ph.thaw (P P1 : Ph) (S : Sx) (σ : Sg) : Ph := ⟨lendH S σ (fun _ => none) P1.hb, P1.wa, P.h0, P.m0⟩
theorem RepS.thaw (r : RepS K P S σ H) {W' : List Wo} (le : (P.lent S σ H).Le P1) (r1 : RepW K P1 W' H1) (fw : flatW W' = true) :
    P.Le (P.thaw P1 S σ) ∧ RepS K (P.thaw P1 S σ) { S with w := W' } σ H1 ∧ ∀ v d, Rep K P1 v d → flatD d = true → Rep K (P.thaw P1 S σ) v d := by
  have eh : P1.h0 = H := le.h0
  have em : P1.m0 = MutW P S.w := le.m0
  have fr : ∀ {a : Addr}, P1.h0 a = none ∨ P1.m0 a → P.h0 a = none ∨ P.m0 a := fun {a} h => by
    rw [eh, em] at h
    rcases h with h | h
    · exact .inl (r.w.h0_none h)
    · exact (r.w.wfree a h).symm
  have atc : ∀ a, CellAt S σ a → (P.thaw P1 S σ).hb a = none := fun a c => lendH_cell (H := fun _ => none) (hb := P1.hb) c
  have nc : ∀ a, ¬ CellAt S σ a → (P.thaw P1 S σ).hb a = P1.hb a := fun a c => lendH_no (H := fun _ => none) (hb := P1.hb) c
  have ht : ∀ a vs, SqT K P1.hb a vs → SqT K (P.thaw P1 S σ).hb a vs := fun a vs h => by
    by_cases c : CellAt S σ a
    · obtain ⟨_, _, ws, hw⟩ := r.cell_hb c
      have h1 : P1.hb a = some (.lst ws) := le.hb a _ (by show lendH S σ H P.hb a = _; rw [lendH_cell c]; exact hw)
      rcases h with (h | ⟨o, h⟩) | h
      · rw [h1] at h; cases h
      · rw [h1] at h; cases h
      · exact .inr h
    · rcases h with (h | ⟨o, h⟩) | h
      · exact .inl (.inl (by rw [nc a c]; exact h))
      · exact .inl (.inr ⟨o, by rw [nc a c]; exact h⟩)
      · exact .inr h
  have le2 : P.Le (P.thaw P1 S σ) := by
    refine ⟨fun a o h => ?_, fun a h h' => ?_, le.wa, rfl, rfl⟩
    · have c : ¬ CellAt S σ a := fun c => by rw [(r.cell_hb c).1] at h; cases h
      rw [nc a c]
      exact le.hb a o (by show lendH S σ H P.hb a = _; rw [lendH_no c]; exact h)
    · have c : ¬ CellAt S σ a := fun c => h' (atc a c)
      rw [nc a c] at h'
      have := le.new a (by show lendH S σ H P.hb a = _; rw [lendH_no c]; exact h) h'
      exact fr (by rw [eh, em]; exact this)
  refine ⟨le2, ⟨?_, r.len, fun i s h => ?_, r.dis⟩, fun v d rv fd => rv.flat ht rfl fd⟩
  · exact {
      same := fun a o h => by
        have c : ¬ CellAt S σ a := fun c => by rw [atc a c] at h; cases h
        rw [nc a c] at h
        exact r1.same a o h
      len := r1.len
      wo := fun k a o h1 h2 => by
        have q := r1.wo k a o h1 h2
        cases o with
        | lst l => obtain ⟨vs, q1, q2⟩ := q; exact ⟨vs, q1, q2.flat ht rfl (flatW_get fw h2)⟩
      dis := r1.dis
      nhb := fun a m => by
        by_cases c : CellAt S σ a
        · exact atc a c
        · rw [nc a c]; exact r1.nhb a m
      frame := fun a o h m => by
        refine r1.frame a o (by rw [eh]; exact r.w.frame a o h m) fun q => ?_
        rw [em] at q
        rcases r.w.wfree a q with z | z
        · exact m z
        · have h' : P.h0 a = some o := h
          rw [z] at h'; cases h'
      live := fun a m => by
        by_cases q : P1.m0 a
        · exact r1.live a q
        · have hl := r.w.live a m
          cases z : H a with
          | none => exact absurd z hl
          | some o => rw [r1.frame a o (by rw [eh]; exact z) q]; simp
      wfree := fun a m => (fr (r1.wfree a m).symm).symm }
  · have q := r.sl i s h
    cases s with
    | un => trivial
    | val d => obtain ⟨v, h1, h2⟩ := q; exact ⟨v, h1, h2.mono le2⟩
    | cell l =>
      obtain ⟨a, vs, g1, g2, g3, g4, g5, g7⟩ := q
      have nm : ¬ P1.m0 a := by rw [em]; exact g7
      have nn : ¬ (P1.h0 a = none ∨ P1.m0 a) := fun z => by
        rcases z with z | z
        · rw [eh, g2] at z; cases z
        · exact nm z
      exact ⟨a, vs, g1, r1.frame a _ (by rw [eh]; exact g2) nm, g3.mono le2, atc a ⟨i, l, h, g1⟩, g5, fun m => nn (r1.wfree a m).symm⟩
def eCallL (F : Fn) (as : Mx (List D)) : Mx D := mbind as fun ds S => match lendL S ds with
  | some es => if plainL es = true then match F es S.w with
    | some (d, W') => if (flatD d && flatW W') = true then some (d, { S with w := W' }) else none
    | none => none else none
  | none => none
theorem lendL_len : ∀ {ds es : List D}, lendL S ds = some es → es.length = ds.length
  | [], es, h => by cases h; rfl
  | d :: ds, es, h => by
    simp only [lendL] at h
    split at h
    · rename_i e es' h1 h2
      cases h
      simp [lendL_len h2]
    · cases h
theorem sem_callL {np : Nat} {F : Fn} {E : XK} {t : TA} {f : Mx (List D)} (h : SemA K t f) (hl : ∀ S ds S', f S = some (ds, S') → ds.length = np) : SemE K (tCall (spF K np F) [] E t) (eCallL F f) := by
  intro S S' σ H P d r hf Q q
  obtain ⟨ds, S1, h1, hf⟩ := mbind_some hf
  split at hf
  · rename_i es he
    split at hf
    · rename_i hp
      split at hf
      · rename_i d' W' e
        split at hf
        · rename_i hfl
          cases hf
          rw [Bool.and_eq_true] at hfl
          refine h S S1 σ H P ds r h1 _ fun vs H1 P1 le1 r1 rx => ?_
          refine ⟨P1.lent S1 σ H1, es, S1.w, W', d, rfl, rfl, r1.lent, ?_, (lendL_len he).trans (hl _ _ _ h1), e, fun v H' P' le' r' rv => ?_⟩
          · rw [List.append_nil]; exact r1.lend_args rx he hp
          · obtain ⟨le2, r2, fl⟩ := r1.thaw le' r' hfl.2
            exact (q.later le1).now le2 r2 (Rep.toR (fl v d rv hfl.1))
        · cases hf
      · cases hf
    · cases hf
  · cases hf
end
end Ms
set_option Elab.async false
set_option linter.all false
set_option maxRecDepth 100000
set_option maxHeartbeats 1000000
/-! MsS: the rules of MsR, and what they come to -/
namespace Ms
open PySem PySem.Spec PyProof.Rows L2
set_option autoImplicit false
section
variable {X : Cx} {e : Expr} {es : List Expr} {te : TE} {fe : Mx D} {a b : Expr} {ta tb : TE} {fa fb : Mx D} {pos p p2 : Pos} {t : TA} {f : Mx (List D)}
theorem x_isi {T : Str} (u : Ty6) (hu : u ≠ .nn) (hg : Gl X "isinstance") (hm : X.mg "isinstance" = none) (hgT : Gl X T) (hmT : X.mg T = none) (hv : bootBuiltins T = some (.type u.nm)) (ha : EX X e te fe) (hn : T ≠ "__name__" := by decide) (hd : (T == ("__debug__" : Str)) = false := by decide)
    (s1 : starEach [e, .Name T p2] X.env = (false, eval e X.env) :: starEach [.Name T p2] X.env := by rfl) (s2 : starEach [.Name T p2] X.env = (false, eval (.Name T p2) X.env) :: starEach [] X.env := by rfl)
    (hpl : (backTo pos (starEach [.Name T p2] X.env)).any (·.1) = false := by rfl) :
    EX X (.Call (.Name "isinstance" p) [e, .Name T p2] [] pos) (tCB (rIsi X.K) (tCons te (tCons (tC (.ty u.nm)) tNil))) (e1 (dIsi u) fe) :=
  ⟨pe_callB call_isi hg hm PyProof.Rows.boot_isinstance (pa_cons ha.pe (pa_cons (pe_bltn hgT hmT hv (show RelV (.ty u.nm) (.type u.nm) from rfl) hn hd) pa_nil s2) s1) (by decide) (by decide) s1 hpl, sem_isi hu ha.sem⟩
theorem x_isB (ha : EX X a ta fa) (hb : EX X b tb fb) : EX X (.Compare a [.Is] [b] pos) (tOp rIsB ta tb) (e2 (dIsB false) fa fb) := x_cmp op_isBl opd_isB ha hb (nomark _)
theorem x_isntB (ha : EX X a ta fa) (hb : EX X b tb fb) : EX X (.Compare a [.IsNot] [b] pos) (tOp (fun x y H Q => ∃ a b, x = .bl a ∧ y = .bl b ∧ Q (.bl (!decide (a = b))) H) ta tb) (e2 (dIsB true) fa fb) := x_cmp op_isnot_bl opd_isntB ha hb (nomark _)
theorem c_isB (ha : EX X a ta fa) (hb : EX X b tb fb) : TX X (.Compare a [.Is] [b] pos) (tTest (tOp rIsB ta tb)) (cVal (e2 (dIsB false) fa fb)) := c_cmp op_isBl opd_isB ha hb (nomark _)
theorem c_isntB (ha : EX X a ta fa) (hb : EX X b tb fb) : TX X (.Compare a [.IsNot] [b] pos) (tTest (tOp (fun x y H Q => ∃ a b, x = .bl a ∧ y = .bl b ∧ Q (.bl (!decide (a = b))) H) ta tb)) (cVal (e2 (dIsB true) fa fb)) := c_cmp op_isnot_bl opd_isntB ha hb (nomark _)
theorem calC_none {P : Program} {w : World} {K : PySem.W.Frag} {mg : Str → Option Value} {base : Heap} {x : Str} {st : Stmt} {ps : List Str} {np j : Nat} (D : DefC K mg x st ps) : CalC P w K mg base x ps np j (fun _ _ => none) := by
  obtain ⟨f, fd, D⟩ := D.ex
  refine ⟨f, fd, ⟨fun vs H Q E h => ?_, fun A outer s H args us vs Q E hr he hb hv h => ?_⟩, D.at_, D.fu.kp, D.bi⟩
  · obtain ⟨P0, ds, W, W', d, h1, h2, h3, h4, h5, h6, q⟩ := h
    cases h6
  · obtain ⟨P0, ds, W, W', d, h1, h2, h3, h4, h5, h6, q⟩ := h
    cases h6
theorem x_calL {np k j : Nat} {F : Fn} {x : Str} {ps : List Str} (C : CalC X.prog X.w X.K X.mg X.base x ps np j F) (hr : Room k X.A) (hjk : j ≤ k) (hg : Gl X x) (ha : AX X (e :: es) t f)
    (hl : ∀ S ds S', f S = some (ds, S') → ds.length = np) (hdb : (x == ("__debug__" : Str)) = false := by decide) (he : starEach (e :: es) X.env = (false, eval e X.env) :: starEach es X.env := by rfl) (hpl : (backTo pos (starEach es X.env)).any (·.1) = false := by rfl) :
    EX X (.Call (.Name x p) (e :: es) [] pos) (tCall (spF X.K np F) [] E0 t) (eCallL F f) := by
  obtain ⟨fa, fd, C⟩ := C.ex
  exact ⟨pe_call C.fn (hr.mono hjk) hg C.at_ C.kp C.bi .nil pass0 ha.pa hdb he hpl, sem_callL ha.sem hl⟩
end
/-! ### what they come to -/
section
variable {S : Sx} {Q : D → Sx → Prop}
@[simp] theorem wp_isiT {u : Ty6} {l : List D} : Wp (dIsi u (.tup l)) S Q ↔ Q (.bl (isT .tp u)) S := by simp [Wp, dIsi, tyD]
@[simp] theorem wp_isiL {u : Ty6} {l : List D} : Wp (dIsi u (.lst l)) S Q ↔ Q (.bl (isT .ls u)) S := by simp [Wp, dIsi, tyD]
@[simp] theorem wp_isiI {u : Ty6} {i : Int} : Wp (dIsi u (.int i)) S Q ↔ Q (.bl (isT .it u)) S := by simp [Wp, dIsi, tyD]
@[simp] theorem wp_isiB {u : Ty6} {b : Bool} : Wp (dIsi u (.bl b)) S Q ↔ Q (.bl (isT .bl u)) S := by simp [Wp, dIsi, tyD]
@[simp] theorem wp_isiS {u : Ty6} {x : Str} : Wp (dIsi u (.str x)) S Q ↔ Q (.bl (isT .st u)) S := by simp [Wp, dIsi, tyD]
@[simp] theorem wp_isiN {u : Ty6} : Wp (dIsi u .non) S Q ↔ Q (.bl (isT .nn u)) S := by simp [Wp, dIsi, tyD]
@[simp] theorem wp_isB {neg : Bool} {a b : Bool} : Wp (dIsB neg (.bl a) (.bl b)) S Q ↔ Q (.bl (if neg then !decide (a = b) else decide (a = b))) S := by simp [Wp, dIsB]
theorem blsOf_map : ∀ bs : List Bool, blsOf (bs.map D.bl) = some bs
  | [] => rfl
  | b :: bs => by simp [blsOf, blsOf_map bs]
@[simp] theorem wp_any {all : Bool} {bs : List Bool} : Wp (gAny all [.lst (bs.map D.bl)]) S Q ↔ Q (.bl (if all then bs.all id else bs.any id)) S := by
  refine wp_some ?_
  simp [gAny, blsOf_map]
@[simp] theorem lendL_nil : lendL S [] = some [] := rfl
theorem wp_callL {F : Fn} {as : Mx (List D)} {Q : D → Sx → Prop} : Wp (eCallL F as) S Q ↔ Wp as S fun ds S1 => ∃ es, lendL S1 ds = some es ∧ plainL es = true ∧ WpF F es S1.w fun d W' => (flatD d = true ∧ flatW W' = true) ∧ Q d { S1 with w := W' } := by
  unfold eCallL
  refine wp_bind.trans ?_
  have e : ∀ (ds : List D) (S1 : Sx), Wp (fun S => match lendL S ds with
    | some es => if plainL es = true then match F es S.w with
      | some (d, W') => if (flatD d && flatW W') = true then some (d, { S with w := W' }) else none
      | none => none else none
    | none => none) S1 Q ↔ ∃ es, lendL S1 ds = some es ∧ plainL es = true ∧ WpF F es S1.w fun d W' => (flatD d = true ∧ flatW W' = true) ∧ Q d { S1 with w := W' } := fun ds S1 => by
    unfold Wp WpF
    cases h : lendL S1 ds with
    | none => simp [h]
    | some es =>
      cases h2 : plainL es with
      | false => simp [h, h2]
      | true =>
        cases h3 : F es S1.w with
        | none => simp [h, h2, h3]
        | some p =>
          obtain ⟨d, W'⟩ := p
          cases h4 : (flatD d && flatW W') with
          | false =>
            have h4' : ¬ (flatD d = true ∧ flatW W' = true) := by rw [← Bool.and_eq_true, h4]; decide
            simp [h, h2, h3, h4, h4']
          | true =>
            have h4' : flatD d = true ∧ flatW W' = true := by rwa [Bool.and_eq_true] at h4
            simp [h, h2, h3, h4, h4']
  exact ⟨fun h => h.mono fun d S1 q => (e d S1).mp q, fun h => h.mono fun d S1 q => (e d S1).mpr q⟩
end
end Ms
set_option Elab.async false
set_option linter.all false
set_option maxRecDepth 100000
set_option maxHeartbeats 1000000
/-! MsT: groups; rows of their things and exchanges of neighbours -/
namespace Ms
open PySem PySem.Spec PyProof.Rows L2
set_option autoImplicit false
class Gr (α : Type) where
  mu : α → α → α
  e : α
  iv : α → α
  assoc : ∀ a b c, mu (mu a b) c = mu a (mu b c)
  e_mu : ∀ a, mu e a = a
  mu_e : ∀ a, mu a e = a
  iv_mu : ∀ a, mu (iv a) a = e
  mu_iv : ∀ a, mu a (iv a) = e
namespace Gr
variable {α : Type} [Gr α]
theorem iv_l (a b : α) : mu (iv a) (mu a b) = b := by rw [← assoc, iv_mu, e_mu]
theorem mu_l (a b : α) : mu a (mu (iv a) b) = b := by rw [← assoc, mu_iv, e_mu]
theorem can {a b c : α} (h : mu a b = mu a c) : b = c := by rw [← iv_l a b, h, iv_l]
theorem iv_of {a b : α} (h : mu a b = e) : b = iv a := can (a := a) (by rw [h, mu_iv])
theorem iv_iv (a : α) : iv (iv a) = a := (iv_of (iv_mu a)).symm
theorem iv_m (a b : α) : iv (mu a b) = mu (iv b) (iv a) := (iv_of (by rw [assoc, mu_l, mu_iv])).symm
theorem iv_e : iv (e : α) = e := (iv_of (e_mu e)).symm
/-- x turned by b -/
def cj (x b : α) : α := mu (iv b) (mu x b)
end Gr
open Gr
section
variable {α : Type} [Gr α]
theorem cj_cj (x a b : α) : cj (cj x a) b = cj x (mu a b) := by simp only [cj, assoc, iv_m]
theorem cj_e (x : α) : cj x e = x := by simp only [cj, iv_e, e_mu, mu_e]
theorem cj_self (x : α) : cj x x = x := by simp only [cj, iv_l]
theorem cj_mu (x y b : α) : cj (mu x y) b = mu (cj x b) (cj y b) := by simp only [cj, assoc, mu_l]
theorem cj_iv (x b : α) : cj (iv x) b = iv (cj x b) := by simp only [cj, iv_m, iv_iv, assoc]
def cjR (row : List α) (b : α) : List α := row.map fun x => cj x b
/-- one exchange of neighbours -/
def exch (x y : α) (pos : Bool) : List α := if pos then [y, cj x y] else [cj y (iv x), x]
def ex (row : List α) (m : Int) : List α := match row.drop (m.natAbs - 1) with
  | x :: y :: rest => row.take (m.natAbs - 1) ++ exch x y (decide (0 < m)) ++ rest
  | _ => row
def exs (row : List α) (ms : List Int) : List α := ms.foldl ex row
def Fit (k : Nat) (m : Int) : Prop := 1 ≤ m.natAbs ∧ m.natAbs < k
theorem ex_at {l r : List α} {x y : α} {m : Int} (h : m.natAbs = l.length + 1) : ex (l ++ x :: y :: r) m = l ++ exch x y (decide (0 < m)) ++ r := by
  have e : m.natAbs - 1 = l.length := by omega
  unfold ex
  rw [e, List.drop_left, List.take_left]
theorem fit_split {row : List α} {m : Int} (h : Fit row.length m) : ∃ l x y r, row = l ++ x :: y :: r ∧ m.natAbs = l.length + 1 := by
  obtain ⟨h1, h2⟩ := h
  have hd : (row.drop (m.natAbs - 1)).length = row.length - (m.natAbs - 1) := List.length_drop ..
  have hl : (row.take (m.natAbs - 1)).length = m.natAbs - 1 := by rw [List.length_take]; omega
  have he := List.take_append_drop (m.natAbs - 1) row
  match hq : row.drop (m.natAbs - 1), hd with
  | [], hd => simp at hd; omega
  | [x], hd => simp at hd; omega
  | x :: y :: r, _ => exact ⟨row.take (m.natAbs - 1), x, y, r, by rw [← hq, he], by omega⟩
theorem exch_len (x y : α) (b : Bool) : (exch x y b).length = 2 := by cases b <;> rfl
theorem ex_len {row : List α} {m : Int} (h : Fit row.length m) : (ex row m).length = row.length := by
  obtain ⟨l, x, y, r, rfl, hm⟩ := fit_split h
  rw [ex_at hm]
  simp [exch_len]
  omega
theorem exs_len {row : List α} : ∀ {ms : List Int}, (∀ m ∈ ms, Fit row.length m) → (exs row ms).length = row.length := fun {ms} => by
  induction ms generalizing row with
  | nil => intro _; rfl
  | cons m ms ih =>
    intro h
    have e := ex_len (h m (List.mem_cons_self ..))
    show (exs (ex row m) ms).length = _
    rw [ih (row := ex row m) (fun k hk => by rw [e]; exact h k (List.mem_cons_of_mem _ hk)), e]
theorem exs_app (row : List α) (a b : List Int) : exs row (a ++ b) = exs (exs row a) b := List.foldl_append
/-- there and back -/
theorem ex_back {row : List α} {m : Int} (h : Fit row.length m) : ex (ex row m) (-m) = row := by
  obtain ⟨l, x, y, r, rfl, hm⟩ := fit_split h
  rw [ex_at hm]
  by_cases hp : 0 < m
  · have e1 : decide (0 < m) = true := by simp [hp]
    have e2 : decide (0 < -m) = false := by simp; omega
    rw [e1]
    simp only [exch, if_true, List.append_assoc, List.cons_append, List.nil_append]
    rw [ex_at (by omega), e2]
    simp [exch, cj, assoc, iv_l, mu_l, iv_iv, mu_iv, mu_e]
  · have e1 : decide (0 < m) = false := by simp; omega
    have e2 : decide (0 < -m) = true := by simp; omega
    rw [e1]
    simp only [exch, Bool.false_eq_true, if_false, List.append_assoc, List.cons_append, List.nil_append]
    rw [ex_at (by omega), e2]
    simp [exch, cj, assoc, iv_l, mu_l, iv_iv, iv_mu, mu_e]
theorem exs_back {row : List α} : ∀ {ms : List Int}, (∀ m ∈ ms, Fit row.length m) → exs (exs row ms) (ms.reverse.map fun m => -m) = row := fun {ms} => by
  induction ms generalizing row with
  | nil => intro _; rfl
  | cons m ms ih =>
    intro h
    have e := ex_len (h m (List.mem_cons_self ..))
    rw [List.reverse_cons, List.map_append, exs_app]
    show exs (exs (exs (ex row m) ms) _) [-m] = row
    rw [ih (row := ex row m) (fun k hk => by rw [e]; exact h k (List.mem_cons_of_mem _ hk))]
    exact ex_back (h m (List.mem_cons_self ..))
/-- all turned by one thing -/
theorem ex_cj {row : List α} {m : Int} (b : α) (h : Fit row.length m) : ex (cjR row b) m = cjR (ex row m) b := by
  obtain ⟨l, x, y, r, rfl, hm⟩ := fit_split h
  rw [ex_at hm]
  have e : cjR (l ++ x :: y :: r) b = cjR l b ++ cj x b :: cj y b :: cjR r b := by simp [cjR]
  rw [e, ex_at (by rw [hm]; simp [cjR])]
  have e2 : exch (cj x b) (cj y b) (decide (0 < m)) = cjR (exch x y (decide (0 < m))) b := by
    cases decide (0 < m) <;> simp [exch, cjR, cj, assoc, mu_l, iv_m, iv_iv]
  rw [e2]
  simp [cjR]
theorem exs_cj {row : List α} (b : α) : ∀ {ms : List Int}, (∀ m ∈ ms, Fit row.length m) → exs (cjR row b) ms = cjR (exs row ms) b := fun {ms} => by
  induction ms generalizing row with
  | nil => intro _; rfl
  | cons m ms ih =>
    intro h
    have e := ex_len (h m (List.mem_cons_self ..))
    show exs (ex (cjR row b) m) ms = _
    rw [ex_cj b (h m (List.mem_cons_self ..)), ih (row := ex row m) (fun k hk => by rw [e]; exact h k (List.mem_cons_of_mem _ hk))]
    rfl
/-- neighbours, three by three -/
theorem ex_three {row : List α} {i : Nat} (h0 : 1 ≤ i) (h : i + 1 < row.length) : exs row [(i : Int), (i : Int) + 1, (i : Int)] = exs row [(i : Int) + 1, (i : Int), (i : Int) + 1] := by
  obtain ⟨l, x, y, r, rfl, hm⟩ := fit_split (row := row) (m := (i : Int)) ⟨by simp; omega, by simp; omega⟩
  cases r with
  | nil => simp at hm h; omega
  | cons z r =>
    have hi : i = l.length + 1 := by simpa using hm
    have a1 : ∀ (x y : α) (r : List α), ex (l ++ x :: y :: r) (i : Int) = l ++ y :: cj x y :: r := fun x y r => by
      rw [ex_at (by simpa using hi)]
      have : decide ((0 : Int) < (i : Int)) = true := decide_eq_true (by omega)
      rw [this]
      simp [exch]
    have a2 : ∀ (w x y : α) (r : List α), ex (l ++ w :: x :: y :: r) ((i : Int) + 1) = l ++ w :: y :: cj x y :: r := fun w x y r => by
      have e : l ++ w :: x :: y :: r = (l ++ [w]) ++ x :: y :: r := by simp
      rw [e, ex_at (by simp; omega)]
      have : decide ((0 : Int) < (i : Int) + 1) = true := decide_eq_true (by omega)
      rw [this]
      simp [exch]
    show ex (ex (ex _ _) _) _ = ex (ex (ex _ _) _) _
    rw [a1, a2, a1, a2, a1, a2]
    simp [cj, assoc, iv_m, mu_l, iv_l, iv_iv]
/-- .. far ones in any order -/
theorem ex_far {row : List α} {i j : Nat} (h0 : 1 ≤ i) (hij : i + 1 < j) (h : j < row.length) : exs row [(i : Int), (j : Int)] = exs row [(j : Int), (i : Int)] := by
  obtain ⟨l, x, y, r, rfl, hm⟩ := fit_split (row := row) (m := (i : Int)) ⟨by simp; omega, by simp; omega⟩
  have hi : i = l.length + 1 := by simpa using hm
  obtain ⟨l2, z, w, r2, rfl, hm2⟩ := fit_split (row := r) (m := ((j - i - 1 : Nat) : Int)) ⟨by simp; omega, by simp at h ⊢; omega⟩
  have hj : j - i - 1 = l2.length + 1 := by simpa using hm2
  have a1 : ∀ (x y : α) (r : List α), ex (l ++ x :: y :: r) (i : Int) = l ++ y :: cj x y :: r := fun x y r => by
    rw [ex_at (by simpa using hi)]
    have : decide ((0 : Int) < (i : Int)) = true := decide_eq_true (by omega)
    rw [this]
    simp [exch]
  have a2 : ∀ (x y : α), ex (l ++ x :: y :: (l2 ++ z :: w :: r2)) (j : Int) = l ++ x :: y :: (l2 ++ w :: cj z w :: r2) := fun x y => by
    have e : l ++ x :: y :: (l2 ++ z :: w :: r2) = (l ++ x :: y :: l2) ++ z :: w :: r2 := by simp
    rw [e, ex_at (by simp; omega)]
    have : decide ((0 : Int) < (j : Int)) = true := decide_eq_true (by omega)
    rw [this]
    simp [exch]
  show ex (ex _ _) _ = ex (ex _ _) _
  rw [a1, a2, a2, a1]
def prodG : List α → α
  | [] => e
  | x :: xs => mu x (prodG xs)
theorem prod_app (a b : List α) : prodG (a ++ b) = mu (prodG a) (prodG b) := by
  induction a with
  | nil => exact (e_mu _).symm
  | cons x a ih => show mu x (prodG (a ++ b)) = mu (mu x (prodG a)) (prodG b); rw [ih, assoc]
theorem prod_cj (a : List α) (b : α) : prodG (cjR a b) = cj (prodG a) b := by
  induction a with
  | nil => simp [cjR, prodG, cj, e_mu, iv_mu]
  | cons x a ih => show mu (cj x b) (prodG (cjR a b)) = cj (mu x (prodG a)) b; rw [ih, cj_mu]
/-- 1, 2, .. many - 1 -/
def upto (many : Nat) : List Int := (List.range (many - 1)).map fun (i : Nat) => ((i + 1 : Nat) : Int)
/-- from the place l on: the first goes through all -/
theorem go_through (l : List α) (g : α) : ∀ xs : List α, exs (l ++ g :: xs) ((List.range' l.length xs.length).map fun (i : Nat) => ((i + 1 : Nat) : Int)) = l ++ xs ++ [cj g (prodG xs)] := fun xs => by
  induction xs generalizing l g with
  | nil => simp [exs, prodG, cj_e]
  | cons x xs ih =>
    rw [List.length_cons, List.range'_succ, List.map_cons]
    show exs (ex (l ++ g :: x :: xs) _) _ = _
    rw [ex_at (by omega)]
    have : decide ((0 : Int) < ((l.length + 1 : Nat) : Int)) = true := decide_eq_true (by omega)
    rw [this]
    have q := ih (l ++ [x]) (cj g x)
    simp only [List.length_append, List.length_cons, List.length_nil, Nat.zero_add] at q
    simp only [exch, if_true, List.append_assoc, List.cons_append, List.nil_append] at q ⊢
    rw [q, cj_cj]
    rfl
theorem upto_eq (k : Nat) : upto (k + 1) = (List.range' 0 k).map fun (i : Nat) => ((i + 1 : Nat) : Int) := by
  unfold upto
  rw [Nat.add_sub_cancel, List.range_eq_range']
theorem around (g : α) (xs : List α) : exs (g :: xs) (upto (xs.length + 1)) = xs ++ [cj g (prodG xs)] := by
  have := go_through [] g xs
  rw [upto_eq]
  simpa using this
theorem around1 {g : α} {xs : List α} (h : prodG (g :: xs) = e) : exs (g :: xs) (upto (xs.length + 1)) = xs ++ [g] := by
  rw [around]
  have : prodG xs = iv g := iv_of h
  rw [this]
  simp [cj, iv_iv, mu_iv, mu_e]
theorem upto_fit {k : Nat} : ∀ m ∈ upto k, Fit k m := fun m hm => by
  unfold upto at hm
  rw [List.mem_map] at hm
  obtain ⟨i, hi, rfl⟩ := hm
  rw [List.mem_range] at hi
  exact ⟨by omega, by omega⟩
theorem rot_prod {g : α} {xs : List α} (h : prodG (g :: xs) = e) : prodG (xs ++ [g]) = e := by
  rw [prod_app]
  have : prodG xs = iv g := iv_of h
  rw [this]
  show mu (iv g) (mu g e) = e
  rw [mu_e, iv_mu]
/-- around so many times -/
theorem around_n : ∀ (j : Nat) {row : List α}, prodG row = e → j ≤ row.length → exs row (List.replicate j (upto row.length)).flatten = row.drop j ++ row.take j
  | 0, row, _, _ => by simp [exs]
  | j + 1, row, h, hj => by
    cases row with
    | nil => simp at hj
    | cons g xs =>
      rw [List.replicate_succ, List.flatten_cons, exs_app]
      show exs (exs (g :: xs) (upto (xs.length + 1))) _ = _
      rw [around1 h]
      have q := around_n j (row := xs ++ [g]) (rot_prod h) (by simp at hj ⊢; omega)
      simp only [List.length_append, List.length_cons, List.length_nil, Nat.zero_add] at q
      show exs (xs ++ [g]) (List.replicate j (upto (xs.length + 1))).flatten = _
      rw [q]
      simp only [List.length_cons] at hj
      rw [List.drop_append_of_le_length (by omega), List.take_append_of_le_length (by omega)]
      simp
/-- the last goes back to the front -/
theorem go_back (l : List α) (g : α) : ∀ r : List α, exs (l ++ g :: r) (((List.range l.length).map fun (i : Nat) => ((i + 1 : Nat) : Int)).reverse) = g :: (cjR l g ++ r) := by
  have : ∀ (k : Nat) (l : List α), l.length = k → ∀ r : List α, exs (l ++ g :: r) (((List.range k).map fun (i : Nat) => ((i + 1 : Nat) : Int)).reverse) = g :: (cjR l g ++ r) := by
    intro k
    induction k with
    | zero =>
      intro l hl r
      have : l = [] := List.eq_nil_of_length_eq_zero hl
      subst this
      rfl
    | succ k ih =>
      intro l hl r
      rcases List.eq_nil_or_concat l with e | ⟨l', y, e⟩
      · subst e; simp at hl
      · rw [List.concat_eq_append] at e
        subst e
        have hl' : l'.length = k := by simpa using hl
        rw [List.range_succ, List.map_append, List.reverse_append]
        show exs (ex _ ((k + 1 : Nat) : Int)) _ = _
        have e2 : l' ++ [y] ++ g :: r = l' ++ y :: g :: r := by simp
        rw [e2, ex_at (by omega)]
        have : decide ((0 : Int) < ((k + 1 : Nat) : Int)) = true := decide_eq_true (by omega)
        rw [this]
        have e3 : l' ++ exch y g true ++ r = l' ++ g :: (cj y g :: r) := by simp [exch]
        rw [e3]
        exact (ih l' hl' (cj y g :: r)).trans (by simp [cjR])
  exact this l.length l rfl
/-- around and back: all are turned by the first -/
theorem turn_pos {g : α} {xs : List α} (h : prodG (g :: xs) = e) : exs (g :: xs) (upto (xs.length + 1) ++ (upto (xs.length + 1)).reverse) = cjR (g :: xs) g := by
  rw [exs_app, around1 h]
  have := go_back xs g []
  simp only [upto, Nat.add_sub_cancel, List.append_nil] at this ⊢
  rw [this]
  simp [cjR, cj_self]
/-- the other way round -/
theorem go_neg (l : List α) (g : α) : ∀ xs : List α, exs (l ++ g :: xs) ((List.range' l.length xs.length).map fun (i : Nat) => -((i + 1 : Nat) : Int)) = l ++ cjR xs (iv g) ++ [g] := fun xs => by
  induction xs generalizing l with
  | nil => simp [exs, cjR]
  | cons x xs ih =>
    rw [List.length_cons, List.range'_succ, List.map_cons]
    show exs (ex (l ++ g :: x :: xs) _) _ = _
    rw [ex_at (by omega)]
    have : decide ((0 : Int) < -((l.length + 1 : Nat) : Int)) = false := decide_eq_false (by omega)
    rw [this]
    have q := ih (l ++ [cj x (iv g)])
    simp only [List.length_append, List.length_cons, List.length_nil, Nat.zero_add] at q
    simp only [exch, Bool.false_eq_true, if_false, List.append_assoc, List.cons_append, List.nil_append] at q ⊢
    rw [q]
    simp [cjR]
theorem turn_neg {g : α} {xs : List α} (h : prodG (g :: xs) = e) : exs (g :: xs) ((upto (xs.length + 1) ++ (upto (xs.length + 1)).reverse).map fun m => -m) = cjR (g :: xs) (iv g) := by
  rw [List.map_append, exs_app]
  have q := go_neg [] g xs
  simp only [List.nil_append, List.length_nil] at q
  have e1 : (upto (xs.length + 1)).map (fun m => -m) = (List.range' 0 xs.length).map fun (i : Nat) => -((i + 1 : Nat) : Int) := by rw [upto_eq, List.map_map]; rfl
  rw [e1, q]
  have h2 : prodG (g :: cjR xs (iv g)) = e := by
    show mu g (prodG (cjR xs (iv g))) = e
    rw [prod_cj, show prodG xs = iv g from iv_of h]
    simp [cj, iv_iv, mu_e, mu_iv, mu_l]
  have a := around1 h2
  have b := exs_back (row := g :: cjR xs (iv g)) (ms := upto (xs.length + 1)) (fun m hm => by
    have := upto_fit m hm
    simpa [cjR] using this)
  have el : (cjR xs (iv g)).length = xs.length := by simp [cjR]
  rw [el] at a
  rw [a] at b
  rw [b]
  simp [cjR, cj, iv_iv, mu_iv, mu_e]
/-- turned by the thing at place b (or what undoes it) -/
def turnMoves (many b : Nat) (pos : Bool) : List Int := (List.replicate b (upto many)).flatten ++ (if pos then upto many ++ (upto many).reverse else (upto many ++ (upto many).reverse).map fun m => -m) ++ (List.replicate (many - b) (upto many)).flatten
theorem turn_by {row : List α} (h : prodG row = e) {b : Nat} {g : α} (hg : row[b]? = some g) (pos : Bool) : exs row (turnMoves row.length b pos) = cjR row (if pos then g else iv g) := by
  have hb := (List.getElem?_eq_some_iff.mp hg).1
  unfold turnMoves
  rw [exs_app, exs_app, around_n b h (by omega)]
  have ed : row.drop b = g :: row.drop (b + 1) := by
    rw [List.drop_eq_getElem_cons hb]
    congr 1
    exact (List.getElem?_eq_some_iff.mp hg).2
  rw [ed]
  obtain ⟨xs, hxs⟩ : ∃ xs, xs = row.drop (b + 1) ++ row.take b := ⟨_, rfl⟩
  have hl : row.length = xs.length + 1 := by rw [hxs]; simp; omega
  have hp : prodG (g :: xs) = e := by
    have e1 : g :: xs = row.drop b ++ row.take b := by rw [ed, hxs]; rfl
    rw [e1, prod_app]
    have e2 : mu (prodG (row.take b)) (prodG (row.drop b)) = e := by rw [← prod_app, List.take_append_drop]; exact h
    have e3 := iv_of e2
    rw [e3, iv_mu]
  have mid : exs (g :: row.drop (b + 1) ++ row.take b) (if pos then upto row.length ++ (upto row.length).reverse else (upto row.length ++ (upto row.length).reverse).map fun m => -m) = cjR (g :: xs) (if pos then g else iv g) := by
    rw [List.cons_append, ← hxs, hl]
    cases pos with
    | true => exact turn_pos hp
    | false => exact turn_neg hp
  rw [mid]
  have hl2 : (cjR (g :: xs) (if pos then g else iv g)).length = row.length := by simp [cjR, hl]
  have hp2 : prodG (cjR (g :: xs) (if pos then g else iv g)) = e := by rw [prod_cj, hp]; simp [cj, e_mu, iv_mu]
  have fin := around_n (row.length - b) hp2 (by omega)
  rw [hl2] at fin
  rw [fin]
  have e4 : g :: xs = row.drop b ++ row.take b := by rw [ed, hxs]; rfl
  have e5 : cjR (row.drop b ++ row.take b) (if pos then g else iv g) = cjR (row.drop b) (if pos then g else iv g) ++ cjR (row.take b) (if pos then g else iv g) := by simp [cjR]
  have e6 : (cjR (row.drop b) (if pos then g else iv g)).length = row.length - b := by simp [cjR]
  rw [e4, e5, ← e6, List.drop_left, List.take_left]
  simp only [cjR, ← List.map_append, List.take_append_drop]
end
end Ms
set_option Elab.async false
set_option linter.all false
set_option maxRecDepth 100000
set_option maxHeartbeats 1000000
/-! MsU: further Wp lemmas -/
namespace Ms
open PySem PySem.Spec PyProof.Rows L2
set_option autoImplicit false
section
variable {S : Sx} {Q : D → Sx → Prop}
theorem wp_absN {i : Int} : Wp (gAbs [.int i]) S Q ↔ Q (dn i.natAbs) S := by
  rw [wp_abs]
  have : (if i < 0 then -i else i) = (i.natAbs : Int) := by split <;> omega
  rw [this]
@[simp] theorem wp_iRg2 {f g : Mx D} {Q : List D → Sx → Prop} : Wp (iRg2 f g) S Q ↔ Wp f S fun d S1 => Wp g S1 fun e S2 => ∃ i j, d = .int i ∧ e = .int j ∧ (i62 i && i62 j) = true ∧ Q (rgD i j) S2 := by
  unfold iRg2
  refine wp_bind.trans ?_
  have e : ∀ (d e : D) (S1 : Sx), Wp (fun S => match d, e with | .int i, .int j => if (i62 i && i62 j) = true then some (rgD i j, S) else none | _, _ => none) S1 Q ↔ ∃ i j, d = .int i ∧ e = .int j ∧ (i62 i && i62 j) = true ∧ Q (rgD i j) S1 := fun d e S1 => by
    cases d <;> cases e <;> simp [Wp, -i62_iff]
    rename_i i j
    cases i62 i <;> cases i62 j <;> simp
  refine ⟨fun h => h.mono fun d S1 q => ?_, fun h => h.mono fun d S1 q => ?_⟩
  · rw [wp_bind] at q; exact q.mono fun e' S2 q => (e d e' S2).mp q
  · rw [wp_bind]; exact q.mono fun e' S2 q => (e d e' S2).mpr q
@[simp] theorem wp_chain {g g' : D → D → Mx D} {fa fb fc : Mx D} : Wp (eChain g g' fa fb fc) S Q ↔ Wp fa S fun x S1 => Wp fb S1 fun y S2 => Wp (cVal (g x y)) S2 fun k S3 => (k = true → Wp fc S3 fun z S4 => Wp (g' y z) S4 Q) ∧ (k = false → Q (.bl false) S3) := by
  unfold eChain
  simp only [wp_bind, wp_ite, wp_ret]
@[simp] theorem wp_iRv {f : Mx D} {Q : List D → Sx → Prop} : Wp (iRv f) S Q ↔ Wp f S fun d S1 => ∃ l, frzC d = some l ∧ Q l.reverse S1 := by
  unfold iRv
  refine wp_bind.trans ?_
  have e : ∀ (d : D) (S1 : Sx), Wp (fun S => match frzC d with | some l => some (l.reverse, S) | none => none) S1 Q ↔ ∃ l, frzC d = some l ∧ Q l.reverse S1 := fun d S1 => by
    unfold Wp
    cases h : frzC d <;> simp [h]
  exact ⟨fun h => h.mono fun d S1 q => (e d S1).mp q, fun h => h.mono fun d S1 q => (e d S1).mpr q⟩
@[simp] theorem cut_all {l : List D} : cutD l none none = l := by
  unfold cutD
  rw [HT.sIx_none, HT.sIx_none]
  simp
theorem cut_drop {l : List D} {k : Nat} : cutD l (some (k : Int)) none = l.drop k := by
  unfold cutD
  rw [HT.sIx_nat, HT.sIx_none]
  by_cases h : k ≤ l.length
  · rw [Nat.min_eq_left h, List.take_of_length_le (by rw [List.length_drop]; omega)]
  · rw [Nat.min_eq_right (by omega), List.drop_of_length_le (Nat.le_refl _), List.drop_of_length_le (by omega)]
    simp
@[simp] theorem ixN_add1 {n k j : Nat} : ixN n ((k : Int) + 1) = some j ↔ k + 1 < n ∧ k + 1 = j := ixN_cast (k := k + 1)
@[simp] theorem cut_drop1 {l : List D} : cutD l (some 1) none = l.drop 1 := cut_drop (k := 1)
@[simp] theorem cut_drop2 {l : List D} {k : Nat} : cutD l (some ((k : Int) + 2)) none = l.drop (k + 2) := cut_drop (k := k + 2)
end
end Ms
set_option Elab.async false
set_option linter.all false
set_option maxRecDepth 100000
set_option maxHeartbeats 4000000
namespace Ms.Law
open PySem PySem.Spec PyProof.Rows L2 Ms
set_option autoImplicit false
def tp (i : Nat) : Stmt := PySem.Challenge.pw_manysheets_k39_exchanges_put_together.main.body.getD i (.Pass ⟨0, 0, 0, 0⟩)
/-- what the module's names are -/
structure Txt (mg : Str → Option Value) : Prop where
  b_abs : mg "abs" = none
  b_any : mg "any" = none
  b_bool : mg "bool" = none
  b_enumerate : mg "enumerate" = none
  b_int : mg "int" = none
  b_isinstance : mg "isinstance" = none
  b_len : mg "len" = none
  b_list : mg "list" = none
  b_range : mg "range" = none
  b_reversed : mg "reversed" = none
  b_str : mg "str" = none
  b_tuple : mg "tuple" = none
abbrev s_p_inverse : Stmt := tp 1
def F_p_inverse : Fn := fnF 4 (sSeq (sNew 1 (n2 dRep (eLst (nLst (aCons (eK (.int 0)) aNil))) (eC gLen (aCons (eVar 0) aNil))))
  (sSeq (sFor (iEn (eVar 0)) (gtTup 2 (gtCons (gtName 2) (gtCons (gtName 3) gtNil)))
  (sSet (eVar 2) (eVar 1) (eVar 3)))
  (sRet (eC gTuple (aCons (eVar 1) aNil)))))
abbrev s_p_turned : Stmt := tp 2
def F_p_turned : Fn := fnF 5 (sSeq (sNew 2 (n2 dRep (eLst (nLst (aCons (eK (.int 0)) aNil))) (eC gLen (aCons (eVar 0) aNil))))
  (sSeq (sFor (iEn (eVar 0)) (gtTup 2 (gtCons (gtName 3) (gtCons (gtName 4) gtNil)))
  (sSet (e2 dIx (eVar 1) (eVar 4)) (eVar 2) (e2 dIx (eVar 1) (eVar 3))))
  (sRet (eC gTuple (aCons (eVar 2) aNil)))))
abbrev s_p_exchanged_once : Stmt := tp 4
def F_p_exchanged_once : Fn := fnF 6 (sSeq (sAsg (e2 dSub (eC gAbs (aCons (eVar 1) aNil)) (eK (.int 1))) (gtName 2))
  (sSeq (sPar2 4 5 (pVal (e2 dIx (eVar 0) (eVar 2))) (pVal (e2 dIx (eVar 0) (e2 dAdd (eVar 2) (eK (.int 1))))))
  (sSeq (sAsg (eIf (cVal (e2 dGt (eVar 1) (eK (.int 0)))) (eC mkTup (aCons (eVar 5) (aCons (eCall F_p_turned (aCons (eVar 4) (aCons (eVar 5) aNil))) aNil))) (eC mkTup (aCons (eCall F_p_turned (aCons (eVar 5) (aCons (eCall F_p_inverse (aCons (eVar 4) aNil)) aNil))) (aCons (eVar 4) aNil)))) (gtName 3))
  (sRet (e2 dAdd (e2 dAdd (eSl dSl (eVar 0) oNone (oSome (eVar 2))) (eVar 3)) (eSl dSl (eVar 0) (oSome (e2 dAdd (eVar 2) (eK (.int 2)))) oNone))))))
abbrev s_p_exchanged : Stmt := tp 5
def F_p_exchanged : Fn := fnF 3 (sSeq (sFor (iSeq (eVar 1)) (gtName 2)
  (sAsg (eCall F_p_exchanged_once (aCons (eVar 0) (aCons (eVar 2) aNil))) (gtName 0)))
  (sRet (eVar 0)))
abbrev s_p_shows_exchanged : Stmt := tp 6
def F_p_shows_exchanged : Fn := fnF 4 (sSeq (sIf (cTru (eC (gAny false) (aCons (eLst (nLC [3] (iSeq (eVar 2)) (gtName 3) cYes (eNot (eChain dLe dLt (eK (.int 1)) (eC gAbs (aCons (eVar 3) aNil)) (eC gLen (aCons (eVar 0) aNil)))))) aNil))) (sRet (eK (.bl false))) sNext)
  (sRet (e2 dEq (eCall F_p_exchanged (aCons (eVar 0) (aCons (eVar 2) aNil))) (eVar 1))))
abbrev s_p_turn_by : Stmt := tp 7
def F_p_turn_by : Fn := fnF 6 (sSeq (sAsg (eLst (nRg (gRg2 (eK (.int 1)) (eVar 0)))) (gtName 2))
  (sSeq (sAsg (e2 dAdd (eVar 2) (eLst (n1 dRev (eVar 2)))) (gtName 3))
  (sSeq (sIf (cVal (e2 dLt (eVar 1) (eK (.int 0)))) (sAsg (eLst (nLC [5] (iSeq (eVar 3)) (gtName 5) cYes (e1 uNeg (eVar 5)))) (gtName 3)) sNext)
  (sSeq (sAsg (e2 dSub (eC gAbs (aCons (eVar 1) aNil)) (eK (.int 1))) (gtName 4))
  (sRet (e2 dAdd (e2 dAdd (eLst (n2 dRep (eVar 2) (eVar 4))) (eVar 3)) (eLst (n2 dRep (eVar 2) (e2 dSub (eVar 0) (eVar 4))))))))))
abbrev s_p_turning_moves : Stmt := tp 8
def F_p_turning_moves : Fn := fnF 4 (sSeq (sAsg (eLst (nLst aNil)) (gtName 2))
  (sSeq (sFor (iRv (eVar 1)) (gtName 3)
  (sAsg (e2 dAdd (eVar 2) (eCall F_p_turn_by (aCons (eC gLen (aCons (eVar 0) aNil)) (aCons (eVar 3) aNil)))) (gtName 2)))
  (sRet (eVar 2))))
abbrev s_law_state : Stmt := tp 10
def F_law_state : Fn := fnF 3 (sSeq (sAsg (eK (.int 7)) (gtName 1))
  (sSeq (sFor (iSeq (eVar 0)) (gtName 2)
  (sAsg (e2 dMod (eC gInt (aCons (e2 dAdd (e2 dMulI (eVar 1) (eK (.int 31))) (eVar 2)) aNil)) (eK (.int 1000003))) (gtName 1)))
  (sRet (eOb (nLst (aCons (eOb (nLC [2] (iSeq (eVar 0)) (gtName 2) cYes (eC gAbs (aCons (eVar 2) aNil)))) (aCons (e2 dAdd (eVar 1) (eK (.int 1))) aNil)))))))
abbrev s_law_draw : Stmt := tp 11
def F_law_draw : Fn := fnF 5 (sSeq (sAsg (e2 dIx (eVar 0) (eK (.int 0))) (gtName 2))
  (sSeq (sWhile (fun _ => 1000000) (cAnd (cVal (e2 dGt (eC gLen (aCons (eVar 2) aNil)) (eK (.int 0)))) (cVal (e2 dEq (e2 dIx (eVar 2) (eK (.int 0))) (eK (.int 0)))))
  (sExpr (eM mPop (eVar 2) (aCons (eK (.int 0)) aNil))))
  (sSeq (sIf (cVal (e2 dGt (eC gLen (aCons (eVar 2) aNil)) (eK (.int 0)))) (sSeq (sAsg (e2 dIx (eVar 2) (eK (.int 0))) (gtName 4))
  (sSeq (sSet (e2 dDiv (eVar 4) (eVar 1)) (eVar 2) (eK (.int 0)))
  (sRet (e2 dMod (eC gInt (aCons (eVar 4) aNil)) (eVar 1))))) sNext)
  (sSeq (sAsg (e2 dMod (eC gInt (aCons (e2 dAdd (e2 dMulI (e2 dIx (eVar 0) (eK (.int 1))) (eK (.int 48271))) (eK (.int 12345))) aNil)) (eK (.int 2147483647))) (gtName 3))
  (sSeq (sSet (eVar 3) (eVar 0) (eK (.int 1)))
  (sRet (e2 dMod (eC gInt (aCons (e2 dDiv (eVar 3) (eK (.int 64))) aNil)) (eVar 1))))))))
abbrev s_law_pick : Stmt := tp 12
def F_law_pick : Fn := fnF 2 (sRet (e2 dIx (eVar 1) (eCall F_law_draw (aCons (eVar 0) (aCons (eC gLen (aCons (eVar 1) aNil)) aNil)))))
abbrev s_law_eq : Stmt := tp 13
def F_law_eq : Nat → Fn
  | 0 => fun _ _ => none
  | d + 1 => fnF 3 (sSeq (sIf (cOr (cTru (e1 (dIsi .ls) (eVar 1))) (cTru (e1 (dIsi .tp) (eVar 1)))) (sSeq (sIf (cOr (cVal (e2 dNe (e1 (dIsi .ls) (eVar 0)) (e1 (dIsi .ls) (eVar 1)))) (cVal (e2 dNe (e1 (dIsi .tp) (eVar 0)) (e1 (dIsi .tp) (eVar 1))))) (sRet (eK (.bl false))) sNext)
  (sSeq (sIf (cVal (e2 dNe (eC gLen (aCons (eVar 0) aNil)) (eC gLen (aCons (eVar 1) aNil)))) (sRet (eK (.bl false))) sNext)
  (sRet (e2 dEq (eLst (nLC [2] (iRg1 (eC gLen (aCons (eVar 1) aNil))) (gtName 2) (cNot (cTru (eCall (F_law_eq d) (aCons (e2 dIx (eVar 0) (eVar 2)) (aCons (e2 dIx (eVar 1) (eVar 2)) aNil))))) (eVar 2))) (eLst (nLst aNil)))))) sNext)
  (sSeq (sIf (cVal (e2 dIs (eVar 1) (eK .non))) (sRet (e2 dIs (eVar 0) (eK .non))) sNext)
  (sSeq (sIf (cTru (e1 (dIsi .st) (eVar 1))) (sRet (eAnd (e1 (dIsi .st) (eVar 0)) (e2 dEq (eVar 0) (eVar 1)))) sNext)
  (sSeq (sIf (cTru (e1 (dIsi .bl) (eVar 1))) (sRet (eAnd (e1 (dIsi .bl) (eVar 0)) (e2 dEq (eVar 0) (eVar 1)))) sNext)
  (sRet (eAnd (e1 (dIsi .it) (eVar 0)) (eAnd (eNot (e1 (dIsi .bl) (eVar 0))) (e2 dEq (eVar 0) (eVar 1)))))))))
abbrev s_law_mixed : Stmt := tp 14
def F_law_mixed : Fn := fnF 5 (sSeq (sPar2 3 4 (pNew (nC gList (aCons (eVar 1) aNil))) (pNew (nLst aNil)))
  (sSeq (sFor (iRg1 (eC gLen (aCons (eVar 1) aNil))) (gtName 2)
  (sExpr (eM mAppend (eVar 4) (aCons (eM mPop (eVar 3) (aCons (eCall F_law_draw (aCons (eVar 0) (aCons (eC gLen (aCons (eVar 3) aNil)) aNil))) aNil)) aNil))))
  (sRet (eFrz 4))))
abbrev s_law_times : Stmt := tp 15
def F_law_times : Fn := fnF 3 (sRet (eC gTuple (aCons (eLst (nLC [2] (iSeq (eVar 0)) (gtName 2) cYes (e2 dIx (eVar 1) (eVar 2)))) aNil)))
abbrev s_law_inverse : Stmt := tp 16
def F_law_inverse : Fn := fnF 3 (sSeq (sNew 1 (n2 dRep (eLst (nLst (aCons (eK (.int 0)) aNil))) (eC gLen (aCons (eVar 0) aNil))))
  (sSeq (sFor (iRg1 (eC gLen (aCons (eVar 0) aNil))) (gtName 2)
  (sSet (eVar 2) (eVar 1) (e2 dIx (eVar 0) (eVar 2))))
  (sRet (eC gTuple (aCons (eVar 1) aNil)))))
abbrev s_law_turned : Stmt := tp 17
def F_law_turned : Fn := fnF 2 (sRet (eCall F_law_times (aCons (eCall F_law_times (aCons (eCall F_law_inverse (aCons (eVar 1) aNil)) (aCons (eVar 0) aNil))) (aCons (eVar 1) aNil))))
abbrev s_law_perm : Stmt := tp 18
def F_law_perm : Fn := fnF 2 (sRet (eC gTuple (aCons (eCall F_law_mixed (aCons (eVar 0) (aCons (eLst (nRg (gRg1 (eVar 1)))) aNil))) aNil)))
abbrev s_law_product : Stmt := tp 19
def F_law_product : Fn := fnF 4 (sSeq (sAsg (eTRg (gRg1 (eVar 0))) (gtName 2))
  (sSeq (sFor (iSeq (eVar 1)) (gtName 3)
  (sAsg (eCall F_law_times (aCons (eVar 2) (aCons (eVar 3) aNil))) (gtName 2)))
  (sRet (eVar 2))))
abbrev s_law_row : Stmt := tp 20
def F_law_row : Fn := fnF 5 (sSeq (sNew 3 (nLst aNil))
  (sSeq (sFor (iRg1 (e2 dSub (eVar 2) (eK (.int 1)))) (gtName 4)
  (sExpr (eM mAppend (eVar 3) (aCons (eIf (cAnd (cVal (e2 dNe (eVar 3) (eLst (nLst aNil)))) (cVal (e2 dEq (eCall F_law_draw (aCons (eVar 0) (aCons (eK (.int 3)) aNil))) (eK (.int 0))))) (eCallL F_law_pick (aCons (eVar 0) (aCons (eVar 3) aNil))) (eCall F_law_perm (aCons (eVar 0) (aCons (eVar 1) aNil)))) aNil))))
  (sRet (eIf (cVal (e2 dGt (eVar 2) (eK (.int 0)))) (eC gTuple (aCons (e2 dAdd (eVar 3) (eLst (nLst (aCons (eCall F_law_inverse (aCons (eCallL F_law_product (aCons (eVar 1) (aCons (eVar 3) aNil))) aNil)) aNil)))) aNil)) (eC mkTup aNil)))))
abbrev s_law_exchange : Stmt := tp 21
def F_law_exchange : Fn := fnF 6 (sSeq (sNew 2 (nC gList (aCons (eVar 0) aNil)))
  (sSeq (sAsg (eC gAbs (aCons (eVar 1) aNil)) (gtName 3))
  (sSeq (sPar2 4 5 (pVal (e2 dIx (eVar 0) (e2 dSub (eVar 3) (eK (.int 1))))) (pVal (e2 dIx (eVar 0) (eVar 3))))
  (sSeq (sAsgL (eIf (cVal (e2 dGt (eVar 1) (eK (.int 0)))) (eC mkTup (aCons (eVar 5) (aCons (eCall F_law_turned (aCons (eVar 4) (aCons (eVar 5) aNil))) aNil))) (eC mkTup (aCons (eCall F_law_turned (aCons (eVar 5) (aCons (eCall F_law_inverse (aCons (eVar 4) aNil)) aNil))) (aCons (eVar 4) aNil)))) 2 (gtCons (gtSub (eVar 2) (e2 dSub (eVar 3) (eK (.int 1)))) (gtCons (gtSub (eVar 2) (eVar 3)) gtNil)))
  (sRet (eC gTuple (aCons (eVar 2) aNil)))))))
abbrev s_law_some : Stmt := tp 22
def F_law_some : Fn := fnF 4 (sRet (eIf (cVal (e2 dGt (eVar 1) (eK (.int 1)))) (eLst (nLC [3] (iRg1 (eCall F_law_draw (aCons (eVar 0) (aCons (eVar 2) aNil)))) (gtName 3) cYes (e2 dMulI (eCall F_law_pick (aCons (eVar 0) (aCons (eLst (nLst (aCons (eK (.int 1)) (aCons (e1 uNeg (eK (.int 1))) aNil)))) aNil))) (e2 dAdd (eK (.int 1)) (eCall F_law_draw (aCons (eVar 0) (aCons (e2 dSub (eVar 1) (eK (.int 1))) aNil))))))) (eLst (nLst aNil))))
abbrev s_law_way : Stmt := tp 23
def F_law_way : Fn := fnF 3 (sRet (eIf (cVal (e2 dGt (eVar 1) (eK (.int 0)))) (eLst (nLC [2] (iRg1 (eCall F_law_draw (aCons (eVar 0) (aCons (eK (.int 5)) aNil)))) (gtName 2) cYes (e2 dMulI (eCall F_law_pick (aCons (eVar 0) (aCons (eLst (nLst (aCons (eK (.int 1)) (aCons (e1 uNeg (eK (.int 1))) aNil)))) aNil))) (e2 dAdd (eK (.int 1)) (eCall F_law_draw (aCons (eVar 0) (aCons (eVar 1) aNil))))))) (eLst (nLst aNil))))
abbrev s_law_along : Stmt := tp 24
def F_law_along : Fn := fnF 4 (sRet (eCall F_law_product (aCons (eVar 1) (aCons (eLst (nLC [3] (iSeq (eVar 2)) (gtName 3) cYes (eIf (cVal (e2 dGt (eVar 3) (eK (.int 0)))) (e2 dIx (eVar 0) (e2 dSub (eVar 3) (eK (.int 1)))) (eCall F_law_inverse (aCons (e2 dIx (eVar 0) (e2 dSub (e2 dSub (eK (.int 0)) (eVar 3)) (eK (.int 1)))) aNil))))) aNil))))
abbrev s_law : Stmt := tp 25
def F_law : Fn := fnF 19 (sSeq (sAsg (eCall F_law_state (aCons (eVar 0) aNil)) (gtName 1))
  (sSeq (sFor (iRg1 (eK (.int 6))) (gtName 2)
  (sSeq (sPar2 11 12 (pVal (e2 dAdd (eK (.int 1)) (eCall F_law_draw (aCons (eVar 1) (aCons (eK (.int 9)) aNil))))) (pVal (eCall F_law_draw (aCons (eVar 1) (aCons (eK (.int 9)) aNil)))))
  (sSeq (sAsg (eCall F_law_row (aCons (eVar 1) (aCons (eVar 11) (aCons (eVar 12) aNil)))) (gtName 3))
  (sSeq (sPar2 13 14 (pVal (eCall F_law_some (aCons (eVar 1) (aCons (eVar 12) (aCons (eK (.int 8)) aNil))))) (pVal (eCall F_law_some (aCons (eVar 1) (aCons (eVar 12) (aCons (eK (.int 6)) aNil))))))
  (sSeq (sAsg (eVar 3) (gtName 4))
  (sSeq (sFor (iSeq (eVar 13)) (gtName 5)
  (sAsg (eCall F_law_exchange (aCons (eVar 4) (aCons (eVar 5) aNil))) (gtName 4)))
  (sSeq (sIf (cOr (cNot (cTru (eCall (F_law_eq 5) (aCons (eCall F_p_exchanged (aCons (eVar 3) (aCons (eLst (nC gList (aCons (eVar 13) aNil))) aNil))) (aCons (eVar 4) aNil))))) (cNot (cTru (eCall (F_law_eq 5) (aCons (eCall F_p_exchanged (aCons (eCall F_p_exchanged (aCons (eVar 3) (aCons (eVar 13) aNil))) (aCons (eC gTuple (aCons (eVar 14) aNil)) aNil))) (aCons (eCall F_p_exchanged (aCons (eVar 3) (aCons (e2 dAdd (eVar 13) (eVar 14)) aNil))) aNil)))))) (sRet (eK (.bl false))) sNext)
  (sSeq (sAsg (eLst (nLC [5] (iSeq (eLst (n1 dRev (eVar 13)))) (gtName 5) cYes (e2 dSub (eK (.int 0)) (eVar 5)))) (gtName 6))
  (sSeq (sIf (cOr (cNot (cTru (eCall (F_law_eq 5) (aCons (eCall F_p_exchanged (aCons (eVar 4) (aCons (eLst (nC gList (aCons (eVar 6) aNil))) aNil))) (aCons (eVar 3) aNil))))) (cOr (cVal (e2 (dIsB true) (eCall F_p_shows_exchanged (aCons (eVar 3) (aCons (eVar 4) (aCons (eLst (nC gList (aCons (eVar 13) aNil))) aNil)))) (eK (.bl true)))) (cVal (e2 (dIsB true) (eCall F_p_shows_exchanged (aCons (eVar 4) (aCons (eVar 3) (aCons (eC gTuple (aCons (eVar 6) aNil)) aNil)))) (eK (.bl true)))))) (sRet (eK (.bl false))) sNext)
  (sSeq (sIf (cOr (cVal (e2 (dIsB true) (eCall F_p_shows_exchanged (aCons (eVar 3) (aCons (eVar 4) (aCons (e2 dAdd (eVar 13) (eLst (nLst (aCons (eVar 12) aNil)))) aNil)))) (eK (.bl false)))) (cVal (e2 (dIsB true) (eCall F_p_shows_exchanged (aCons (eVar 3) (aCons (eVar 4) (aCons (e2 dAdd (eVar 13) (eLst (nLst (aCons (eK (.int 0)) aNil)))) aNil)))) (eK (.bl false))))) (sRet (eK (.bl false))) sNext)
  (sSeq (sAsg (eCall F_law_perm (aCons (eVar 1) (aCons (eVar 11) aNil))) (gtName 7))
  (sSeq (sIf (cNot (cTru (eCall (F_law_eq 5) (aCons (eCall F_p_exchanged (aCons (eC gTuple (aCons (eLst (nLC [18] (iSeq (eVar 3)) (gtName 18) cYes (eCall F_law_turned (aCons (eVar 18) (aCons (eVar 7) aNil))))) aNil)) (aCons (eVar 13) aNil))) (aCons (eC gTuple (aCons (eLst (nLC [18] (iSeq (eVar 4)) (gtName 18) cYes (eCall F_law_turned (aCons (eVar 18) (aCons (eVar 7) aNil))))) aNil)) aNil))))) (sRet (eK (.bl false))) sNext)
  (sSeq (sIf (cVal (e2 dGt (eVar 12) (eK (.int 2)))) (sSeq (sAsg (e2 dAdd (eK (.int 1)) (eCall F_law_draw (aCons (eVar 1) (aCons (e2 dSub (eVar 12) (eK (.int 2))) aNil)))) (gtName 5))
  (sSeq (sIf (cNot (cTru (eCall (F_law_eq 5) (aCons (eCall F_p_exchanged (aCons (eVar 3) (aCons (eLst (nLst (aCons (eVar 5) (aCons (e2 dAdd (eVar 5) (eK (.int 1))) (aCons (eVar 5) aNil))))) aNil))) (aCons (eCall F_p_exchanged (aCons (eVar 3) (aCons (eLst (nLst (aCons (e2 dAdd (eVar 5) (eK (.int 1))) (aCons (eVar 5) (aCons (e2 dAdd (eVar 5) (eK (.int 1))) aNil))))) aNil))) aNil))))) (sRet (eK (.bl false))) sNext)
  (sSeq (sAsg (e2 dAdd (eK (.int 1)) (eCall F_law_draw (aCons (eVar 1) (aCons (e2 dSub (eVar 12) (eK (.int 1))) aNil)))) (gtName 15))
  (sIf (cAnd (cVal (e2 dGt (eC gAbs (aCons (e2 dSub (eVar 5) (eVar 15)) aNil)) (eK (.int 1)))) (cNot (cTru (eCall (F_law_eq 5) (aCons (eCall F_p_exchanged (aCons (eVar 3) (aCons (eLst (nLst (aCons (eVar 5) (aCons (eVar 15) aNil)))) aNil))) (aCons (eCall F_p_exchanged (aCons (eVar 3) (aCons (eLst (nLst (aCons (eVar 15) (aCons (eVar 5) aNil)))) aNil))) aNil)))))) (sRet (eK (.bl false))) sNext)))) sNext)
  (sSeq (sIf (cAnd (cVal (e2 dGt (eVar 12) (eK (.int 0)))) (cNot (cTru (eCall (F_law_eq 5) (aCons (eCall F_p_exchanged (aCons (eVar 3) (aCons (eLst (nRg (gRg2 (eK (.int 1)) (eVar 12)))) aNil))) (aCons (e2 dAdd (eSl dSl (eVar 3) (oSome (eK (.int 1))) oNone) (eSl dSl (eVar 3) oNone (oSome (eK (.int 1))))) aNil)))))) (sRet (eK (.bl false))) sNext)
  (sSeq (sPar2 16 17 (pVal (eCall F_law_way (aCons (eVar 1) (aCons (eVar 12) aNil)))) (pVal (eCall F_law_way (aCons (eVar 1) (aCons (eVar 12) aNil)))))
  (sSeq (sAsg (eC gTuple (aCons (eLst (nLC [18] (iSeq (eVar 3)) (gtName 18) cYes (eCall F_law_turned (aCons (eVar 18) (aCons (eCall F_law_along (aCons (eVar 3) (aCons (eVar 11) (aCons (eVar 16) aNil)))) aNil))))) aNil)) (gtName 8))
  (sSeq (sAsg (eCall F_p_turning_moves (aCons (eVar 3) (aCons (eLst (nC gList (aCons (eVar 16) aNil))) aNil))) (gtName 9))
  (sSeq (sIf (cOr (cNot (cTru (eCall (F_law_eq 5) (aCons (eCall F_p_exchanged (aCons (eVar 3) (aCons (eVar 9) aNil))) (aCons (eVar 8) aNil))))) (cVal (e2 (dIsB true) (eCall F_p_shows_exchanged (aCons (eVar 3) (aCons (eVar 8) (aCons (eVar 9) aNil)))) (eK (.bl true))))) (sRet (eK (.bl false))) sNext)
  (sSeq (sAsg (eCall F_p_exchanged (aCons (eVar 3) (aCons (eCall F_p_turning_moves (aCons (eVar 3) (aCons (e2 dAdd (eVar 17) (eVar 16)) aNil))) aNil))) (gtName 10))
  (sIf (cNot (cTru (eCall (F_law_eq 5) (aCons (eCall F_p_exchanged (aCons (eVar 8) (aCons (eCall F_p_turning_moves (aCons (eVar 8) (aCons (eC gTuple (aCons (eVar 17) aNil)) aNil))) aNil))) (aCons (eVar 10) aNil))))) (sRet (eK (.bl false))) sNext))))))))))))))))))))
  (sSeq (sAsg (eC mkTup (aCons (eC mkTup (aCons (eK (.int 1)) (aCons (eK (.int 0)) (aCons (eK (.int 2)) aNil)))) (aCons (eC mkTup (aCons (eK (.int 1)) (aCons (eK (.int 0)) (aCons (eK (.int 2)) aNil)))) aNil))) (gtName 3))
  (sRet (eAnd (eCall (F_law_eq 5) (aCons (eCall F_p_exchanged (aCons (eVar 3) (aCons (eLst (nLst (aCons (eK (.int 1)) aNil))) aNil))) (aCons (eVar 3) aNil))) (eCall (F_law_eq 5) (aCons (eCall F_p_exchanged (aCons (eC mkTup (aCons (eC mkTup (aCons (eK (.int 1)) (aCons (eK (.int 2)) (aCons (eK (.int 0)) aNil)))) (aCons (eC mkTup (aCons (eK (.int 1)) (aCons (eK (.int 2)) (aCons (eK (.int 0)) aNil)))) (aCons (eC mkTup (aCons (eK (.int 1)) (aCons (eK (.int 2)) (aCons (eK (.int 0)) aNil)))) aNil)))) (aCons (eLst (nLst (aCons (eK (.int 1)) (aCons (e1 uNeg (eK (.int 2))) aNil)))) aNil))) (aCons (eC mkTup (aCons (eC mkTup (aCons (eK (.int 1)) (aCons (eK (.int 2)) (aCons (eK (.int 0)) aNil)))) (aCons (eC mkTup (aCons (eK (.int 1)) (aCons (eK (.int 2)) (aCons (eK (.int 0)) aNil)))) (aCons (eC mkTup (aCons (eK (.int 1)) (aCons (eK (.int 2)) (aCons (eK (.int 0)) aNil)))) aNil)))) aNil))))))))
section
variable {P : Program} {w : World} {K : PySem.W.Frag} {mg : Str → Option Value} {base : Heap}
theorem sc_p_inverse : FnScope ["perm", "told", "sheet", "goal"] ["perm"] (defScope s_p_inverse) := ⟨rfl, rfl, rfl, by decide +kernel, rfl, by decide +kernel, by decide +kernel⟩
theorem ok_p_inverse (T : Txt mg) (D : DefC K mg "inverse" s_p_inverse ["perm"]) : CalC P w K mg base "inverse" ["perm"] 1 1 F_p_inverse :=
  D.ok sc_p_inverse rfl rfl (by decide) fun f cdv A outer s H E hr => bx_ex (b_cons (s_new (i := 1) sc_p_inverse.nd rfl (by first | exact Or.inl rfl | exact Or.inr rfl) (n_rep (x_lst (n_lst (a_cons x_int a_nil))) (x_blt call_lenA calld_len (by rfl) T.b_len (by decide +kernel) (a_cons (x_var 0) a_nil))))
    (b_cons (s_for PassesOwn.never rfl (i_en (by rfl) T.b_enumerate (x_var 0)) (g_tup rfl (gs_cons (g_name (i := 2) sc_p_inverse.nd rfl (by first | exact Or.inl rfl | exact Or.inr rfl)) (gs_cons (g_name (i := 3) sc_p_inverse.nd rfl (by first | exact Or.inl rfl | exact Or.inr rfl)) gs_nil)))
    (b_one (s_put (x_var 2) (x_var 1) (x_var 3))))
    (b_one (s_ret (x_bty call_tuple_of calld_tuple (by rfl) T.b_tuple (by decide +kernel) (a_cons (x_var 1) a_nil))))))
theorem sc_p_turned : FnScope ["perm", "by", "told", "sheet", "goal"] ["perm", "by"] (defScope s_p_turned) := ⟨rfl, rfl, rfl, by decide +kernel, rfl, by decide +kernel, by decide +kernel⟩
theorem ok_p_turned (T : Txt mg) (D : DefC K mg "turned" s_p_turned ["perm", "by"]) : CalC P w K mg base "turned" ["perm", "by"] 2 1 F_p_turned :=
  D.ok sc_p_turned rfl rfl (by decide) fun f cdv A outer s H E hr => bx_ex (b_cons (s_new (i := 2) sc_p_turned.nd rfl (by first | exact Or.inl rfl | exact Or.inr rfl) (n_rep (x_lst (n_lst (a_cons x_int a_nil))) (x_blt call_lenA calld_len (by rfl) T.b_len (by decide +kernel) (a_cons (x_var 0) a_nil))))
    (b_cons (s_for PassesOwn.never rfl (i_en (by rfl) T.b_enumerate (x_var 0)) (g_tup rfl (gs_cons (g_name (i := 3) sc_p_turned.nd rfl (by first | exact Or.inl rfl | exact Or.inr rfl)) (gs_cons (g_name (i := 4) sc_p_turned.nd rfl (by first | exact Or.inl rfl | exact Or.inr rfl)) gs_nil)))
    (b_one (s_put (x_ix (x_var 1) (x_var 4)) (x_var 2) (x_ix (x_var 1) (x_var 3)))))
    (b_one (s_ret (x_bty call_tuple_of calld_tuple (by rfl) T.b_tuple (by decide +kernel) (a_cons (x_var 2) a_nil))))))
theorem sc_p_exchanged_once : FnScope ["row", "move", "at", "pair", "p", "q"] ["row", "move"] (defScope s_p_exchanged_once) := ⟨rfl, rfl, rfl, by decide +kernel, rfl, by decide +kernel, by decide +kernel⟩
theorem ok_p_exchanged_once (T : Txt mg) (D : DefC K mg "exchanged_once" s_p_exchanged_once ["row", "move"]) (C_p_inverse : CalC P w K mg base "inverse" ["perm"] 1 1 F_p_inverse) (C_p_turned : CalC P w K mg base "turned" ["perm", "by"] 2 1 F_p_turned) : CalC P w K mg base "exchanged_once" ["row", "move"] 2 2 F_p_exchanged_once :=
  D.ok sc_p_exchanged_once rfl rfl (by decide) fun f cdv A outer s H E hr => bx_ex (b_cons (s_set (i := 2) sc_p_exchanged_once.nd rfl (by first | exact Or.inl rfl | exact Or.inr rfl) (x_sub (x_blt call_abs calld_abs (by rfl) T.b_abs (by decide +kernel) (a_cons (x_var 1) a_nil)) x_int))
    (b_cons (s_par2 (i := 4) (j := 5) rfl sc_p_exchanged_once.nd rfl rfl (by decide) rfl rfl (p_val (x_ix (x_var 0) (x_var 2))) (p_val (x_ix (x_var 0) (x_add (x_var 2) x_int))) (by rfl))
    (b_cons (s_set (i := 3) sc_p_exchanged_once.nd rfl (by first | exact Or.inl rfl | exact Or.inr rfl) (x_if (c_gt (x_var 1) x_int) (x_tup (a_cons (x_var 5) (a_cons (x_calC C_p_turned hr (by decide) (by rfl) (a_cons (x_var 4) (a_cons (x_var 5) a_nil)) (len_acons (len_acons len_anil))) a_nil))) (x_tup (a_cons (x_calC C_p_turned hr (by decide) (by rfl) (a_cons (x_var 5) (a_cons (x_calC C_p_inverse hr (by decide) (by rfl) (a_cons (x_var 4) a_nil) (len_acons len_anil)) a_nil)) (len_acons (len_acons len_anil))) (a_cons (x_var 4) a_nil)))))
    (b_one (s_ret (x_add (x_add (x_sl (x_var 0) o_none (o_some (x_var 2))) (x_var 3)) (x_sl (x_var 0) (o_some (x_add (x_var 2) x_int)) o_none)))))))
theorem sc_p_exchanged : FnScope ["row", "moves", "move"] ["row", "moves"] (defScope s_p_exchanged) := ⟨rfl, rfl, rfl, by decide +kernel, rfl, by decide +kernel, by decide +kernel⟩
theorem ok_p_exchanged (T : Txt mg) (D : DefC K mg "exchanged" s_p_exchanged ["row", "moves"]) (C_p_exchanged_once : CalC P w K mg base "exchanged_once" ["row", "move"] 2 2 F_p_exchanged_once) : CalC P w K mg base "exchanged" ["row", "moves"] 2 3 F_p_exchanged :=
  D.ok sc_p_exchanged rfl rfl (by decide) fun f cdv A outer s H E hr => bx_ex (b_cons (s_for PassesOwn.never rfl (i_seq (x_var 1)) (g_name (i := 2) sc_p_exchanged.nd rfl (by first | exact Or.inl rfl | exact Or.inr rfl))
    (b_one (s_set (i := 0) sc_p_exchanged.nd rfl (by first | exact Or.inl rfl | exact Or.inr rfl) (x_calC C_p_exchanged_once hr (by decide) (by rfl) (a_cons (x_var 0) (a_cons (x_var 2) a_nil)) (len_acons (len_acons len_anil))))))
    (b_one (s_ret (x_var 0))))
theorem sc_p_shows_exchanged : FnScope ["one", "other", "moves", "move"] ["one", "other", "moves"] (defScope s_p_shows_exchanged) := ⟨rfl, rfl, rfl, by decide +kernel, rfl, by decide +kernel, by decide +kernel⟩
theorem ok_p_shows_exchanged (T : Txt mg) (D : DefC K mg "shows_exchanged" s_p_shows_exchanged ["one", "other", "moves"]) (C_p_exchanged : CalC P w K mg base "exchanged" ["row", "moves"] 2 3 F_p_exchanged) : CalC P w K mg base "shows_exchanged" ["one", "other", "moves"] 3 4 F_p_shows_exchanged :=
  D.ok sc_p_shows_exchanged rfl rfl (by decide) fun f cdv A outer s H E hr => bx_ex (b_cons (s_if (c_tru (x_blt (cr_any rfl) calld_any (by rfl) T.b_any (by decide +kernel) (a_cons (x_lst (n_lc rfl sc_p_shows_exchanged.nd (i_seq (x_var 2)) (blkOk_by (own := [("move", 3)]) (by kernel_rfl)) (by decide) (fun _ _ _ _ _ => (g_name (i := 3) sc_p_shows_exchanged.nd rfl (by first | exact Or.inl rfl | exact Or.inr rfl))) (fun _ _ _ _ _ => ts_nil) (fun _ _ _ _ _ => (x_not (x_chain op_le op_lt opd_le opd_lt x_int (x_blt call_abs calld_abs (by rfl) T.b_abs (by decide +kernel) (a_cons (x_var 3) a_nil)) (x_blt call_lenA calld_len (by rfl) T.b_len (by decide +kernel) (a_cons (x_var 0) a_nil))))))) a_nil))) (b_one (s_ret x_bl)) b_nil)
    (b_one (s_ret (x_eq hr (x_calC C_p_exchanged hr (by decide) (by rfl) (a_cons (x_var 0) (a_cons (x_var 2) a_nil)) (len_acons (len_acons len_anil))) (x_var 1)))))
theorem sc_p_turn_by : FnScope ["many", "letter", "around", "back", "before", "move"] ["many", "letter"] (defScope s_p_turn_by) := ⟨rfl, rfl, rfl, by decide +kernel, rfl, by decide +kernel, by decide +kernel⟩
theorem ok_p_turn_by (T : Txt mg) (D : DefC K mg "turn_by" s_p_turn_by ["many", "letter"]) : CalC P w K mg base "turn_by" ["many", "letter"] 2 1 F_p_turn_by :=
  D.ok sc_p_turn_by rfl rfl (by decide) fun f cdv A outer s H E hr => bx_ex (b_cons (s_set (i := 2) sc_p_turn_by.nd rfl (by first | exact Or.inl rfl | exact Or.inr rfl) (x_lst (n_listRg rfl (by rfl) T.b_list (r_2 (by rfl) T.b_range x_int (x_var 0)))))
    (b_cons (s_set (i := 3) sc_p_turn_by.nd rfl (by first | exact Or.inl rfl | exact Or.inr rfl) (x_add (x_var 2) (x_lst (n_rev (x_var 2)))))
    (b_cons (s_if (c_lt (x_var 1) x_int) (b_one (s_lcSet (i := 3) rfl sc_p_turn_by.nd rfl rfl (sw_true rfl rfl rfl (by decide +kernel)) (i_seq (x_var 3)) (blkOk_by (own := [("move", 5)]) (by kernel_rfl)) (by decide) (fun _ _ _ _ _ => (g_name (i := 5) sc_p_turn_by.nd rfl (by first | exact Or.inl rfl | exact Or.inr rfl))) (fun _ _ _ _ _ => ts_nil) (fun _ _ _ _ _ => (x_neg (x_var 5))))) b_nil)
    (b_cons (s_set (i := 4) sc_p_turn_by.nd rfl (by first | exact Or.inl rfl | exact Or.inr rfl) (x_sub (x_blt call_abs calld_abs (by rfl) T.b_abs (by decide +kernel) (a_cons (x_var 1) a_nil)) x_int))
    (b_one (s_ret (x_add (x_add (x_lst (n_rep (x_var 2) (x_var 4))) (x_var 3)) (x_lst (n_rep (x_var 2) (x_sub (x_var 0) (x_var 4)))))))))))
theorem sc_p_turning_moves : FnScope ["row", "way", "told", "letter"] ["row", "way"] (defScope s_p_turning_moves) := ⟨rfl, rfl, rfl, by decide +kernel, rfl, by decide +kernel, by decide +kernel⟩
theorem ok_p_turning_moves (T : Txt mg) (D : DefC K mg "turning_moves" s_p_turning_moves ["row", "way"]) (C_p_turn_by : CalC P w K mg base "turn_by" ["many", "letter"] 2 1 F_p_turn_by) : CalC P w K mg base "turning_moves" ["row", "way"] 2 2 F_p_turning_moves :=
  D.ok sc_p_turning_moves rfl rfl (by decide) fun f cdv A outer s H E hr => bx_ex (b_cons (s_set (i := 2) sc_p_turning_moves.nd rfl (by first | exact Or.inl rfl | exact Or.inr rfl) (x_lst (n_lst a_nil)))
    (b_cons (s_for PassesOwn.never rfl (i_rv (by rfl) T.b_reversed (x_var 1)) (g_name (i := 3) sc_p_turning_moves.nd rfl (by first | exact Or.inl rfl | exact Or.inr rfl))
    (b_one (s_set (i := 2) sc_p_turning_moves.nd rfl (by first | exact Or.inl rfl | exact Or.inr rfl) (x_add (x_var 2) (x_calC C_p_turn_by hr (by decide) (by rfl) (a_cons (x_blt call_lenA calld_len (by rfl) T.b_len (by decide +kernel) (a_cons (x_var 0) a_nil)) (a_cons (x_var 3) a_nil)) (len_acons (len_acons len_anil)))))))
    (b_one (s_ret (x_var 2)))))
theorem sc_law_state : FnScope ["script", "seed", "cell"] ["script"] (defScope s_law_state) := ⟨rfl, rfl, rfl, by decide +kernel, rfl, by decide +kernel, by decide +kernel⟩
theorem ok_law_state (T : Txt mg) (D : DefC K mg "_law_state" s_law_state ["script"]) : CalC P w K mg base "_law_state" ["script"] 1 1 F_law_state :=
  D.ok sc_law_state rfl rfl (by decide) fun f cdv A outer s H E hr => bx_ex (b_cons (s_set (i := 1) sc_law_state.nd rfl (by first | exact Or.inl rfl | exact Or.inr rfl) x_int)
    (b_cons (s_for PassesOwn.never rfl (i_seq (x_var 0)) (g_name (i := 2) sc_law_state.nd rfl (by first | exact Or.inl rfl | exact Or.inr rfl))
    (b_one (s_set (i := 1) sc_law_state.nd rfl (by first | exact Or.inl rfl | exact Or.inr rfl) (x_mod (x_bty call_int1 calld_int (by rfl) T.b_int (by decide +kernel) (a_cons (x_add (x_mul (x_var 1) x_int) (x_var 2)) a_nil)) x_int))))
    (b_one (s_ret (x_ob (n_lst (a_cons (x_ob (n_lc rfl sc_law_state.nd (i_seq (x_var 0)) (blkOk_by (own := [("cell", 2)]) (by kernel_rfl)) (by decide) (fun _ _ _ _ _ => (g_name (i := 2) sc_law_state.nd rfl (by first | exact Or.inl rfl | exact Or.inr rfl))) (fun _ _ _ _ _ => ts_nil) (fun _ _ _ _ _ => (x_blt call_abs calld_abs (by rfl) T.b_abs (by decide +kernel) (a_cons (x_var 2) a_nil))))) (a_cons (x_add (x_var 1) x_int) a_nil))))))))
theorem sc_law_draw : FnScope ["state", "many", "cells", "mixed", "value"] ["state", "many"] (defScope s_law_draw) := ⟨rfl, rfl, rfl, by decide +kernel, rfl, by decide +kernel, by decide +kernel⟩
theorem ok_law_draw (T : Txt mg) (D : DefC K mg "_law_draw" s_law_draw ["state", "many"]) : CalC P w K mg base "_law_draw" ["state", "many"] 2 1 F_law_draw :=
  D.ok sc_law_draw rfl rfl (by decide) fun f cdv A outer s H E hr => bx_ex (b_cons (s_set (i := 2) sc_law_draw.nd rfl (by first | exact Or.inl rfl | exact Or.inr rfl) (x_ix (x_var 0) x_int))
    (b_cons (s_while (fun _ => 1000000) PassesOwn.never (c_w (w_and (c_gt (x_blt call_lenA calld_len (by rfl) T.b_len (by decide +kernel) (a_cons (x_var 2) a_nil)) x_int) (w_and1 (c_eq hr (x_ix (x_var 2) x_int) x_int))))
    (b_one (s_expr (x_m PySem.F.slot_list_pop PySem.F.type_list_pop mt_popA metd_pop (x_var 2) (a_cons x_int a_nil)))))
    (b_cons (s_if (c_gt (x_blt call_lenA calld_len (by rfl) T.b_len (by decide +kernel) (a_cons (x_var 2) a_nil)) x_int) (b_cons (s_set (i := 4) sc_law_draw.nd rfl (by first | exact Or.inl rfl | exact Or.inr rfl) (x_ix (x_var 2) x_int))
    (b_cons (s_put (x_div (x_var 4) (x_var 1)) (x_var 2) x_int)
    (b_one (s_ret (x_mod (x_bty call_int1 calld_int (by rfl) T.b_int (by decide +kernel) (a_cons (x_var 4) a_nil)) (x_var 1)))))) b_nil)
    (b_cons (s_set (i := 3) sc_law_draw.nd rfl (by first | exact Or.inl rfl | exact Or.inr rfl) (x_mod (x_bty call_int1 calld_int (by rfl) T.b_int (by decide +kernel) (a_cons (x_add (x_mul (x_ix (x_var 0) x_int) x_int) x_int) a_nil)) x_int))
    (b_cons (s_put (x_var 3) (x_var 0) x_int)
    (b_one (s_ret (x_mod (x_bty call_int1 calld_int (by rfl) T.b_int (by decide +kernel) (a_cons (x_div (x_var 3) x_int) a_nil)) (x_var 1)))))))))
theorem sc_law_pick : FnScope ["state", "row"] ["state", "row"] (defScope s_law_pick) := ⟨rfl, rfl, rfl, by decide +kernel, rfl, by decide +kernel, by decide +kernel⟩
theorem ok_law_pick (T : Txt mg) (D : DefC K mg "_law_pick" s_law_pick ["state", "row"]) (C_law_draw : CalC P w K mg base "_law_draw" ["state", "many"] 2 1 F_law_draw) : CalC P w K mg base "_law_pick" ["state", "row"] 2 2 F_law_pick :=
  D.ok sc_law_pick rfl rfl (by decide) fun f cdv A outer s H E hr => bx_ex (b_one (s_ret (x_ix (x_var 1) (x_calC C_law_draw hr (by decide) (by rfl) (a_cons (x_var 0) (a_cons (x_blt call_lenA calld_len (by rfl) T.b_len (by decide +kernel) (a_cons (x_var 1) a_nil)) a_nil)) (len_acons (len_acons len_anil))))))
theorem sc_law_eq : FnScope ["told", "due", "k"] ["told", "due"] (defScope s_law_eq) := ⟨rfl, rfl, rfl, by decide +kernel, rfl, by decide +kernel, by decide +kernel⟩
theorem ok_law_eq (T : Txt mg) (D : DefC K mg "_law_eq" s_law_eq ["told", "due"]) : ∀ d, CalC P w K mg base "_law_eq" ["told", "due"] 2 (1 + d) (F_law_eq d)
  | 0 => calC_none D
  | d + 1 => by
    have C_law_eq := ok_law_eq T D d
    exact D.ok sc_law_eq rfl rfl (by decide) fun f cdv A outer s H E hr => bx_ex (b_cons (s_if (c_w (w_or (c_tru (x_isi .ls (by decide) (by rfl) T.b_isinstance (by rfl) T.b_list (by decide +kernel) (x_var 1))) (w_or1 (c_tru (x_isi .tp (by decide) (by rfl) T.b_isinstance (by rfl) T.b_tuple (by decide +kernel) (x_var 1)))))) (b_cons (s_if (c_w (w_or (c_ne hr (x_isi .ls (by decide) (by rfl) T.b_isinstance (by rfl) T.b_list (by decide +kernel) (x_var 0)) (x_isi .ls (by decide) (by rfl) T.b_isinstance (by rfl) T.b_list (by decide +kernel) (x_var 1))) (w_or1 (c_ne hr (x_isi .tp (by decide) (by rfl) T.b_isinstance (by rfl) T.b_tuple (by decide +kernel) (x_var 0)) (x_isi .tp (by decide) (by rfl) T.b_isinstance (by rfl) T.b_tuple (by decide +kernel) (x_var 1)))))) (b_one (s_ret x_bl)) b_nil)
    (b_cons (s_if (c_ne hr (x_blt call_lenA calld_len (by rfl) T.b_len (by decide +kernel) (a_cons (x_var 0) a_nil)) (x_blt call_lenA calld_len (by rfl) T.b_len (by decide +kernel) (a_cons (x_var 1) a_nil))) (b_one (s_ret x_bl)) b_nil)
    (b_one (s_ret (x_eq hr (x_lst (n_lc rfl sc_law_eq.nd (i_rg1 (by rfl) T.b_range (x_blt call_lenA calld_len (by rfl) T.b_len (by decide +kernel) (a_cons (x_var 1) a_nil))) (blkOk_by (own := [("k", 2)]) (by kernel_rfl)) (by decide) (fun _ _ _ _ _ => (g_name (i := 2) sc_law_eq.nd rfl (by first | exact Or.inl rfl | exact Or.inr rfl))) (fun _ _ _ _ _ => (ts_one (c_not (c_tru (x_calC C_law_eq hr (by first | exact Nat.le_refl _ | (simp only [Nat.add_eq]; omega)) (by rfl) (a_cons (x_ix (x_var 0) (x_var 2)) (a_cons (x_ix (x_var 1) (x_var 2)) a_nil)) (len_acons (len_acons len_anil))))))) (fun _ _ _ _ _ => (x_var 2)))) (x_lst (n_lst a_nil))))))) b_nil)
    (b_cons (s_if (c_is (x_var 1) x_non) (b_one (s_ret (x_is (x_var 0) x_non))) b_nil)
    (b_cons (s_if (c_tru (x_isi .st (by decide) (by rfl) T.b_isinstance (by rfl) T.b_str (by decide +kernel) (x_var 1))) (b_one (s_ret (x_and (x_isi .st (by decide) (by rfl) T.b_isinstance (by rfl) T.b_str (by decide +kernel) (x_var 0)) (x_one (x_eq hr (x_var 0) (x_var 1)))))) b_nil)
    (b_cons (s_if (c_tru (x_isi .bl (by decide) (by rfl) T.b_isinstance (by rfl) T.b_bool (by decide +kernel) (x_var 1))) (b_one (s_ret (x_and (x_isi .bl (by decide) (by rfl) T.b_isinstance (by rfl) T.b_bool (by decide +kernel) (x_var 0)) (x_one (x_eq hr (x_var 0) (x_var 1)))))) b_nil)
    (b_one (s_ret (x_and (x_isi .it (by decide) (by rfl) T.b_isinstance (by rfl) T.b_int (by decide +kernel) (x_var 0)) (x_and (x_not (x_isi .bl (by decide) (by rfl) T.b_isinstance (by rfl) T.b_bool (by decide +kernel) (x_var 0))) (x_one (x_eq hr (x_var 0) (x_var 1)))))))))))
theorem sc_law_mixed : FnScope ["state", "row", "k", "left", "told"] ["state", "row"] (defScope s_law_mixed) := ⟨rfl, rfl, rfl, by decide +kernel, rfl, by decide +kernel, by decide +kernel⟩
theorem ok_law_mixed (T : Txt mg) (D : DefC K mg "_law_mixed" s_law_mixed ["state", "row"]) (C_law_draw : CalC P w K mg base "_law_draw" ["state", "many"] 2 1 F_law_draw) : CalC P w K mg base "_law_mixed" ["state", "row"] 2 2 F_law_mixed :=
  D.ok sc_law_mixed rfl rfl (by decide) fun f cdv A outer s H E hr => bx_ex (b_cons (s_par2 (i := 3) (j := 4) rfl sc_law_mixed.nd rfl rfl (by decide) rfl rfl (p_new (n_bty call_list_of calln_list (by rfl) T.b_list (by decide +kernel) (a_cons (x_var 1) a_nil))) (p_new (n_lst a_nil)) (by rfl))
    (b_cons (s_for PassesOwn.never rfl (i_rg1 (by rfl) T.b_range (x_blt call_lenA calld_len (by rfl) T.b_len (by decide +kernel) (a_cons (x_var 1) a_nil))) (g_name (i := 2) sc_law_mixed.nd rfl (by first | exact Or.inl rfl | exact Or.inr rfl))
    (b_one (s_expr (x_m PySem.F.slot_list_append PySem.F.type_list_append mt_append metd_append (x_var 4) (a_cons (x_m PySem.F.slot_list_pop PySem.F.type_list_pop mt_popA metd_pop (x_var 3) (a_cons (x_calC C_law_draw hr (by decide) (by rfl) (a_cons (x_var 0) (a_cons (x_blt call_lenA calld_len (by rfl) T.b_len (by decide +kernel) (a_cons (x_var 3) a_nil)) a_nil)) (len_acons (len_acons len_anil))) a_nil)) a_nil)))))
    (b_one (s_ret (x_frz 4)))))
theorem sc_law_times : FnScope ["one", "other", "k"] ["one", "other"] (defScope s_law_times) := ⟨rfl, rfl, rfl, by decide +kernel, rfl, by decide +kernel, by decide +kernel⟩
theorem ok_law_times (T : Txt mg) (D : DefC K mg "_law_times" s_law_times ["one", "other"]) : CalC P w K mg base "_law_times" ["one", "other"] 2 1 F_law_times :=
  D.ok sc_law_times rfl rfl (by decide) fun f cdv A outer s H E hr => bx_ex (b_one (s_ret (x_bty call_tuple_of calld_tuple (by rfl) T.b_tuple (by decide +kernel) (a_cons (x_lst (n_lc rfl sc_law_times.nd (i_seq (x_var 0)) (blkOk_by (own := [("k", 2)]) (by kernel_rfl)) (by decide) (fun _ _ _ _ _ => (g_name (i := 2) sc_law_times.nd rfl (by first | exact Or.inl rfl | exact Or.inr rfl))) (fun _ _ _ _ _ => ts_nil) (fun _ _ _ _ _ => (x_ix (x_var 1) (x_var 2))))) a_nil))))
theorem sc_law_inverse : FnScope ["one", "told", "k"] ["one"] (defScope s_law_inverse) := ⟨rfl, rfl, rfl, by decide +kernel, rfl, by decide +kernel, by decide +kernel⟩
theorem ok_law_inverse (T : Txt mg) (D : DefC K mg "_law_inverse" s_law_inverse ["one"]) : CalC P w K mg base "_law_inverse" ["one"] 1 1 F_law_inverse :=
  D.ok sc_law_inverse rfl rfl (by decide) fun f cdv A outer s H E hr => bx_ex (b_cons (s_new (i := 1) sc_law_inverse.nd rfl (by first | exact Or.inl rfl | exact Or.inr rfl) (n_rep (x_lst (n_lst (a_cons x_int a_nil))) (x_blt call_lenA calld_len (by rfl) T.b_len (by decide +kernel) (a_cons (x_var 0) a_nil))))
    (b_cons (s_for PassesOwn.never rfl (i_rg1 (by rfl) T.b_range (x_blt call_lenA calld_len (by rfl) T.b_len (by decide +kernel) (a_cons (x_var 0) a_nil))) (g_name (i := 2) sc_law_inverse.nd rfl (by first | exact Or.inl rfl | exact Or.inr rfl))
    (b_one (s_put (x_var 2) (x_var 1) (x_ix (x_var 0) (x_var 2)))))
    (b_one (s_ret (x_bty call_tuple_of calld_tuple (by rfl) T.b_tuple (by decide +kernel) (a_cons (x_var 1) a_nil))))))
theorem sc_law_turned : FnScope ["one", "by"] ["one", "by"] (defScope s_law_turned) := ⟨rfl, rfl, rfl, by decide +kernel, rfl, by decide +kernel, by decide +kernel⟩
theorem ok_law_turned (T : Txt mg) (D : DefC K mg "_law_turned" s_law_turned ["one", "by"]) (C_law_times : CalC P w K mg base "_law_times" ["one", "other"] 2 1 F_law_times) (C_law_inverse : CalC P w K mg base "_law_inverse" ["one"] 1 1 F_law_inverse) : CalC P w K mg base "_law_turned" ["one", "by"] 2 2 F_law_turned :=
  D.ok sc_law_turned rfl rfl (by decide) fun f cdv A outer s H E hr => bx_ex (b_one (s_ret (x_calC C_law_times hr (by decide) (by rfl) (a_cons (x_calC C_law_times hr (by decide) (by rfl) (a_cons (x_calC C_law_inverse hr (by decide) (by rfl) (a_cons (x_var 1) a_nil) (len_acons len_anil)) (a_cons (x_var 0) a_nil)) (len_acons (len_acons len_anil))) (a_cons (x_var 1) a_nil)) (len_acons (len_acons len_anil)))))
theorem sc_law_perm : FnScope ["state", "n"] ["state", "n"] (defScope s_law_perm) := ⟨rfl, rfl, rfl, by decide +kernel, rfl, by decide +kernel, by decide +kernel⟩
theorem ok_law_perm (T : Txt mg) (D : DefC K mg "_law_perm" s_law_perm ["state", "n"]) (C_law_mixed : CalC P w K mg base "_law_mixed" ["state", "row"] 2 2 F_law_mixed) : CalC P w K mg base "_law_perm" ["state", "n"] 2 3 F_law_perm :=
  D.ok sc_law_perm rfl rfl (by decide) fun f cdv A outer s H E hr => bx_ex (b_one (s_ret (x_bty call_tuple_of calld_tuple (by rfl) T.b_tuple (by decide +kernel) (a_cons (x_calC C_law_mixed hr (by decide) (by rfl) (a_cons (x_var 0) (a_cons (x_lst (n_listRg rfl (by rfl) T.b_list (r_1 (by rfl) T.b_range (x_var 1)))) a_nil)) (len_acons (len_acons len_anil))) a_nil))))
theorem sc_law_product : FnScope ["n", "rows", "told", "one"] ["n", "rows"] (defScope s_law_product) := ⟨rfl, rfl, rfl, by decide +kernel, rfl, by decide +kernel, by decide +kernel⟩
theorem ok_law_product (T : Txt mg) (D : DefC K mg "_law_product" s_law_product ["n", "rows"]) (C_law_times : CalC P w K mg base "_law_times" ["one", "other"] 2 1 F_law_times) : CalC P w K mg base "_law_product" ["n", "rows"] 2 2 F_law_product :=
  D.ok sc_law_product rfl rfl (by decide) fun f cdv A outer s H E hr => bx_ex (b_cons (s_set (i := 2) sc_law_product.nd rfl (by first | exact Or.inl rfl | exact Or.inr rfl) (x_tupRg rfl (by rfl) T.b_tuple (r_1 (by rfl) T.b_range (x_var 0))))
    (b_cons (s_for PassesOwn.never rfl (i_seq (x_var 1)) (g_name (i := 3) sc_law_product.nd rfl (by first | exact Or.inl rfl | exact Or.inr rfl))
    (b_one (s_set (i := 2) sc_law_product.nd rfl (by first | exact Or.inl rfl | exact Or.inr rfl) (x_calC C_law_times hr (by decide) (by rfl) (a_cons (x_var 2) (a_cons (x_var 3) a_nil)) (len_acons (len_acons len_anil))))))
    (b_one (s_ret (x_var 2)))))
theorem sc_law_row : FnScope ["state", "n", "many", "told", "k"] ["state", "n", "many"] (defScope s_law_row) := ⟨rfl, rfl, rfl, by decide +kernel, rfl, by decide +kernel, by decide +kernel⟩
theorem ok_law_row (T : Txt mg) (D : DefC K mg "_law_row" s_law_row ["state", "n", "many"]) (C_law_draw : CalC P w K mg base "_law_draw" ["state", "many"] 2 1 F_law_draw) (C_law_pick : CalC P w K mg base "_law_pick" ["state", "row"] 2 2 F_law_pick) (C_law_inverse : CalC P w K mg base "_law_inverse" ["one"] 1 1 F_law_inverse) (C_law_perm : CalC P w K mg base "_law_perm" ["state", "n"] 2 3 F_law_perm) (C_law_product : CalC P w K mg base "_law_product" ["n", "rows"] 2 2 F_law_product) : CalC P w K mg base "_law_row" ["state", "n", "many"] 3 4 F_law_row :=
  D.ok sc_law_row rfl rfl (by decide) fun f cdv A outer s H E hr => bx_ex (b_cons (s_new (i := 3) sc_law_row.nd rfl (by first | exact Or.inl rfl | exact Or.inr rfl) (n_lst a_nil))
    (b_cons (s_for PassesOwn.never rfl (i_rg1 (by rfl) T.b_range (x_sub (x_var 2) x_int)) (g_name (i := 4) sc_law_row.nd rfl (by first | exact Or.inl rfl | exact Or.inr rfl))
    (b_one (s_expr (x_m PySem.F.slot_list_append PySem.F.type_list_append mt_append metd_append (x_var 3) (a_cons (x_if (c_w (w_and (c_ne hr (x_var 3) (x_lst (n_lst a_nil))) (w_and1 (c_eq hr (x_calC C_law_draw hr (by decide) (by rfl) (a_cons (x_var 0) (a_cons x_int a_nil)) (len_acons (len_acons len_anil))) x_int)))) (x_calL C_law_pick hr (by decide) (by rfl) (a_cons (x_var 0) (a_cons (x_var 3) a_nil)) (len_acons (len_acons len_anil))) (x_calC C_law_perm hr (by decide) (by rfl) (a_cons (x_var 0) (a_cons (x_var 1) a_nil)) (len_acons (len_acons len_anil)))) a_nil)))))
    (b_one (s_ret (x_if (c_gt (x_var 2) x_int) (x_bty call_tuple_of calld_tuple (by rfl) T.b_tuple (by decide +kernel) (a_cons (x_add (x_var 3) (x_lst (n_lst (a_cons (x_calC C_law_inverse hr (by decide) (by rfl) (a_cons (x_calL C_law_product hr (by decide) (by rfl) (a_cons (x_var 1) (a_cons (x_var 3) a_nil)) (len_acons (len_acons len_anil))) a_nil) (len_acons len_anil)) a_nil)))) a_nil)) (x_tup a_nil))))))
theorem sc_law_exchange : FnScope ["row", "i", "told", "k", "p", "q"] ["row", "i"] (defScope s_law_exchange) := ⟨rfl, rfl, rfl, by decide +kernel, rfl, by decide +kernel, by decide +kernel⟩
theorem ok_law_exchange (T : Txt mg) (D : DefC K mg "_law_exchange" s_law_exchange ["row", "i"]) (C_law_inverse : CalC P w K mg base "_law_inverse" ["one"] 1 1 F_law_inverse) (C_law_turned : CalC P w K mg base "_law_turned" ["one", "by"] 2 2 F_law_turned) : CalC P w K mg base "_law_exchange" ["row", "i"] 2 3 F_law_exchange :=
  D.ok sc_law_exchange rfl rfl (by decide) fun f cdv A outer s H E hr => bx_ex (b_cons (s_new (i := 2) sc_law_exchange.nd rfl (by first | exact Or.inl rfl | exact Or.inr rfl) (n_bty call_list_of calln_list (by rfl) T.b_list (by decide +kernel) (a_cons (x_var 0) a_nil)))
    (b_cons (s_set (i := 3) sc_law_exchange.nd rfl (by first | exact Or.inl rfl | exact Or.inr rfl) (x_blt call_abs calld_abs (by rfl) T.b_abs (by decide +kernel) (a_cons (x_var 1) a_nil)))
    (b_cons (s_par2 (i := 4) (j := 5) rfl sc_law_exchange.nd rfl rfl (by decide) rfl rfl (p_val (x_ix (x_var 0) (x_sub (x_var 3) x_int))) (p_val (x_ix (x_var 0) (x_var 3))) (by rfl))
    (b_cons (s_asgL rfl (x_if (c_gt (x_var 1) x_int) (x_tup (a_cons (x_var 5) (a_cons (x_calC C_law_turned hr (by decide) (by rfl) (a_cons (x_var 4) (a_cons (x_var 5) a_nil)) (len_acons (len_acons len_anil))) a_nil))) (x_tup (a_cons (x_calC C_law_turned hr (by decide) (by rfl) (a_cons (x_var 5) (a_cons (x_calC C_law_inverse hr (by decide) (by rfl) (a_cons (x_var 4) a_nil) (len_acons len_anil)) a_nil)) (len_acons (len_acons len_anil))) (a_cons (x_var 4) a_nil)))) (ls_sub (x_var 2) (x_sub (x_var 3) x_int) (ls_sub (x_var 2) (x_var 3) ls_nil)))
    (b_one (s_ret (x_bty call_tuple_of calld_tuple (by rfl) T.b_tuple (by decide +kernel) (a_cons (x_var 2) a_nil))))))))
theorem sc_law_some : FnScope ["state", "many", "most", "k"] ["state", "many", "most"] (defScope s_law_some) := ⟨rfl, rfl, rfl, by decide +kernel, rfl, by decide +kernel, by decide +kernel⟩
theorem ok_law_some (T : Txt mg) (D : DefC K mg "_law_some" s_law_some ["state", "many", "most"]) (C_law_draw : CalC P w K mg base "_law_draw" ["state", "many"] 2 1 F_law_draw) (C_law_pick : CalC P w K mg base "_law_pick" ["state", "row"] 2 2 F_law_pick) : CalC P w K mg base "_law_some" ["state", "many", "most"] 3 3 F_law_some :=
  D.ok sc_law_some rfl rfl (by decide) fun f cdv A outer s H E hr => bx_ex (b_one (s_ret (x_if (c_gt (x_var 1) x_int) (x_lst (n_lc rfl sc_law_some.nd (i_rg1 (by rfl) T.b_range (x_calC C_law_draw hr (by decide) (by rfl) (a_cons (x_var 0) (a_cons (x_var 2) a_nil)) (len_acons (len_acons len_anil)))) (blkOk_by (own := [("k", 3)]) (by kernel_rfl)) (by decide) (fun _ _ _ _ _ => (g_name (i := 3) sc_law_some.nd rfl (by first | exact Or.inl rfl | exact Or.inr rfl))) (fun _ _ _ _ _ => ts_nil) (fun _ _ _ _ _ => (x_mul (x_calC C_law_pick hr (by decide) (by rfl) (a_cons (x_var 0) (a_cons (x_lst (n_lst (a_cons x_int (a_cons (x_neg x_int) a_nil)))) a_nil)) (len_acons (len_acons len_anil))) (x_add x_int (x_calC C_law_draw hr (by decide) (by rfl) (a_cons (x_var 0) (a_cons (x_sub (x_var 1) x_int) a_nil)) (len_acons (len_acons len_anil)))))))) (x_lst (n_lst a_nil)))))
theorem sc_law_way : FnScope ["state", "many", "k"] ["state", "many"] (defScope s_law_way) := ⟨rfl, rfl, rfl, by decide +kernel, rfl, by decide +kernel, by decide +kernel⟩
theorem ok_law_way (T : Txt mg) (D : DefC K mg "_law_way" s_law_way ["state", "many"]) (C_law_draw : CalC P w K mg base "_law_draw" ["state", "many"] 2 1 F_law_draw) (C_law_pick : CalC P w K mg base "_law_pick" ["state", "row"] 2 2 F_law_pick) : CalC P w K mg base "_law_way" ["state", "many"] 2 3 F_law_way :=
  D.ok sc_law_way rfl rfl (by decide) fun f cdv A outer s H E hr => bx_ex (b_one (s_ret (x_if (c_gt (x_var 1) x_int) (x_lst (n_lc rfl sc_law_way.nd (i_rg1 (by rfl) T.b_range (x_calC C_law_draw hr (by decide) (by rfl) (a_cons (x_var 0) (a_cons x_int a_nil)) (len_acons (len_acons len_anil)))) (blkOk_by (own := [("k", 2)]) (by kernel_rfl)) (by decide) (fun _ _ _ _ _ => (g_name (i := 2) sc_law_way.nd rfl (by first | exact Or.inl rfl | exact Or.inr rfl))) (fun _ _ _ _ _ => ts_nil) (fun _ _ _ _ _ => (x_mul (x_calC C_law_pick hr (by decide) (by rfl) (a_cons (x_var 0) (a_cons (x_lst (n_lst (a_cons x_int (a_cons (x_neg x_int) a_nil)))) a_nil)) (len_acons (len_acons len_anil))) (x_add x_int (x_calC C_law_draw hr (by decide) (by rfl) (a_cons (x_var 0) (a_cons (x_var 1) a_nil)) (len_acons (len_acons len_anil)))))))) (x_lst (n_lst a_nil)))))
theorem sc_law_along : FnScope ["row", "n", "way", "one"] ["row", "n", "way"] (defScope s_law_along) := ⟨rfl, rfl, rfl, by decide +kernel, rfl, by decide +kernel, by decide +kernel⟩
theorem ok_law_along (T : Txt mg) (D : DefC K mg "_law_along" s_law_along ["row", "n", "way"]) (C_law_inverse : CalC P w K mg base "_law_inverse" ["one"] 1 1 F_law_inverse) (C_law_product : CalC P w K mg base "_law_product" ["n", "rows"] 2 2 F_law_product) : CalC P w K mg base "_law_along" ["row", "n", "way"] 3 3 F_law_along :=
  D.ok sc_law_along rfl rfl (by decide) fun f cdv A outer s H E hr => bx_ex (b_one (s_ret (x_calC C_law_product hr (by decide) (by rfl) (a_cons (x_var 1) (a_cons (x_lst (n_lc rfl sc_law_along.nd (i_seq (x_var 2)) (blkOk_by (own := [("one", 3)]) (by kernel_rfl)) (by decide) (fun _ _ _ _ _ => (g_name (i := 3) sc_law_along.nd rfl (by first | exact Or.inl rfl | exact Or.inr rfl))) (fun _ _ _ _ _ => ts_nil) (fun _ _ _ _ _ => (x_if (c_gt (x_var 3) x_int) (x_ix (x_var 0) (x_sub (x_var 3) x_int)) (x_calC C_law_inverse hr (by decide) (by rfl) (a_cons (x_ix (x_var 0) (x_sub (x_sub x_int (x_var 3)) x_int)) a_nil) (len_acons len_anil)))))) a_nil)) (len_acons (len_acons len_anil)))))
theorem sc_law : FnScope ["script", "state", "turn", "row", "now", "i", "back", "by", "turned_v", "moves", "both", "n", "many", "one", "other", "j", "first", "second", "p"] ["script"] (defScope s_law) := ⟨rfl, rfl, rfl, by decide +kernel, rfl, by decide +kernel, by decide +kernel⟩
theorem ok_law (T : Txt mg) {fa : Addr} {fda : FuncData} (D : DefX K mg "law" s_law ["script"] fa fda) (C_p_exchanged : CalC P w K mg base "exchanged" ["row", "moves"] 2 3 F_p_exchanged) (C_p_shows_exchanged : CalC P w K mg base "shows_exchanged" ["one", "other", "moves"] 3 4 F_p_shows_exchanged) (C_p_turning_moves : CalC P w K mg base "turning_moves" ["row", "way"] 2 2 F_p_turning_moves) (C_law_state : CalC P w K mg base "_law_state" ["script"] 1 1 F_law_state) (C_law_draw : CalC P w K mg base "_law_draw" ["state", "many"] 2 1 F_law_draw) (C_law_eq : CalC P w K mg base "_law_eq" ["told", "due"] 2 6 (F_law_eq 5)) (C_law_turned : CalC P w K mg base "_law_turned" ["one", "by"] 2 2 F_law_turned) (C_law_perm : CalC P w K mg base "_law_perm" ["state", "n"] 2 3 F_law_perm) (C_law_row : CalC P w K mg base "_law_row" ["state", "n", "many"] 3 4 F_law_row) (C_law_exchange : CalC P w K mg base "_law_exchange" ["row", "i"] 2 3 F_law_exchange) (C_law_some : CalC P w K mg base "_law_some" ["state", "many", "most"] 3 3 F_law_some) (C_law_way : CalC P w K mg base "_law_way" ["state", "many"] 2 3 F_law_way) (C_law_along : CalC P w K mg base "_law_along" ["row", "n", "way"] 3 3 F_law_along) : CalX P w K mg base "law" ["script"] 1 7 F_law fa fda :=
  D.ok sc_law rfl rfl (by decide) fun f cdv A outer s H E hr => bx_ex (b_cons (s_set (i := 1) sc_law.nd rfl (by first | exact Or.inl rfl | exact Or.inr rfl) (x_calC C_law_state hr (by decide) (by rfl) (a_cons (x_var 0) a_nil) (len_acons len_anil)))
    (b_cons (s_for PassesOwn.never rfl (i_rg1 (by rfl) T.b_range x_int) (g_name (i := 2) sc_law.nd rfl (by first | exact Or.inl rfl | exact Or.inr rfl))
    (b_cons (s_par2T (i := 11) (j := 12) rfl sc_law.nd rfl rfl (by first | exact Or.inl rfl | exact Or.inr rfl) (by first | exact Or.inl rfl | exact Or.inr rfl) (p_val (x_add x_int (x_calC C_law_draw hr (by decide) (by rfl) (a_cons (x_var 1) (a_cons x_int a_nil)) (len_acons (len_acons len_anil))))) (p_val (x_calC C_law_draw hr (by decide) (by rfl) (a_cons (x_var 1) (a_cons x_int a_nil)) (len_acons (len_acons len_anil)))))
    (b_cons (s_set (i := 3) sc_law.nd rfl (by first | exact Or.inl rfl | exact Or.inr rfl) (x_calC C_law_row hr (by decide) (by rfl) (a_cons (x_var 1) (a_cons (x_var 11) (a_cons (x_var 12) a_nil))) (len_acons (len_acons (len_acons len_anil)))))
    (b_cons (s_par2 (i := 13) (j := 14) rfl sc_law.nd rfl rfl (by decide) rfl rfl (p_val (x_calC C_law_some hr (by decide) (by rfl) (a_cons (x_var 1) (a_cons (x_var 12) (a_cons x_int a_nil))) (len_acons (len_acons (len_acons len_anil))))) (p_val (x_calC C_law_some hr (by decide) (by rfl) (a_cons (x_var 1) (a_cons (x_var 12) (a_cons x_int a_nil))) (len_acons (len_acons (len_acons len_anil))))) (by rfl))
    (b_cons (s_set (i := 4) sc_law.nd rfl (by first | exact Or.inl rfl | exact Or.inr rfl) (x_var 3))
    (b_cons (s_for PassesOwn.never rfl (i_seq (x_var 13)) (g_name (i := 5) sc_law.nd rfl (by first | exact Or.inl rfl | exact Or.inr rfl))
    (b_one (s_set (i := 4) sc_law.nd rfl (by first | exact Or.inl rfl | exact Or.inr rfl) (x_calC C_law_exchange hr (by decide) (by rfl) (a_cons (x_var 4) (a_cons (x_var 5) a_nil)) (len_acons (len_acons len_anil))))))
    (b_cons (s_if (c_w (w_or (c_not (c_tru (x_calC C_law_eq hr (by decide) (by rfl) (a_cons (x_calC C_p_exchanged hr (by decide) (by rfl) (a_cons (x_var 3) (a_cons (x_lst (n_bty call_list_of calln_list (by rfl) T.b_list (by decide +kernel) (a_cons (x_var 13) a_nil))) a_nil)) (len_acons (len_acons len_anil))) (a_cons (x_var 4) a_nil)) (len_acons (len_acons len_anil))))) (w_or1 (c_not (c_tru (x_calC C_law_eq hr (by decide) (by rfl) (a_cons (x_calC C_p_exchanged hr (by decide) (by rfl) (a_cons (x_calC C_p_exchanged hr (by decide) (by rfl) (a_cons (x_var 3) (a_cons (x_var 13) a_nil)) (len_acons (len_acons len_anil))) (a_cons (x_bty call_tuple_of calld_tuple (by rfl) T.b_tuple (by decide +kernel) (a_cons (x_var 14) a_nil)) a_nil)) (len_acons (len_acons len_anil))) (a_cons (x_calC C_p_exchanged hr (by decide) (by rfl) (a_cons (x_var 3) (a_cons (x_add (x_var 13) (x_var 14)) a_nil)) (len_acons (len_acons len_anil))) a_nil)) (len_acons (len_acons len_anil)))))))) (b_one (s_ret x_bl)) b_nil)
    (b_cons (s_lcSet (i := 6) rfl sc_law.nd rfl rfl (sw_true rfl rfl rfl (by decide +kernel)) (i_seq (x_lst (n_rev (x_var 13)))) (blkOk_by (own := [("i", 5)]) (by kernel_rfl)) (by decide) (fun _ _ _ _ _ => (g_name (i := 5) sc_law.nd rfl (by first | exact Or.inl rfl | exact Or.inr rfl))) (fun _ _ _ _ _ => ts_nil) (fun _ _ _ _ _ => (x_sub x_int (x_var 5))))
    (b_cons (s_if (c_w (w_or (c_not (c_tru (x_calC C_law_eq hr (by decide) (by rfl) (a_cons (x_calC C_p_exchanged hr (by decide) (by rfl) (a_cons (x_var 4) (a_cons (x_lst (n_bty call_list_of calln_list (by rfl) T.b_list (by decide +kernel) (a_cons (x_var 6) a_nil))) a_nil)) (len_acons (len_acons len_anil))) (a_cons (x_var 3) a_nil)) (len_acons (len_acons len_anil))))) (w_or (c_isntB (x_calC C_p_shows_exchanged hr (by decide) (by rfl) (a_cons (x_var 3) (a_cons (x_var 4) (a_cons (x_lst (n_bty call_list_of calln_list (by rfl) T.b_list (by decide +kernel) (a_cons (x_var 13) a_nil))) a_nil))) (len_acons (len_acons (len_acons len_anil)))) x_bl) (w_or1 (c_isntB (x_calC C_p_shows_exchanged hr (by decide) (by rfl) (a_cons (x_var 4) (a_cons (x_var 3) (a_cons (x_bty call_tuple_of calld_tuple (by rfl) T.b_tuple (by decide +kernel) (a_cons (x_var 6) a_nil)) a_nil))) (len_acons (len_acons (len_acons len_anil)))) x_bl))))) (b_one (s_ret x_bl)) b_nil)
    (b_cons (s_if (c_w (w_or (c_isntB (x_calC C_p_shows_exchanged hr (by decide) (by rfl) (a_cons (x_var 3) (a_cons (x_var 4) (a_cons (x_add (x_var 13) (x_lst (n_lst (a_cons (x_var 12) a_nil)))) a_nil))) (len_acons (len_acons (len_acons len_anil)))) x_bl) (w_or1 (c_isntB (x_calC C_p_shows_exchanged hr (by decide) (by rfl) (a_cons (x_var 3) (a_cons (x_var 4) (a_cons (x_add (x_var 13) (x_lst (n_lst (a_cons x_int a_nil)))) a_nil))) (len_acons (len_acons (len_acons len_anil)))) x_bl)))) (b_one (s_ret x_bl)) b_nil)
    (b_cons (s_set (i := 7) sc_law.nd rfl (by first | exact Or.inl rfl | exact Or.inr rfl) (x_calC C_law_perm hr (by decide) (by rfl) (a_cons (x_var 1) (a_cons (x_var 11) a_nil)) (len_acons (len_acons len_anil))))
    (b_cons (s_if (c_not (c_tru (x_calC C_law_eq hr (by decide) (by rfl) (a_cons (x_calC C_p_exchanged hr (by decide) (by rfl) (a_cons (x_bty call_tuple_of calld_tuple (by rfl) T.b_tuple (by decide +kernel) (a_cons (x_lst (n_lc rfl sc_law.nd (i_seq (x_var 3)) (blkOk_by (own := [("p", 18)]) (by kernel_rfl)) (by decide) (fun _ _ _ _ _ => (g_name (i := 18) sc_law.nd rfl (by first | exact Or.inl rfl | exact Or.inr rfl))) (fun _ _ _ _ _ => ts_nil) (fun _ _ _ _ _ => (x_calC C_law_turned hr (by decide) (by rfl) (a_cons (x_var 18) (a_cons (x_var 7) a_nil)) (len_acons (len_acons len_anil)))))) a_nil)) (a_cons (x_var 13) a_nil)) (len_acons (len_acons len_anil))) (a_cons (x_bty call_tuple_of calld_tuple (by rfl) T.b_tuple (by decide +kernel) (a_cons (x_lst (n_lc rfl sc_law.nd (i_seq (x_var 4)) (blkOk_by (own := [("p", 18)]) (by kernel_rfl)) (by decide) (fun _ _ _ _ _ => (g_name (i := 18) sc_law.nd rfl (by first | exact Or.inl rfl | exact Or.inr rfl))) (fun _ _ _ _ _ => ts_nil) (fun _ _ _ _ _ => (x_calC C_law_turned hr (by decide) (by rfl) (a_cons (x_var 18) (a_cons (x_var 7) a_nil)) (len_acons (len_acons len_anil)))))) a_nil)) a_nil)) (len_acons (len_acons len_anil))))) (b_one (s_ret x_bl)) b_nil)
    (b_cons (s_if (c_gt (x_var 12) x_int) (b_cons (s_set (i := 5) sc_law.nd rfl (by first | exact Or.inl rfl | exact Or.inr rfl) (x_add x_int (x_calC C_law_draw hr (by decide) (by rfl) (a_cons (x_var 1) (a_cons (x_sub (x_var 12) x_int) a_nil)) (len_acons (len_acons len_anil)))))
    (b_cons (s_if (c_not (c_tru (x_calC C_law_eq hr (by decide) (by rfl) (a_cons (x_calC C_p_exchanged hr (by decide) (by rfl) (a_cons (x_var 3) (a_cons (x_lst (n_lst (a_cons (x_var 5) (a_cons (x_add (x_var 5) x_int) (a_cons (x_var 5) a_nil))))) a_nil)) (len_acons (len_acons len_anil))) (a_cons (x_calC C_p_exchanged hr (by decide) (by rfl) (a_cons (x_var 3) (a_cons (x_lst (n_lst (a_cons (x_add (x_var 5) x_int) (a_cons (x_var 5) (a_cons (x_add (x_var 5) x_int) a_nil))))) a_nil)) (len_acons (len_acons len_anil))) a_nil)) (len_acons (len_acons len_anil))))) (b_one (s_ret x_bl)) b_nil)
    (b_cons (s_set (i := 15) sc_law.nd rfl (by first | exact Or.inl rfl | exact Or.inr rfl) (x_add x_int (x_calC C_law_draw hr (by decide) (by rfl) (a_cons (x_var 1) (a_cons (x_sub (x_var 12) x_int) a_nil)) (len_acons (len_acons len_anil)))))
    (b_one (s_if (c_w (w_and (c_gt (x_blt call_abs calld_abs (by rfl) T.b_abs (by decide +kernel) (a_cons (x_sub (x_var 5) (x_var 15)) a_nil)) x_int) (w_and1 (c_not (c_tru (x_calC C_law_eq hr (by decide) (by rfl) (a_cons (x_calC C_p_exchanged hr (by decide) (by rfl) (a_cons (x_var 3) (a_cons (x_lst (n_lst (a_cons (x_var 5) (a_cons (x_var 15) a_nil)))) a_nil)) (len_acons (len_acons len_anil))) (a_cons (x_calC C_p_exchanged hr (by decide) (by rfl) (a_cons (x_var 3) (a_cons (x_lst (n_lst (a_cons (x_var 15) (a_cons (x_var 5) a_nil)))) a_nil)) (len_acons (len_acons len_anil))) a_nil)) (len_acons (len_acons len_anil)))))))) (b_one (s_ret x_bl)) b_nil))))) b_nil)
    (b_cons (s_if (c_w (w_and (c_gt (x_var 12) x_int) (w_and1 (c_not (c_tru (x_calC C_law_eq hr (by decide) (by rfl) (a_cons (x_calC C_p_exchanged hr (by decide) (by rfl) (a_cons (x_var 3) (a_cons (x_lst (n_listRg rfl (by rfl) T.b_list (r_2 (by rfl) T.b_range x_int (x_var 12)))) a_nil)) (len_acons (len_acons len_anil))) (a_cons (x_add (x_sl (x_var 3) (o_some x_int) o_none) (x_sl (x_var 3) o_none (o_some x_int))) a_nil)) (len_acons (len_acons len_anil)))))))) (b_one (s_ret x_bl)) b_nil)
    (b_cons (s_par2T (i := 16) (j := 17) rfl sc_law.nd rfl rfl (by first | exact Or.inl rfl | exact Or.inr rfl) (by first | exact Or.inl rfl | exact Or.inr rfl) (p_val (x_calC C_law_way hr (by decide) (by rfl) (a_cons (x_var 1) (a_cons (x_var 12) a_nil)) (len_acons (len_acons len_anil)))) (p_val (x_calC C_law_way hr (by decide) (by rfl) (a_cons (x_var 1) (a_cons (x_var 12) a_nil)) (len_acons (len_acons len_anil)))))
    (b_cons (s_set (i := 8) sc_law.nd rfl (by first | exact Or.inl rfl | exact Or.inr rfl) (x_bty call_tuple_of calld_tuple (by rfl) T.b_tuple (by decide +kernel) (a_cons (x_lst (n_lc rfl sc_law.nd (i_seq (x_var 3)) (blkOk_by (own := [("p", 18)]) (by kernel_rfl)) (by decide) (fun _ _ _ _ _ => (g_name (i := 18) sc_law.nd rfl (by first | exact Or.inl rfl | exact Or.inr rfl))) (fun _ _ _ _ _ => ts_nil) (fun _ _ _ _ _ => (x_calC C_law_turned hr (by decide) (by rfl) (a_cons (x_var 18) (a_cons (x_calC C_law_along hr (by decide) (by rfl) (a_cons (x_var 3) (a_cons (x_var 11) (a_cons (x_var 16) a_nil))) (len_acons (len_acons (len_acons len_anil)))) a_nil)) (len_acons (len_acons len_anil)))))) a_nil)))
    (b_cons (s_set (i := 9) sc_law.nd rfl (by first | exact Or.inl rfl | exact Or.inr rfl) (x_calC C_p_turning_moves hr (by decide) (by rfl) (a_cons (x_var 3) (a_cons (x_lst (n_bty call_list_of calln_list (by rfl) T.b_list (by decide +kernel) (a_cons (x_var 16) a_nil))) a_nil)) (len_acons (len_acons len_anil))))
    (b_cons (s_if (c_w (w_or (c_not (c_tru (x_calC C_law_eq hr (by decide) (by rfl) (a_cons (x_calC C_p_exchanged hr (by decide) (by rfl) (a_cons (x_var 3) (a_cons (x_var 9) a_nil)) (len_acons (len_acons len_anil))) (a_cons (x_var 8) a_nil)) (len_acons (len_acons len_anil))))) (w_or1 (c_isntB (x_calC C_p_shows_exchanged hr (by decide) (by rfl) (a_cons (x_var 3) (a_cons (x_var 8) (a_cons (x_var 9) a_nil))) (len_acons (len_acons (len_acons len_anil)))) x_bl)))) (b_one (s_ret x_bl)) b_nil)
    (b_cons (s_set (i := 10) sc_law.nd rfl (by first | exact Or.inl rfl | exact Or.inr rfl) (x_calC C_p_exchanged hr (by decide) (by rfl) (a_cons (x_var 3) (a_cons (x_calC C_p_turning_moves hr (by decide) (by rfl) (a_cons (x_var 3) (a_cons (x_add (x_var 17) (x_var 16)) a_nil)) (len_acons (len_acons len_anil))) a_nil)) (len_acons (len_acons len_anil))))
    (b_one (s_if (c_not (c_tru (x_calC C_law_eq hr (by decide) (by rfl) (a_cons (x_calC C_p_exchanged hr (by decide) (by rfl) (a_cons (x_var 8) (a_cons (x_calC C_p_turning_moves hr (by decide) (by rfl) (a_cons (x_var 8) (a_cons (x_bty call_tuple_of calld_tuple (by rfl) T.b_tuple (by decide +kernel) (a_cons (x_var 17) a_nil)) a_nil)) (len_acons (len_acons len_anil))) a_nil)) (len_acons (len_acons len_anil))) (a_cons (x_var 10) a_nil)) (len_acons (len_acons len_anil))))) (b_one (s_ret x_bl)) b_nil)))))))))))))))))))))
    (b_cons (s_set (i := 3) sc_law.nd rfl (by first | exact Or.inl rfl | exact Or.inr rfl) (x_tup (a_cons (x_tup (a_cons x_int (a_cons x_int (a_cons x_int a_nil)))) (a_cons (x_tup (a_cons x_int (a_cons x_int (a_cons x_int a_nil)))) a_nil))))
    (b_one (s_ret (x_and (x_calC C_law_eq hr (by decide) (by rfl) (a_cons (x_calC C_p_exchanged hr (by decide) (by rfl) (a_cons (x_var 3) (a_cons (x_lst (n_lst (a_cons x_int a_nil))) a_nil)) (len_acons (len_acons len_anil))) (a_cons (x_var 3) a_nil)) (len_acons (len_acons len_anil))) (x_one (x_calC C_law_eq hr (by decide) (by rfl) (a_cons (x_calC C_p_exchanged hr (by decide) (by rfl) (a_cons (x_tup (a_cons (x_tup (a_cons x_int (a_cons x_int (a_cons x_int a_nil)))) (a_cons (x_tup (a_cons x_int (a_cons x_int (a_cons x_int a_nil)))) (a_cons (x_tup (a_cons x_int (a_cons x_int (a_cons x_int a_nil)))) a_nil)))) (a_cons (x_lst (n_lst (a_cons x_int (a_cons (x_neg x_int) a_nil)))) a_nil)) (len_acons (len_acons len_anil))) (a_cons (x_tup (a_cons (x_tup (a_cons x_int (a_cons x_int (a_cons x_int a_nil)))) (a_cons (x_tup (a_cons x_int (a_cons x_int (a_cons x_int a_nil)))) (a_cons (x_tup (a_cons x_int (a_cons x_int (a_cons x_int a_nil)))) a_nil)))) a_nil)) (len_acons (len_acons len_anil))))))))))
theorem all_ok (T : Txt mg) (D_p_inverse : DefC K mg "inverse" s_p_inverse ["perm"]) (D_p_turned : DefC K mg "turned" s_p_turned ["perm", "by"]) (D_p_exchanged_once : DefC K mg "exchanged_once" s_p_exchanged_once ["row", "move"]) (D_p_exchanged : DefC K mg "exchanged" s_p_exchanged ["row", "moves"]) (D_p_shows_exchanged : DefC K mg "shows_exchanged" s_p_shows_exchanged ["one", "other", "moves"]) (D_p_turn_by : DefC K mg "turn_by" s_p_turn_by ["many", "letter"]) (D_p_turning_moves : DefC K mg "turning_moves" s_p_turning_moves ["row", "way"]) (D_law_state : DefC K mg "_law_state" s_law_state ["script"]) (D_law_draw : DefC K mg "_law_draw" s_law_draw ["state", "many"]) (D_law_pick : DefC K mg "_law_pick" s_law_pick ["state", "row"]) (D_law_eq : DefC K mg "_law_eq" s_law_eq ["told", "due"]) (D_law_mixed : DefC K mg "_law_mixed" s_law_mixed ["state", "row"]) (D_law_times : DefC K mg "_law_times" s_law_times ["one", "other"]) (D_law_inverse : DefC K mg "_law_inverse" s_law_inverse ["one"]) (D_law_turned : DefC K mg "_law_turned" s_law_turned ["one", "by"]) (D_law_perm : DefC K mg "_law_perm" s_law_perm ["state", "n"]) (D_law_product : DefC K mg "_law_product" s_law_product ["n", "rows"]) (D_law_row : DefC K mg "_law_row" s_law_row ["state", "n", "many"]) (D_law_exchange : DefC K mg "_law_exchange" s_law_exchange ["row", "i"]) (D_law_some : DefC K mg "_law_some" s_law_some ["state", "many", "most"]) (D_law_way : DefC K mg "_law_way" s_law_way ["state", "many"]) (D_law_along : DefC K mg "_law_along" s_law_along ["row", "n", "way"]) {fa : Addr} {fda : FuncData} (D_law : DefX K mg "law" s_law ["script"] fa fda) : CalX P w K mg base "law" ["script"] 1 7 F_law fa fda := by
  have C_p_inverse := ok_p_inverse (P := P) (w := w) (base := base) T D_p_inverse
  have C_p_turned := ok_p_turned (P := P) (w := w) (base := base) T D_p_turned
  have C_p_exchanged_once := ok_p_exchanged_once (P := P) (w := w) (base := base) T D_p_exchanged_once C_p_inverse C_p_turned
  have C_p_exchanged := ok_p_exchanged (P := P) (w := w) (base := base) T D_p_exchanged C_p_exchanged_once
  have C_p_shows_exchanged := ok_p_shows_exchanged (P := P) (w := w) (base := base) T D_p_shows_exchanged C_p_exchanged
  have C_p_turn_by := ok_p_turn_by (P := P) (w := w) (base := base) T D_p_turn_by
  have C_p_turning_moves := ok_p_turning_moves (P := P) (w := w) (base := base) T D_p_turning_moves C_p_turn_by
  have C_law_state := ok_law_state (P := P) (w := w) (base := base) T D_law_state
  have C_law_draw := ok_law_draw (P := P) (w := w) (base := base) T D_law_draw
  have C_law_pick := ok_law_pick (P := P) (w := w) (base := base) T D_law_pick C_law_draw
  have C_law_eq := ok_law_eq (P := P) (w := w) (base := base) T D_law_eq 5
  have C_law_mixed := ok_law_mixed (P := P) (w := w) (base := base) T D_law_mixed C_law_draw
  have C_law_times := ok_law_times (P := P) (w := w) (base := base) T D_law_times
  have C_law_inverse := ok_law_inverse (P := P) (w := w) (base := base) T D_law_inverse
  have C_law_turned := ok_law_turned (P := P) (w := w) (base := base) T D_law_turned C_law_times C_law_inverse
  have C_law_perm := ok_law_perm (P := P) (w := w) (base := base) T D_law_perm C_law_mixed
  have C_law_product := ok_law_product (P := P) (w := w) (base := base) T D_law_product C_law_times
  have C_law_row := ok_law_row (P := P) (w := w) (base := base) T D_law_row C_law_draw C_law_pick C_law_inverse C_law_perm C_law_product
  have C_law_exchange := ok_law_exchange (P := P) (w := w) (base := base) T D_law_exchange C_law_inverse C_law_turned
  have C_law_some := ok_law_some (P := P) (w := w) (base := base) T D_law_some C_law_draw C_law_pick
  have C_law_way := ok_law_way (P := P) (w := w) (base := base) T D_law_way C_law_draw C_law_pick
  have C_law_along := ok_law_along (P := P) (w := w) (base := base) T D_law_along C_law_inverse C_law_product
  exact ok_law T D_law C_p_exchanged C_p_shows_exchanged C_p_turning_moves C_law_state C_law_draw C_law_eq C_law_turned C_law_perm C_law_row C_law_exchange C_law_some C_law_way C_law_along
theorem all_mk {l : PySem.W.OpenLaw} {w : World} {K : PySem.W.Frag} {h : Heap} {mg : Str → Option Value} {f1 f2 f3 f4 f5 f6 f7 f8 f9 f10 f11 f12 f13 f14 f15 f16 f17 f18 f19 f20 f21 f22 f23 : Addr} (X : K.In h) (G : h.Ns mainGlobals mg)
    {od1 an1 od2 an2 od3 an3 od4 an4 od5 an5 od6 an6 od7 an7 od8 an8 od9 an9 od10 an10 od11 an11 od12 an12 od13 an13 od14 an14 od15 an15 od16 an16 od17 an17 od18 an18 od19 an19 od20 an20 od21 an21 od22 an22 od23 an23 : Option Addr} {sl1 sl2 sl3 sl4 sl5 sl6 sl7 sl8 sl9 sl10 sl11 sl12 sl13 sl14 sl15 sl16 sl17 sl18 sl19 sl20 sl21 sl22 sl23 : Array (Option Value)} {oc1 kV1 dc1 pm1 cd1 ct1 oc2 kV2 dc2 pm2 cd2 ct2 oc3 kV3 dc3 pm3 cd3 ct3 oc4 kV4 dc4 pm4 cd4 ct4 oc5 kV5 dc5 pm5 cd5 ct5 oc6 kV6 dc6 pm6 cd6 ct6 oc7 kV7 dc7 pm7 cd7 ct7 oc8 kV8 dc8 pm8 cd8 ct8 oc9 kV9 dc9 pm9 cd9 ct9 oc10 kV10 dc10 pm10 cd10 ct10 oc11 kV11 dc11 pm11 cd11 ct11 oc12 kV12 dc12 pm12 cd12 ct12 oc13 kV13 dc13 pm13 cd13 ct13 oc14 kV14 dc14 pm14 cd14 ct14 oc15 kV15 dc15 pm15 cd15 ct15 oc16 kV16 dc16 pm16 cd16 ct16 oc17 kV17 dc17 pm17 cd17 ct17 oc18 kV18 dc18 pm18 cd18 ct18 oc19 kV19 dc19 pm19 cd19 ct19 oc20 kV20 dc20 pm20 cd20 ct20 oc21 kV21 dc21 pm21 cd21 ct21 oc22 kV22 dc22 pm22 cd22 ct22 oc23 kV23 dc23 pm23 cd23 ct23 : Value}
    (a1 : PySem.W.nsIn K mainGlobals "inverse" = some (some (.ref f1))) (l1 : K.lookup f1 = some ⟨oc1, od1, .func (PySem.W.fnOf "inverse" "inverse" (defArgs s_p_inverse) (defBody s_p_inverse) (defScope s_p_inverse) .none kV1 dc1 pm1 an1 cd1 ct1), sl1⟩) (c1 : PySem.W.codeIn K cd1 "inverse" = true) (k1 : PySem.W.keepIn K (.ref f1) = true)
    (a2 : PySem.W.nsIn K mainGlobals "turned" = some (some (.ref f2))) (l2 : K.lookup f2 = some ⟨oc2, od2, .func (PySem.W.fnOf "turned" "turned" (defArgs s_p_turned) (defBody s_p_turned) (defScope s_p_turned) .none kV2 dc2 pm2 an2 cd2 ct2), sl2⟩) (c2 : PySem.W.codeIn K cd2 "turned" = true) (k2 : PySem.W.keepIn K (.ref f2) = true)
    (a3 : PySem.W.nsIn K mainGlobals "exchanged_once" = some (some (.ref f3))) (l3 : K.lookup f3 = some ⟨oc3, od3, .func (PySem.W.fnOf "exchanged_once" "exchanged_once" (defArgs s_p_exchanged_once) (defBody s_p_exchanged_once) (defScope s_p_exchanged_once) .none kV3 dc3 pm3 an3 cd3 ct3), sl3⟩) (c3 : PySem.W.codeIn K cd3 "exchanged_once" = true) (k3 : PySem.W.keepIn K (.ref f3) = true)
    (a4 : PySem.W.nsIn K mainGlobals "exchanged" = some (some (.ref f4))) (l4 : K.lookup f4 = some ⟨oc4, od4, .func (PySem.W.fnOf "exchanged" "exchanged" (defArgs s_p_exchanged) (defBody s_p_exchanged) (defScope s_p_exchanged) .none kV4 dc4 pm4 an4 cd4 ct4), sl4⟩) (c4 : PySem.W.codeIn K cd4 "exchanged" = true) (k4 : PySem.W.keepIn K (.ref f4) = true)
    (a5 : PySem.W.nsIn K mainGlobals "shows_exchanged" = some (some (.ref f5))) (l5 : K.lookup f5 = some ⟨oc5, od5, .func (PySem.W.fnOf "shows_exchanged" "shows_exchanged" (defArgs s_p_shows_exchanged) (defBody s_p_shows_exchanged) (defScope s_p_shows_exchanged) .none kV5 dc5 pm5 an5 cd5 ct5), sl5⟩) (c5 : PySem.W.codeIn K cd5 "shows_exchanged" = true) (k5 : PySem.W.keepIn K (.ref f5) = true)
    (a6 : PySem.W.nsIn K mainGlobals "turn_by" = some (some (.ref f6))) (l6 : K.lookup f6 = some ⟨oc6, od6, .func (PySem.W.fnOf "turn_by" "turn_by" (defArgs s_p_turn_by) (defBody s_p_turn_by) (defScope s_p_turn_by) .none kV6 dc6 pm6 an6 cd6 ct6), sl6⟩) (c6 : PySem.W.codeIn K cd6 "turn_by" = true) (k6 : PySem.W.keepIn K (.ref f6) = true)
    (a7 : PySem.W.nsIn K mainGlobals "turning_moves" = some (some (.ref f7))) (l7 : K.lookup f7 = some ⟨oc7, od7, .func (PySem.W.fnOf "turning_moves" "turning_moves" (defArgs s_p_turning_moves) (defBody s_p_turning_moves) (defScope s_p_turning_moves) .none kV7 dc7 pm7 an7 cd7 ct7), sl7⟩) (c7 : PySem.W.codeIn K cd7 "turning_moves" = true) (k7 : PySem.W.keepIn K (.ref f7) = true)
    (a8 : PySem.W.nsIn K mainGlobals "_law_state" = some (some (.ref f8))) (l8 : K.lookup f8 = some ⟨oc8, od8, .func (PySem.W.fnOf "_law_state" "_law_state" (defArgs s_law_state) (defBody s_law_state) (defScope s_law_state) .none kV8 dc8 pm8 an8 cd8 ct8), sl8⟩) (c8 : PySem.W.codeIn K cd8 "_law_state" = true) (k8 : PySem.W.keepIn K (.ref f8) = true)
    (a9 : PySem.W.nsIn K mainGlobals "_law_draw" = some (some (.ref f9))) (l9 : K.lookup f9 = some ⟨oc9, od9, .func (PySem.W.fnOf "_law_draw" "_law_draw" (defArgs s_law_draw) (defBody s_law_draw) (defScope s_law_draw) .none kV9 dc9 pm9 an9 cd9 ct9), sl9⟩) (c9 : PySem.W.codeIn K cd9 "_law_draw" = true) (k9 : PySem.W.keepIn K (.ref f9) = true)
    (a10 : PySem.W.nsIn K mainGlobals "_law_pick" = some (some (.ref f10))) (l10 : K.lookup f10 = some ⟨oc10, od10, .func (PySem.W.fnOf "_law_pick" "_law_pick" (defArgs s_law_pick) (defBody s_law_pick) (defScope s_law_pick) .none kV10 dc10 pm10 an10 cd10 ct10), sl10⟩) (c10 : PySem.W.codeIn K cd10 "_law_pick" = true) (k10 : PySem.W.keepIn K (.ref f10) = true)
    (a11 : PySem.W.nsIn K mainGlobals "_law_eq" = some (some (.ref f11))) (l11 : K.lookup f11 = some ⟨oc11, od11, .func (PySem.W.fnOf "_law_eq" "_law_eq" (defArgs s_law_eq) (defBody s_law_eq) (defScope s_law_eq) .none kV11 dc11 pm11 an11 cd11 ct11), sl11⟩) (c11 : PySem.W.codeIn K cd11 "_law_eq" = true) (k11 : PySem.W.keepIn K (.ref f11) = true)
    (a12 : PySem.W.nsIn K mainGlobals "_law_mixed" = some (some (.ref f12))) (l12 : K.lookup f12 = some ⟨oc12, od12, .func (PySem.W.fnOf "_law_mixed" "_law_mixed" (defArgs s_law_mixed) (defBody s_law_mixed) (defScope s_law_mixed) .none kV12 dc12 pm12 an12 cd12 ct12), sl12⟩) (c12 : PySem.W.codeIn K cd12 "_law_mixed" = true) (k12 : PySem.W.keepIn K (.ref f12) = true)
    (a13 : PySem.W.nsIn K mainGlobals "_law_times" = some (some (.ref f13))) (l13 : K.lookup f13 = some ⟨oc13, od13, .func (PySem.W.fnOf "_law_times" "_law_times" (defArgs s_law_times) (defBody s_law_times) (defScope s_law_times) .none kV13 dc13 pm13 an13 cd13 ct13), sl13⟩) (c13 : PySem.W.codeIn K cd13 "_law_times" = true) (k13 : PySem.W.keepIn K (.ref f13) = true)
    (a14 : PySem.W.nsIn K mainGlobals "_law_inverse" = some (some (.ref f14))) (l14 : K.lookup f14 = some ⟨oc14, od14, .func (PySem.W.fnOf "_law_inverse" "_law_inverse" (defArgs s_law_inverse) (defBody s_law_inverse) (defScope s_law_inverse) .none kV14 dc14 pm14 an14 cd14 ct14), sl14⟩) (c14 : PySem.W.codeIn K cd14 "_law_inverse" = true) (k14 : PySem.W.keepIn K (.ref f14) = true)
    (a15 : PySem.W.nsIn K mainGlobals "_law_turned" = some (some (.ref f15))) (l15 : K.lookup f15 = some ⟨oc15, od15, .func (PySem.W.fnOf "_law_turned" "_law_turned" (defArgs s_law_turned) (defBody s_law_turned) (defScope s_law_turned) .none kV15 dc15 pm15 an15 cd15 ct15), sl15⟩) (c15 : PySem.W.codeIn K cd15 "_law_turned" = true) (k15 : PySem.W.keepIn K (.ref f15) = true)
    (a16 : PySem.W.nsIn K mainGlobals "_law_perm" = some (some (.ref f16))) (l16 : K.lookup f16 = some ⟨oc16, od16, .func (PySem.W.fnOf "_law_perm" "_law_perm" (defArgs s_law_perm) (defBody s_law_perm) (defScope s_law_perm) .none kV16 dc16 pm16 an16 cd16 ct16), sl16⟩) (c16 : PySem.W.codeIn K cd16 "_law_perm" = true) (k16 : PySem.W.keepIn K (.ref f16) = true)
    (a17 : PySem.W.nsIn K mainGlobals "_law_product" = some (some (.ref f17))) (l17 : K.lookup f17 = some ⟨oc17, od17, .func (PySem.W.fnOf "_law_product" "_law_product" (defArgs s_law_product) (defBody s_law_product) (defScope s_law_product) .none kV17 dc17 pm17 an17 cd17 ct17), sl17⟩) (c17 : PySem.W.codeIn K cd17 "_law_product" = true) (k17 : PySem.W.keepIn K (.ref f17) = true)
    (a18 : PySem.W.nsIn K mainGlobals "_law_row" = some (some (.ref f18))) (l18 : K.lookup f18 = some ⟨oc18, od18, .func (PySem.W.fnOf "_law_row" "_law_row" (defArgs s_law_row) (defBody s_law_row) (defScope s_law_row) .none kV18 dc18 pm18 an18 cd18 ct18), sl18⟩) (c18 : PySem.W.codeIn K cd18 "_law_row" = true) (k18 : PySem.W.keepIn K (.ref f18) = true)
    (a19 : PySem.W.nsIn K mainGlobals "_law_exchange" = some (some (.ref f19))) (l19 : K.lookup f19 = some ⟨oc19, od19, .func (PySem.W.fnOf "_law_exchange" "_law_exchange" (defArgs s_law_exchange) (defBody s_law_exchange) (defScope s_law_exchange) .none kV19 dc19 pm19 an19 cd19 ct19), sl19⟩) (c19 : PySem.W.codeIn K cd19 "_law_exchange" = true) (k19 : PySem.W.keepIn K (.ref f19) = true)
    (a20 : PySem.W.nsIn K mainGlobals "_law_some" = some (some (.ref f20))) (l20 : K.lookup f20 = some ⟨oc20, od20, .func (PySem.W.fnOf "_law_some" "_law_some" (defArgs s_law_some) (defBody s_law_some) (defScope s_law_some) .none kV20 dc20 pm20 an20 cd20 ct20), sl20⟩) (c20 : PySem.W.codeIn K cd20 "_law_some" = true) (k20 : PySem.W.keepIn K (.ref f20) = true)
    (a21 : PySem.W.nsIn K mainGlobals "_law_way" = some (some (.ref f21))) (l21 : K.lookup f21 = some ⟨oc21, od21, .func (PySem.W.fnOf "_law_way" "_law_way" (defArgs s_law_way) (defBody s_law_way) (defScope s_law_way) .none kV21 dc21 pm21 an21 cd21 ct21), sl21⟩) (c21 : PySem.W.codeIn K cd21 "_law_way" = true) (k21 : PySem.W.keepIn K (.ref f21) = true)
    (a22 : PySem.W.nsIn K mainGlobals "_law_along" = some (some (.ref f22))) (l22 : K.lookup f22 = some ⟨oc22, od22, .func (PySem.W.fnOf "_law_along" "_law_along" (defArgs s_law_along) (defBody s_law_along) (defScope s_law_along) .none kV22 dc22 pm22 an22 cd22 ct22), sl22⟩) (c22 : PySem.W.codeIn K cd22 "_law_along" = true) (k22 : PySem.W.keepIn K (.ref f22) = true)
    (a23 : PySem.W.nsIn K mainGlobals "law" = some (some (.ref f23))) (l23 : K.lookup f23 = some ⟨oc23, od23, .func (PySem.W.fnOf "law" "law" (defArgs s_law) (defBody s_law) (defScope s_law) .none kV23 dc23 pm23 an23 cd23 ct23), sl23⟩) (c23 : PySem.W.codeIn K cd23 "law" = true) (k23 : PySem.W.keepIn K (.ref f23) = true)
    (z_abs : PySem.W.nsIn K mainGlobals "abs" = some none)
    (z_any : PySem.W.nsIn K mainGlobals "any" = some none)
    (z_bool : PySem.W.nsIn K mainGlobals "bool" = some none)
    (z_enumerate : PySem.W.nsIn K mainGlobals "enumerate" = some none)
    (z_int : PySem.W.nsIn K mainGlobals "int" = some none)
    (z_isinstance : PySem.W.nsIn K mainGlobals "isinstance" = some none)
    (z_len : PySem.W.nsIn K mainGlobals "len" = some none)
    (z_list : PySem.W.nsIn K mainGlobals "list" = some none)
    (z_range : PySem.W.nsIn K mainGlobals "range" = some none)
    (z_reversed : PySem.W.nsIn K mainGlobals "reversed" = some none)
    (z_str : PySem.W.nsIn K mainGlobals "str" = some none)
    (z_tuple : PySem.W.nsIn K mainGlobals "tuple" = some none)
    : ∃ (st : Stmt) (f : Addr) (fd : FuncData), DefX K mg "law" st ["script"] f fd ∧ ∀ base : Heap, K.In base → base.Ns mainGlobals mg → CalX l.prog w K mg base "law" ["script"] 1 7 F_law f fd := by
  have T : Txt mg := ⟨PySem.W.mg_none_of X G z_abs, PySem.W.mg_none_of X G z_any, PySem.W.mg_none_of X G z_bool, PySem.W.mg_none_of X G z_enumerate, PySem.W.mg_none_of X G z_int, PySem.W.mg_none_of X G z_isinstance, PySem.W.mg_none_of X G z_len, PySem.W.mg_none_of X G z_list, PySem.W.mg_none_of X G z_range, PySem.W.mg_none_of X G z_reversed, PySem.W.mg_none_of X G z_str, PySem.W.mg_none_of X G z_tuple⟩
  have D1 : DefC K mg "inverse" s_p_inverse ["perm"] := defC_mk X G a1 l1 c1 k1 fun _ _ _ _ _ _ us hl => match us, hl with | [_], _ => rfl
  have D2 : DefC K mg "turned" s_p_turned ["perm", "by"] := defC_mk X G a2 l2 c2 k2 fun _ _ _ _ _ _ us hl => match us, hl with | [_, _], _ => rfl
  have D3 : DefC K mg "exchanged_once" s_p_exchanged_once ["row", "move"] := defC_mk X G a3 l3 c3 k3 fun _ _ _ _ _ _ us hl => match us, hl with | [_, _], _ => rfl
  have D4 : DefC K mg "exchanged" s_p_exchanged ["row", "moves"] := defC_mk X G a4 l4 c4 k4 fun _ _ _ _ _ _ us hl => match us, hl with | [_, _], _ => rfl
  have D5 : DefC K mg "shows_exchanged" s_p_shows_exchanged ["one", "other", "moves"] := defC_mk X G a5 l5 c5 k5 fun _ _ _ _ _ _ us hl => match us, hl with | [_, _, _], _ => rfl
  have D6 : DefC K mg "turn_by" s_p_turn_by ["many", "letter"] := defC_mk X G a6 l6 c6 k6 fun _ _ _ _ _ _ us hl => match us, hl with | [_, _], _ => rfl
  have D7 : DefC K mg "turning_moves" s_p_turning_moves ["row", "way"] := defC_mk X G a7 l7 c7 k7 fun _ _ _ _ _ _ us hl => match us, hl with | [_, _], _ => rfl
  have D8 : DefC K mg "_law_state" s_law_state ["script"] := defC_mk X G a8 l8 c8 k8 fun _ _ _ _ _ _ us hl => match us, hl with | [_], _ => rfl
  have D9 : DefC K mg "_law_draw" s_law_draw ["state", "many"] := defC_mk X G a9 l9 c9 k9 fun _ _ _ _ _ _ us hl => match us, hl with | [_, _], _ => rfl
  have D10 : DefC K mg "_law_pick" s_law_pick ["state", "row"] := defC_mk X G a10 l10 c10 k10 fun _ _ _ _ _ _ us hl => match us, hl with | [_, _], _ => rfl
  have D11 : DefC K mg "_law_eq" s_law_eq ["told", "due"] := defC_mk X G a11 l11 c11 k11 fun _ _ _ _ _ _ us hl => match us, hl with | [_, _], _ => rfl
  have D12 : DefC K mg "_law_mixed" s_law_mixed ["state", "row"] := defC_mk X G a12 l12 c12 k12 fun _ _ _ _ _ _ us hl => match us, hl with | [_, _], _ => rfl
  have D13 : DefC K mg "_law_times" s_law_times ["one", "other"] := defC_mk X G a13 l13 c13 k13 fun _ _ _ _ _ _ us hl => match us, hl with | [_, _], _ => rfl
  have D14 : DefC K mg "_law_inverse" s_law_inverse ["one"] := defC_mk X G a14 l14 c14 k14 fun _ _ _ _ _ _ us hl => match us, hl with | [_], _ => rfl
  have D15 : DefC K mg "_law_turned" s_law_turned ["one", "by"] := defC_mk X G a15 l15 c15 k15 fun _ _ _ _ _ _ us hl => match us, hl with | [_, _], _ => rfl
  have D16 : DefC K mg "_law_perm" s_law_perm ["state", "n"] := defC_mk X G a16 l16 c16 k16 fun _ _ _ _ _ _ us hl => match us, hl with | [_, _], _ => rfl
  have D17 : DefC K mg "_law_product" s_law_product ["n", "rows"] := defC_mk X G a17 l17 c17 k17 fun _ _ _ _ _ _ us hl => match us, hl with | [_, _], _ => rfl
  have D18 : DefC K mg "_law_row" s_law_row ["state", "n", "many"] := defC_mk X G a18 l18 c18 k18 fun _ _ _ _ _ _ us hl => match us, hl with | [_, _, _], _ => rfl
  have D19 : DefC K mg "_law_exchange" s_law_exchange ["row", "i"] := defC_mk X G a19 l19 c19 k19 fun _ _ _ _ _ _ us hl => match us, hl with | [_, _], _ => rfl
  have D20 : DefC K mg "_law_some" s_law_some ["state", "many", "most"] := defC_mk X G a20 l20 c20 k20 fun _ _ _ _ _ _ us hl => match us, hl with | [_, _, _], _ => rfl
  have D21 : DefC K mg "_law_way" s_law_way ["state", "many"] := defC_mk X G a21 l21 c21 k21 fun _ _ _ _ _ _ us hl => match us, hl with | [_, _], _ => rfl
  have D22 : DefC K mg "_law_along" s_law_along ["row", "n", "way"] := defC_mk X G a22 l22 c22 k22 fun _ _ _ _ _ _ us hl => match us, hl with | [_, _, _], _ => rfl
  have D23 : DefC K mg "law" s_law ["script"] := defC_mk X G a23 l23 c23 k23 fun _ _ _ _ _ _ us hl => match us, hl with | [_], _ => rfl
  obtain ⟨fa, fda, D⟩ := D23.ex
  exact ⟨s_law, fa, fda, D, fun base _ _ => all_ok T D1 D2 D3 D4 D5 D6 D7 D8 D9 D10 D11 D12 D13 D14 D15 D16 D17 D18 D19 D20 D21 D22 D⟩
end
end Ms.Law
set_option Elab.async false
set_option linter.all false
set_option maxRecDepth 100000
set_option maxHeartbeats 4000000
namespace Ms.Law
open PySem PySem.Spec PyProof.Rows L2 Ms
set_option autoImplicit false
def stW (cells : List Int) (seed : Int) : List Wo := [.lst (cells.map .int), .lst [.ob 0, .int seed]]
def IsSt (W : List Wo) : Prop := ∃ cells seed, W = stW cells seed ∧ (∀ c ∈ cells, 0 ≤ c) ∧ cells.length ≤ 63
def w0 (S : Sx) : Nat := match S.w with
  | .lst l :: _ => l.length
  | _ => 0
theorem dn_of {z : Int} (h : 0 ≤ z) : D.int z = dn z.toNat := by
  show D.int z = D.int (z.toNat : Int)
  rw [Int.toNat_of_nonneg h]
theorem spec_state {ns : List Int} (h : ns.length ≤ 63) : WpF F_law_state [.rd (ns.map .int)] [] (fun d W' => IsSt W' ∧ d = .ob 1) := by
  unfold F_law_state
  rw [wpf]
  simp [stEnv, List.replicate]
  refine wp_forL _ (fun i S => ∃ (z : Int) (s : Sl), S = ⟨[.val (.rd (ns.map .int)), .val (.int z), s], []⟩ ∧ ∀ l, s ≠ .cell l) _ ⟨7, .un, rfl, by simp⟩ ?_ ?_
  · rintro i d S hi ⟨z, s, rfl, _⟩
    rw [List.getElem?_map] at hi
    cases hz : ns[i]? with
    | none => simp [hz] at hi
    | some c =>
      simp [hz] at hi
      subst hi
      simp
  · rintro S ⟨z, s, rfl, hs⟩
    simp
    refine ⟨⟨hs, by simp [mostL]; omega⟩, ?_⟩
    refine wp_lcL _ (fun i ys S => ∃ cs : List Int, S = ⟨[.val (.rd (ns.map .int)), .val (.int z), .un], []⟩ ∧ ys = cs.map .int ∧ cs.length = i ∧ ∀ c ∈ cs, 0 ≤ c) [] _ _ ⟨[], by simp [unS], rfl, rfl, by simp⟩ ?_ ?_
    · rintro i d ys S hi ⟨cs, rfl, rfl, hl, h0⟩
      rw [List.getElem?_map] at hi
      cases hz : ns[i]? with
      | none => simp [hz] at hi
      | some c =>
        simp [hz] at hi
        subst hi
        simp
        refine ⟨cs ++ [if c < 0 then -c else c], by simp, by simp [hl], ?_⟩
        intro x hx
        simp at hx
        rcases hx with hx | hx
        · exact h0 x hx
        · subst hx; split <;> omega
    · rintro ys S ⟨cs, rfl, hy, hl, h0⟩
      simp at hy
      subst hy
      simp [mostL]
      exact ⟨cs, z + 1, rfl, h0, by simp at hl; omega⟩
theorem spec_draw {W : List Wo} {m : Int} (h : IsSt W) (hm : 0 < m) (hm2 : m < 1073741824) : WpF F_law_draw [.ob 1, .int m] W (fun d W' => IsSt W' ∧ ∃ r : Nat, d = dn r ∧ (r : Int) < m) := by
  obtain ⟨cells, seed, rfl, h0, h1⟩ := h
  have fin : ∀ z : Int, ∃ r : Nat, z % m = (r : Int) ∧ (r : Int) < m := fun z => ⟨(z % m).toNat, by
    have := Int.emod_nonneg z (show m ≠ 0 by omega)
    omega, by
    have := Int.emod_nonneg z (show m ≠ 0 by omega)
    have := Int.emod_lt_of_pos z hm
    omega⟩
  unfold F_law_draw
  rw [wpf]
  simp [stEnv, stW, List.replicate]
  refine wp_while (fun S => ∃ cells : List Int, S = ⟨[.val (.ob 1), .val (.int m), .val (.ob 0), .un, .un], stW cells seed⟩ ∧ (∀ c ∈ cells, 0 ≤ c) ∧ cells.length ≤ 63) w0 ⟨cells, rfl, h0, h1⟩ ?_ ?_
  · simp [w0]; omega
  · rintro S ⟨cs, rfl, h0, h1⟩
    cases cs with
    | nil =>
      simp [stW]
      exact ⟨hm, ⟨[], _, rfl, by simp, by simp⟩, fin _⟩
    | cons c cs =>
      simp [stW]
      by_cases hc : c = 0
      · refine .inr ⟨hc, ⟨cs, rfl, fun x hx => h0 x (by simp [hx]), by simp at h1; omega⟩, by simp [w0]⟩
      · refine .inl ⟨hc, ⟨hm, hm2⟩, hm, ⟨c / m :: cs, _, rfl, ?_, by simpa using h1⟩, fin _⟩
        intro x hx
        simp at hx
        rcases hx with rfl | hx
        · exact Int.ediv_nonneg (h0 c (by simp)) (by omega)
        · exact h0 x (by simp [hx])
theorem frz_seq {x : D} {l : List D} {S : Sx} (h : frzC x = some l) : seqC S x = some l := by
  cases x <;> simp_all [frzC]
theorem frz_cr {x : D} {l : List D} (h : frzC x = some l) : x.isCr = false := by
  cases x <;> simp_all [frzC]
theorem spec_pick {W : List Wo} {x : D} {l : List D} (h : IsSt W) (hx : frzC x = some l) (h0 : l ≠ []) (hl : l.length ≤ 1000000) (hp : ∀ d ∈ l, d.isCr = false) : WpF F_law_pick [.ob 1, x] W (fun d W' => IsSt W' ∧ d ∈ l) := by
  unfold F_law_pick
  rw [wpf]
  simp [stEnv, List.replicate, frz_seq hx]
  have pos : 0 < l.length := List.length_pos_iff.mpr h0
  refine (spec_draw h (m := l.length) (by omega) (by omega)).mono ?_
  rintro d W' ⟨h', r, rfl, hr⟩
  have hr' : r < l.length := by omega
  simp [frz_seq hx, hr', h', hp]
theorem spec_mixed {W : List Wo} {x : D} {l : List D} (h : IsSt W) (hx : frzC x = some l) (hl : l.length ≤ 1000000) (hp : ∀ d ∈ l, d.isCr = false) : WpF F_law_mixed [.ob 1, x] W (fun d W' => IsSt W' ∧ ∃ m, d = .lst m ∧ m.Perm l) := by
  unfold F_law_mixed
  rw [wpf]
  simp [stEnv, List.replicate, frz_seq hx, mostL]
  refine ⟨by omega, ?_⟩
  refine wp_forL _ (fun i S => ∃ (W' : List Wo) (s : Sl) (left told : List D), S = ⟨[.val (.ob 1), .val x, s, .cell left, .cell told], W'⟩ ∧ IsSt W' ∧ (told ++ left).Perm l ∧ left.length + i = l.length) _ ⟨W, .un, l, [], rfl, h, by simp, rfl⟩ ?_ ?_
  · rintro i d S hi ⟨W', s, left, told, rfl, hW, pm, hlen⟩
    have hi' : i < l.length := by
      have := (List.getElem?_eq_some_iff.mp hi).1
      simpa [rgD] using this
    simp
    refine (spec_draw hW (m := left.length) (by omega) (by omega)).mono ?_
    rintro d2 W2 ⟨h2, r, rfl, hr⟩
    have hr' : r < left.length := by omega
    have hmem : left[r] ∈ l := pm.mem_iff.mp (by simp)
    simp [hr', mostL]
    have hlen2 := pm.length_eq
    simp at hlen2
    refine ⟨by omega, ⟨hp _ hmem, by omega⟩, W2, _, _, _, ⟨⟨rfl, rfl, rfl⟩, rfl⟩, h2, ?_, ?_⟩
    · refine List.Perm.trans ?_ pm
      rw [List.append_assoc]
      refine List.Perm.append_left _ ?_
      exact perm_eraseIdx hr'
    · rw [List.length_eraseIdx_of_lt hr']; omega
  · rintro S ⟨W', s, left, told, rfl, hW, pm, hlen⟩
    simp [rgD] at hlen
    simp [hW]
    rw [hlen] at pm
    simpa using pm

theorem mem_map_dn {l : List Nat} {m : List D} (h : m.Perm (l.map dn)) : ∃ k : List Nat, m = k.map dn ∧ k.Perm l := by
  have hm : ∀ d ∈ m, ∃ n : Nat, d = dn n := fun d hd => by
    have := h.mem_iff.mp hd
    simp at this
    obtain ⟨a, _, rfl⟩ := this
    exact ⟨a, rfl⟩
  let g : D → Nat := fun d => match d with
    | .int i => i.toNat
    | _ => 0
  have hg : ∀ n : Nat, g (dn n) = n := fun n => by simp [g]
  have e1 : ∀ m : List D, (∀ d ∈ m, ∃ n : Nat, d = dn n) → (m.map g).map dn = m := fun m hm => by
    induction m with
    | nil => rfl
    | cons d ds ih =>
      obtain ⟨n, rfl⟩ := hm d (by simp)
      simp only [List.map_cons, hg, ih fun d hd => hm d (by simp [hd])]
  refine ⟨m.map g, (e1 m hm).symm, ?_⟩
  have := h.map g
  rwa [List.map_map, show g ∘ dn = id from funext fun n => hg n, List.map_id] at this
theorem plB_row {L : List (List Nat)} {r : D} (h : r ∈ L.map lN) : plB 4 r = true := by
  simp at h
  obtain ⟨a, _, rfl⟩ := h
  simp
theorem mem_dn {x : Nat} {l : List Nat} : dn x ∈ l.map dn ↔ x ∈ l := by
  rw [List.mem_map]
  constructor
  · rintro ⟨a, h, e⟩
    have : a = x := by have := D.int.inj e; omega
    rwa [← this]
  · exact fun h => ⟨x, h, rfl⟩
/-- the sheets told by one comprehension -/
theorem wp_lcMap {α : Type} {own : List Nat} {tg : D → Sx → Option Sx} {elt : Mx D} {e g : α → D} {l : List α} {S : Sx} {Q : List D → Sx → Prop}
    (h : ∀ a ∈ l, Wg (tg (e a) S) fun S1 => Wp elt S1 fun y S3 => y = g a ∧ y.isCr = false ∧ { S3 with env := unS S3.env own } = S) (q : Q (l.map g) S) : Wp (lcL own tg cYes elt (l.map e)) S Q := by
  refine wp_lcL _ (fun i ys S' => S' = S ∧ ys = (l.take i).map g) [] S Q ⟨rfl, by simp⟩ ?_ ?_
  · rintro i d ys S' hi ⟨rfl, rfl⟩
    rw [List.getElem?_map] at hi
    cases hz : l[i]? with
    | none => simp [hz] at hi
    | some a =>
      simp [hz] at hi
      subst hi
      obtain ⟨S1, e1, w⟩ := h a (List.mem_of_getElem? hz)
      refine ⟨S1, e1, ?_⟩
      simp
      refine w.mono ?_
      rintro y S3 ⟨rfl, hc, e3⟩
      refine ⟨hc, e3, ?_⟩
      simp [List.take_add_one, hz]
  · rintro ys S' ⟨rfl, hy⟩
    simp at hy
    rw [hy]
    exact q
theorem enumD_get {l : List D} : ∀ {k i : Nat} {d : D}, (enumD k l)[i]? = some d → ∃ x, l[i]? = some x ∧ d = .tup [dn (k + i), x] := by
  induction l with
  | nil => intro k i d h; simp [enumD] at h
  | cons a l ih =>
    intro k i d h
    cases i with
    | zero => simp [enumD] at h; exact ⟨a, rfl, by simp [← h]⟩
    | succ i =>
      simp only [enumD, List.getElem?_cons_succ] at h
      obtain ⟨x, h1, h2⟩ := ih h
      exact ⟨x, by simpa using h1, by rw [h2]; congr 3; omega⟩
@[simp] theorem enumD_len {l : List D} : ∀ {k : Nat}, (enumD k l).length = l.length := by
  induction l with
  | nil => intro k; rfl
  | cons a l ih => intro k; simp [enumD, ih]
theorem enumN_get {l : List Nat} {i : Nat} {d : D} (h : (enumD 0 (l.map dn))[i]? = some d) : i < l.length ∧ d = .tup [dn i, dn (ap l i)] := by
  obtain ⟨x, h1, h2⟩ := enumD_get h
  rw [List.getElem?_map] at h1
  cases e : l[i]? with
  | none => simp [e] at h1
  | some y =>
    simp [e] at h1
    subst h1
    exact ⟨(List.getElem?_eq_some_iff.mp e).1, by rw [h2, ap_of e]; simp⟩

@[simp] theorem wp_isN {S : Sx} {x : D} {Q : D → Sx → Prop} : Wp (dIs x .non) S Q ↔ x.isCr = false ∧ Q (.bl (isNon x)) S := by
  unfold dIs
  cases h : x.isCr <;> simp [Wp, mfail, dIsN]
@[simp] theorem wp_isntN {S : Sx} {x : D} {Q : D → Sx → Prop} : Wp (dIsnt x .non) S Q ↔ x.isCr = false ∧ Q (.bl (!isNon x)) S := by
  unfold dIsnt
  cases h : x.isCr <;> simp [Wp, mfail, dNotN]
@[simp] theorem tru_bl {S : Sx} {b : Bool} : truD S (.bl b) = some b := rfl
@[simp] theorem isNon_int {i : Int} : isNon (.int i) = false := rfl
@[simp] theorem isNon_tup {l : List D} : isNon (.tup l) = false := rfl
@[simp] theorem isNon_lst {l : List D} : isNon (.lst l) = false := rfl
@[simp] theorem isNon_non : isNon .non = true := rfl
def okD : Nat → D → Prop
  | 0, d => ∃ i, d = .int i
  | k + 1, d => (∃ i, d = .int i) ∨ ∃ l, (d = .tup l ∨ d = .lst l) ∧ l.length ≤ 1000000 ∧ ∀ x ∈ l, okD k x
theorem okD_int {k : Nat} {i : Int} : okD k (.int i) := by
  cases k with
  | zero => exact ⟨i, rfl⟩
  | succ k => exact .inl ⟨i, rfl⟩
theorem okD_tN {k : Nat} {l : List Nat} (h : l.length ≤ 1000000) : okD (k + 1) (tN l) := .inr ⟨_, .inl rfl, by simpa using h, fun x hx => by
  simp at hx
  obtain ⟨a, _, rfl⟩ := hx
  exact okD_int⟩
theorem okD_cr {k : Nat} {d : D} (h : okD k d) : d.isCr = false := by
  cases k with
  | zero => obtain ⟨i, rfl⟩ := h; rfl
  | succ k => rcases h with ⟨i, rfl⟩ | ⟨l, rfl | rfl, _⟩ <;> rfl
theorem eq_int {i : Int} {k : Nat} {W : List Wo} : WpF (F_law_eq (k + 1)) [.int i, .int i] W (fun e W' => W' = W ∧ e = .bl true) := by
  unfold F_law_eq
  rw [wpf]
  simp [stEnv, List.replicate, isT]
theorem eq_lc {d : D} {l : List D} {k : Nat} {W : List Wo} (hd : ∀ S, seqC S d = some l) (hx : ∀ x ∈ l, x.isCr = false ∧ WpF (F_law_eq k) [x, x] W (fun e W' => W' = W ∧ e = .bl true)) (hl : l.length ≤ 1000000) (hc : d.isCr = false) {Q : List D → Sx → Prop} (q : Q [] ⟨[.val d, .val d, .un], W⟩) :
    Wp (lcL [2] (gtName 2) (cNot (cTru (eCall (F_law_eq k) (aCons (e2 dIx (eVar 0) (eVar 2)) (aCons (e2 dIx (eVar 1) (eVar 2)) aNil))))) (eVar 2) (rgD 0 (l.length : Int))) ⟨[.val d, .val d, .un], W⟩ Q := by
  rw [rgD_nat]
  refine wp_lcFil (c := fun _ => false) ?_ (by rw [show (List.range l.length).filter (fun _ => false) = [] from by simp [List.filter_eq_nil_iff]]; exact q)
  intro i hi
  have hil : i < l.length := by simpa using hi
  have g : l[i]? = some l[i] := List.getElem?_eq_getElem hil
  obtain ⟨h1, h2⟩ := hx l[i] (List.getElem_mem hil)
  simp [hd, g, h1]
  refine h2.mono ?_
  rintro e W' ⟨rfl, rfl⟩
  simp
theorem spec_eq : ∀ (k : Nat) (d : D) (W : List Wo), okD k d → WpF (F_law_eq (k + 1)) [d, d] W (fun e W' => W' = W ∧ e = .bl true)
  | 0, d, W, h => by
    obtain ⟨i, rfl⟩ := h
    exact eq_int
  | k + 1, d, W, h => by
    rcases h with ⟨i, rfl⟩ | ⟨l, rfl | rfl, hl, hx⟩
    · exact eq_int
    · unfold F_law_eq
      rw [wpf]
      simp [stEnv, List.replicate, isT]
      refine ⟨by omega, by simp [mostL]; omega, eq_lc (fun _ => rfl) (fun x hxl => ⟨okD_cr (hx x hxl), spec_eq k x W (hx x hxl)⟩) hl rfl ?_⟩
      simp
    · unfold F_law_eq
      rw [wpf]
      simp [stEnv, List.replicate, isT]
      refine ⟨by omega, by simp [mostL]; omega, eq_lc (fun _ => rfl) (fun x hxl => ⟨okD_cr (hx x hxl), spec_eq k x W (hx x hxl)⟩) hl rfl ?_⟩
      simp
end Ms.Law
set_option Elab.async false
set_option linter.all false
set_option maxRecDepth 100000
set_option maxHeartbeats 4000000
namespace Ms.Law
open PySem PySem.Spec PyProof.Rows L2 Ms
set_option autoImplicit false
theorem spec_times {W : List Wo} {n : Nat} {p q : List Nat} (hp : IsPerm n p) (hq : IsPerm n q) (hn : n ≤ 100000) : WpF F_law_times [tN p, tN q] W (fun d W' => W' = W ∧ d = tN (p.map (ap q))) := by
  unfold F_law_times
  rw [wpf]
  simp [stEnv, List.replicate, mostL, hp.len]
  refine ⟨by omega, ?_⟩
  refine wp_lcMap (g := fun x => dn (ap q x)) ?_ ?_
  · intro x hx
    obtain ⟨i, hi, e⟩ := List.mem_iff_getElem.mp hx
    have hxn : x < n := by
      have := hp.lt i (by rw [← hp.len]; exact hi)
      rwa [ap_of (List.getElem?_eq_some_iff.mpr ⟨hi, e⟩)] at this
    have g := get_ap (p := q) (x := x) (by rw [hq.len]; exact hxn)
    simp [g]
  · simp [Function.comp_def]
theorem spec_inverse {W : List Wo} {n : Nat} {p : List Nat} (hp : IsPerm n p) (hn : n ≤ 100000) : WpF F_p_inverse [tN p] W (fun d W' => W' = W ∧ ∃ q, d = tN q ∧ q.length = n ∧ ∀ x, x < n → ap q (ap p x) = x) := by
  unfold F_p_inverse
  rw [wpf]
  simp [stEnv, List.replicate, mostL, hp.len]
  refine ⟨by omega, ?_⟩
  refine wp_forL _ (fun i S => ∃ (s2 s3 : Sl) (told : List Nat), S = ⟨[.val (tN p), .cell (told.map dn), s2, s3], W⟩ ∧ told.length = n ∧ ∀ x, x < i → ap told (ap p x) = x) _ ⟨.un, .un, List.replicate n 0, by simp, by simp, by simp⟩ ?_ ?_
  · rintro i d S hi ⟨s2, s3, told, rfl, hl, h⟩
    obtain ⟨hi', rfl⟩ := enumN_get hi
    rw [hp.len] at hi'
    have hlt := hp.lt i hi'
    simp [hl, hlt]
    refine ⟨_, _, told.set (ap p i) i, ⟨by simp [List.map_set], rfl, rfl⟩, by simp [hl], fun x hx => ?_⟩
    rw [ap_set (by omega)]
    by_cases e : ap p x = ap p i
    · rw [if_pos e]; exact (hp.inj x i (by omega) hi' e).symm
    · rw [if_neg e]
      refine h x ?_
      have : x ≠ i := fun q => e (by rw [q])
      omega
  · rintro S ⟨s2, s3, told, rfl, hl, h⟩
    simp
    exact ⟨told, rfl, hl, by simpa [hp.len] using h⟩
theorem spec_turned {W : List Wo} {n : Nat} {p b : List Nat} (hp : IsPerm n p) (hb : IsPerm n b) (hn : n ≤ 100000) : WpF F_p_turned [tN p, tN b] W (fun d W' => W' = W ∧ ∃ q, d = tN q ∧ q.length = n ∧ ∀ x, x < n → ap q (ap b x) = ap b (ap p x)) := by
  unfold F_p_turned
  rw [wpf]
  simp [stEnv, List.replicate, mostL, hp.len]
  refine ⟨by omega, ?_⟩
  refine wp_forL _ (fun i S => ∃ (s2 s3 : Sl) (told : List Nat), S = ⟨[.val (tN p), .val (tN b), .cell (told.map dn), s2, s3], W⟩ ∧ told.length = n ∧ ∀ x, x < i → ap told (ap b x) = ap b (ap p x)) _ ⟨.un, .un, List.replicate n 0, by simp, by simp, by simp⟩ ?_ ?_
  · rintro i d S hi ⟨s2, s3, told, rfl, hl, h⟩
    obtain ⟨hi', rfl⟩ := enumN_get hi
    rw [hp.len] at hi'
    have hlt := hp.lt i hi'
    have hlt2 := hb.lt i hi'
    have g1 := get_ap (p := b) (x := ap p i) (by rw [hb.len]; exact hlt)
    have g2 := get_ap (p := b) (x := i) (by rw [hb.len]; exact hi')
    simp [hl, hlt2, g1, g2]
    refine ⟨_, _, told.set (ap b i) (ap b (ap p i)), ⟨by simp [List.map_set], rfl, rfl⟩, by simp [hl], fun x hx => ?_⟩
    rw [ap_set (by omega)]
    by_cases e : ap b x = ap b i
    · rw [if_pos e, hb.inj x i (by omega) hi' e]
    · rw [if_neg e]
      refine h x ?_
      have : x ≠ i := fun q => e (by rw [q])
      omega
  · rintro S ⟨s2, s3, told, rfl, hl, h⟩
    simp
    exact ⟨told, rfl, hl, by simpa [hp.len] using h⟩


/-! permutations as a group -/
abbrev Pm (n : Nat) := { p : List Nat // IsPerm n p }
noncomputable def ivf {n : Nat} {p : List Nat} (P : IsPerm n p) (y : Nat) : Nat := @dite _ (y < n) (Nat.decLt _ _) (fun h => Classical.choose (P.surj h)) fun _ => 0
theorem ivf_spec {n : Nat} {p : List Nat} (P : IsPerm n p) {y : Nat} (h : y < n) : ivf P y < n ∧ ap p (ivf P y) = y := by
  unfold ivf
  rw [dif_pos h]
  exact Classical.choose_spec (P.surj h)
theorem ap_mapR {n : Nat} {f : Nat → Nat} {x : Nat} (h : x < n) : ap ((List.range n).map f) x = f x := by
  rw [ap_map (by simpa using h), ap_range h]
theorem ivl_perm {n : Nat} {p : List Nat} (P : IsPerm n p) : IsPerm n ((List.range n).map (ivf P)) where
  len := by simp
  lt := fun x hx => by rw [ap_mapR hx]; exact (ivf_spec P hx).1
  inj := fun x y hx hy e => by
    rw [ap_mapR hx, ap_mapR hy] at e
    rw [← (ivf_spec P hx).2, ← (ivf_spec P hy).2, e]
theorem pm_ext {n : Nat} {a b : Pm n} (h : ∀ x, x < n → ap a.1 x = ap b.1 x) : a = b := Subtype.ext (list_ext_ap (by rw [a.2.len, b.2.len]) fun x hx => h x (by rw [← a.2.len]; exact hx))
noncomputable instance {n : Nat} : Gr (Pm n) where
  mu := fun a b => ⟨a.1.map (ap b.1), cmp_perm a.2 b.2⟩
  e := ⟨List.range n, perm_range (List.Perm.refl _)⟩
  iv := fun a => ⟨(List.range n).map (ivf a.2), ivl_perm a.2⟩
  assoc := fun a b c => pm_ext fun x hx => by
    simp only []
    rw [ap_map (by simp [a.2.len]; exact hx), ap_map (by simp [a.2.len]; exact hx), ap_map (by simp [a.2.len]; exact hx), ap_map (by simp [b.2.len]; exact a.2.lt x hx)]
  e_mu := fun a => pm_ext fun x hx => by simp only []; rw [ap_mapR hx]
  mu_e := fun a => pm_ext fun x hx => by simp only []; rw [ap_map (by simp [a.2.len]; exact hx), ap_range (a.2.lt x hx)]
  iv_mu := fun a => pm_ext fun x hx => by simp only []; rw [ap_map (by simp; exact hx), ap_mapR hx, (ivf_spec a.2 hx).2, ap_range hx]
  mu_iv := fun a => pm_ext fun x hx => by
    simp only []
    rw [ap_map (by simp [a.2.len]; exact hx), ap_mapR (a.2.lt x hx), ap_range hx]
    exact a.2.inj _ _ (ivf_spec a.2 (a.2.lt x hx)).1 hx (ivf_spec a.2 (a.2.lt x hx)).2
open Gr
section
variable {n : Nat}
theorem mu_val (a b : Pm n) : (mu a b).1 = a.1.map (ap b.1) := rfl
theorem e_val : (e : Pm n).1 = List.range n := rfl
theorem ap_mu (a b : Pm n) {x : Nat} (hx : x < n) : ap (mu a b).1 x = ap b.1 (ap a.1 x) := by rw [mu_val, ap_map (by rw [a.2.len]; exact hx)]
theorem ap_iv (a : Pm n) {x : Nat} (hx : x < n) : ap (iv a).1 (ap a.1 x) = x := by
  have h : ap (mu a (iv a)).1 x = ap (e : Pm n).1 x := by rw [mu_iv]
  rw [ap_mu a (iv a) hx] at h
  rw [h, e_val, ap_range hx]
theorem inv_is {p : Pm n} {q : List Nat} (hl : q.length = n) (h : ∀ x, x < n → ap q (ap p.1 x) = x) : q = (iv p).1 := by
  refine list_ext_ap (by rw [hl, (iv p).2.len]) fun y hy => ?_
  obtain ⟨x, hx, rfl⟩ := p.2.surj (show y < n by rw [← hl]; exact hy)
  rw [h x hx, ap_iv p hx]
theorem tur_is {p b : Pm n} {q : List Nat} (hl : q.length = n) (h : ∀ x, x < n → ap q (ap b.1 x) = ap b.1 (ap p.1 x)) : q = (cj p b).1 := by
  refine list_ext_ap (by rw [hl, (cj p b).2.len]) fun y hy => ?_
  obtain ⟨x, hx, rfl⟩ := b.2.surj (show y < n by rw [← hl]; exact hy)
  rw [h x hx]
  show _ = ap (mu (iv b) (mu p b)).1 (ap b.1 x)
  rw [ap_mu _ _ (b.2.lt x hx), ap_iv b hx, ap_mu _ _ hx]
def eP (p : Pm n) : D := tN p.1
def eR (row : List (Pm n)) : D := .tup (row.map eP)
@[simp] theorem eP_cr {p : Pm n} : (eP p).isCr = false := rfl
@[simp] theorem eR_cr {p : List (Pm n)} : (eR p).isCr = false := rfl
theorem sp_times {W : List Wo} {p q : Pm n} (hn : n ≤ 100000) : WpF F_law_times [eP p, eP q] W (fun d W' => W' = W ∧ d = eP (mu p q)) := by
  have := spec_times (W := W) p.2 q.2 hn
  exact this
theorem sp_inverse {W : List Wo} {p : Pm n} (hn : n ≤ 100000) : WpF F_p_inverse [eP p] W (fun d W' => W' = W ∧ d = eP (iv p)) := (spec_inverse (W := W) p.2 hn).mono fun d W' ⟨h, q, h1, h2, h3⟩ => ⟨h, by rw [h1, inv_is h2 h3]; rfl⟩
theorem sp_turned {W : List Wo} {p b : Pm n} (hn : n ≤ 100000) : WpF F_p_turned [eP p, eP b] W (fun d W' => W' = W ∧ d = eP (cj p b)) := (spec_turned (W := W) p.2 b.2 hn).mono fun d W' ⟨h, q, h1, h2, h3⟩ => ⟨h, by rw [h1, tur_is h2 h3]; rfl⟩
theorem sp_linverse {W : List Wo} {p : Pm n} (hn : n ≤ 100000) : WpF F_law_inverse [eP p] W (fun d W' => W' = W ∧ d = eP (iv p)) := by
  have hp := p.2
  unfold F_law_inverse eP
  rw [wpf]
  simp [stEnv, List.replicate, mostL, hp.len]
  refine ⟨by omega, by omega, ?_⟩
  refine wp_forL _ (fun i S => ∃ (s2 : Sl) (told : List Nat), S = ⟨[.val (tN p.1), .cell (told.map dn), s2], W⟩ ∧ told.length = n ∧ ∀ x, x < i → ap told (ap p.1 x) = x) _ ⟨.un, List.replicate n 0, by simp, by simp, by simp⟩ ?_ ?_
  · rintro i d S hi ⟨s2, told, rfl, hl, h⟩
    obtain ⟨hi', rfl⟩ := rgD_get hi
    have hlt := hp.lt i hi'
    have g := get_ap (p := p.1) (x := i) (by rw [hp.len]; exact hi')
    simp [hl, hlt, g]
    refine ⟨_, told.set (ap p.1 i) i, ⟨by simp [List.map_set], rfl⟩, by simp [hl], fun x hx => ?_⟩
    rw [ap_set (by omega)]
    by_cases e : ap p.1 x = ap p.1 i
    · rw [if_pos e]; exact (hp.inj x i (by omega) hi' e).symm
    · rw [if_neg e]
      refine h x ?_
      have : x ≠ i := fun q => e (by rw [q])
      omega
  · rintro S ⟨s2, told, rfl, hl, h⟩
    rw [rgD_len] at h
    simp
    rw [inv_is hl h]
theorem sp_lturned {W : List Wo} {p b : Pm n} (hn : n ≤ 100000) : WpF F_law_turned [eP p, eP b] W (fun d W' => W' = W ∧ d = eP (cj p b)) := by
  unfold F_law_turned
  rw [wpf]
  simp [stEnv, List.replicate]
  refine (sp_linverse hn).mono ?_
  rintro d W' ⟨rfl, rfl⟩
  simp
  refine (sp_times hn).mono ?_
  rintro d W' ⟨rfl, rfl⟩
  simp
  refine (sp_times hn).mono ?_
  rintro d W' ⟨rfl, rfl⟩
  simp [cj, assoc]
end
end Ms.Law
set_option Elab.async false
set_option linter.all false
set_option maxRecDepth 100000
set_option maxHeartbeats 4000000
namespace Ms.Law
open PySem PySem.Spec PyProof.Rows L2 Ms
set_option autoImplicit false
open Gr
section
variable {n : Nat}
abbrev zL (ms : List Int) : List D := ms.map D.int
theorem getP {row : List (Pm n)} {k : Nat} {x : Pm n} (h : row[k]? = some x) : (row.map eP)[k]? = some (eP x) := by rw [List.getElem?_map, h]; rfl
theorem sp_once {W : List Wo} {row : List (Pm n)} {m : Int} (hn : n ≤ 100000) (hf : Fit row.length m) (hr : row.length ≤ 100000) : WpF F_p_exchanged_once [eR row, .int m] W (fun d W' => W' = W ∧ d = eR (ex row m)) := by
  obtain ⟨l, x, y, r, rfl, hm⟩ := fit_split hf
  obtain ⟨k, hk⟩ : ∃ k : Nat, k = l.length := ⟨_, rfl⟩
  have hm' : ((m.natAbs : Nat) : Int) = (k : Int) + 1 := by omega
  have g1 : ((l ++ x :: y :: r).map eP)[k]? = some (eP x) := getP (by rw [hk]; simp)
  have g2 : ((l ++ x :: y :: r).map eP)[k + 1]? = some (eP y) := getP (by rw [hk, List.getElem?_append_right (by omega)]; simp)
  obtain ⟨rw_, hrw⟩ : ∃ rw_, rw_ = (l ++ x :: y :: r).map eP := ⟨_, rfl⟩
  rw [← hrw] at g1 g2
  have hlen : rw_.length ≤ 100000 := by rw [hrw, List.length_map]; exact hr
  have et : rw_.take k = l.map eP := by rw [hrw, hk, ← List.map_take, List.take_left]
  have ed : rw_.drop (k + 2) = r.map eP := by
    rw [hrw, hk, ← List.map_drop]
    congr 1
    have : l ++ x :: y :: r = (l ++ [x, y]) ++ r := by simp
    rw [this, List.drop_left' (by simp)]
  have hkl : l.length + r.length ≤ 100000 := by simp at hr; omega
  unfold F_p_exchanged_once
  rw [wpf]
  have eW : eR (l ++ x :: y :: r) = .tup rw_ := by rw [hrw]; rfl
  rw [eW, ex_at hm]
  simp [-wp_abs, wp_absN, stEnv, List.replicate, hm', g1, g2]
  by_cases hp : 0 < m
  · simp [hp]
    refine .inr ?_
    refine (sp_turned hn).mono ?_
    rintro d W' ⟨rfl, rfl⟩
    simp [mostL, et, ed, exch, eR]
    omega
  · have hp' : m ≤ 0 := by omega
    simp [hp, hp']
    refine (sp_inverse hn).mono ?_
    rintro d W' ⟨rfl, rfl⟩
    simp
    refine (sp_turned hn).mono ?_
    rintro d W' ⟨rfl, rfl⟩
    simp [mostL, et, ed, exch, eR]
    omega
theorem sp_exchanged {W : List Wo} {row : List (Pm n)} {ms : List Int} {x : D} (hx : frzC x = some (zL ms)) (hn : n ≤ 100000) (hf : ∀ m ∈ ms, Fit row.length m) (hr : row.length ≤ 100000) : WpF F_p_exchanged [eR row, x] W (fun d W' => W' = W ∧ d = eR (exs row ms)) := by
  unfold F_p_exchanged
  rw [wpf]
  simp [stEnv, List.replicate, hx]
  refine wp_forL _ (fun i S => ∃ (s2 : Sl), S = ⟨[.val (eR (exs row (ms.take i))), .val x, s2], W⟩) _ ⟨.un, rfl⟩ ?_ ?_
  · rintro i d S hi ⟨s2, rfl⟩
    rw [List.getElem?_map] at hi
    cases hz : ms[i]? with
    | none => simp [hz] at hi
    | some m =>
      simp [hz] at hi
      subst hi
      have hl : (exs row (ms.take i)).length = row.length := exs_len fun k hk => hf k (List.mem_of_mem_take hk)
      simp
      refine (sp_once hn (by rw [hl]; exact hf m (List.mem_of_getElem? hz)) (by omega)).mono ?_
      rintro d W' ⟨rfl, rfl⟩
      simp
      rw [List.take_add_one, hz]
      show eR (ex (exs row (ms.take i)) m) = eR (exs row (ms.take i ++ [m]))
      rw [exs_app]
      rfl
  · rintro S ⟨s2, rfl⟩
    simp
theorem sp_lexchange {W : List Wo} {row : List (Pm n)} {m : Int} (hn : n ≤ 100000) (hf : Fit row.length m) (hr : row.length ≤ 100000) : WpF F_law_exchange [eR row, .int m] W (fun d W' => W' = W ∧ d = eR (ex row m)) := by
  obtain ⟨l, x, y, r, rfl, hm⟩ := fit_split hf
  obtain ⟨k, hk⟩ : ∃ k : Nat, k = l.length := ⟨_, rfl⟩
  have hm' : ((m.natAbs : Nat) : Int) = (k : Int) + 1 := by omega
  have g1 : ((l ++ x :: y :: r).map eP)[k]? = some (eP x) := getP (by rw [hk]; simp)
  have g2 : ((l ++ x :: y :: r).map eP)[k + 1]? = some (eP y) := getP (by rw [hk, List.getElem?_append_right (by omega)]; simp)
  obtain ⟨rw_, hrw⟩ : ∃ rw_, rw_ = (l ++ x :: y :: r).map eP := ⟨_, rfl⟩
  rw [← hrw] at g1 g2
  have hlen : rw_.length = l.length + r.length + 2 := by rw [hrw]; simp; omega
  have es : ∀ a b : D, (rw_.set k a).set (k + 1) b = l.map eP ++ a :: b :: r.map eP := fun a b => by
    rw [hrw, hk]
    simp
  unfold F_law_exchange
  rw [wpf]
  have eW : eR (l ++ x :: y :: r) = .tup rw_ := by rw [hrw]; rfl
  rw [eW, ex_at hm]
  have e1 : ((k : Int) + 1) = ((k + 1 : Nat) : Int) := by simp
  by_cases hp : 0 < m
  · simp [-wp_abs, wp_absN, stEnv, List.replicate, hm', g1, g2, hp]
    refine (sp_lturned hn).mono ?_
    rintro d W' ⟨rfl, rfl⟩
    simp [mostL, es, exch, eR]
    exact ⟨k, ⟨by omega, rfl⟩, k + 1, ⟨by omega, rfl⟩, es _ _⟩
  · have hp' : m ≤ 0 := by omega
    simp [-wp_abs, wp_absN, stEnv, List.replicate, hm', g1, g2, hp, hp']
    refine (sp_linverse hn).mono ?_
    rintro d W' ⟨rfl, rfl⟩
    simp
    refine (sp_lturned hn).mono ?_
    rintro d W' ⟨rfl, rfl⟩
    simp [mostL, es, exch, eR]
    exact ⟨k, ⟨by omega, rfl⟩, k + 1, ⟨by omega, rfl⟩, es _ _⟩
def fitB (k : Nat) (m : Int) : Bool := decide (1 ≤ m.natAbs) && decide (m.natAbs < k)
theorem fitB_iff {k : Nat} {m : Int} : fitB k m = true ↔ Fit k m := by simp [fitB, Fit]
theorem sp_shows0 {W : List Wo} {row row2 : List (Pm n)} {ms : List Int} {x : D} (hx : frzC x = some (zL ms)) (hm : ms.length ≤ 100000) {Q : D → List Wo → Prop}
    (q1 : (ms.any fun m => !fitB row.length m) = true → Q (.bl false) W) (q2 : (ms.any fun m => !fitB row.length m) = false → WpF F_p_exchanged [eR row, x] W fun d W' => Wp (dEq d (eR row2)) ⟨[.val (eR row), .val (eR row2), .val x, .un], W'⟩ fun d S => d.isCr = false ∧ Q d S.w) :
    WpF F_p_shows_exchanged [eR row, eR row2, x] W Q := by
  unfold F_p_shows_exchanged
  rw [wpf]
  have hxc := frz_cr hx
  simp [-wp_abs, wp_absN, stEnv, List.replicate, hx, mostL]
  refine ⟨by omega, wp_lcMap (g := fun m => .bl (!fitB row.length m)) ?_ ?_⟩
  · intro m hm
    have e1 : seqC (⟨[], []⟩ : Sx) (eR row) = some (row.map eP) := rfl
    simp [-wp_abs, wp_absN]
    by_cases h1 : 1 ≤ m.natAbs
    · have h1' : (1 : Int) ≤ (m.natAbs : Int) := by omega
      have h1'' : ¬ ((m.natAbs : Int) < 1) := by omega
      by_cases h2 : m.natAbs < row.length
      · simp [fitB, h1, h2, h1', h1'', eR]
      · simp [fitB, h1, h2, h1', h1'', eR]
    · have h1' : ¬ (1 : Int) ≤ (m.natAbs : Int) := by omega
      have h1'' : ((m.natAbs : Int) < 1) := by omega
      simp [fitB, h1, h1', h1'', eR]
  · have e : (ms.map fun m => D.bl (!fitB row.length m)) = (ms.map fun m => !fitB row.length m).map D.bl := by simp [Function.comp_def]
    rw [e]
    rw [wp_any]
    simp [hxc, Function.comp_def]
    by_cases h : ∀ m ∈ ms, fitB row.length m = true
    · exact .inl ⟨h, q2 (by simp; exact h)⟩
    · refine .inr ⟨?_, q1 ?_⟩
      · simpa using h
      · simpa using h
theorem okD_eR {k : Nat} {row : List (Pm n)} (h : row.length ≤ 100000) (hn : n ≤ 100000) : okD (k + 2) (eR row) := .inr ⟨_, .inl rfl, by simp; omega, fun x hx => by
  rw [List.mem_map] at hx
  obtain ⟨p, _, rfl⟩ := hx
  exact okD_tN (k := k) (by rw [p.2.len]; omega)⟩
theorem plB_eR {row : List (Pm n)} : plB 5 (eR row) = true := by
  unfold eR
  rw [plB_tup]
  intro d hd
  rw [List.mem_map] at hd
  obtain ⟨p, _, rfl⟩ := hd
  unfold eP
  rw [plB_tup]
  intro d hd
  rw [List.mem_map] at hd
  obtain ⟨a, _, rfl⟩ := hd
  exact plB_int
theorem sp_shows {W : List Wo} {row row2 : List (Pm n)} {ms : List Int} {x : D} (hx : frzC x = some (zL ms)) (hn : n ≤ 100000) (hr : row.length ≤ 100000) (hm : ms.length ≤ 100000) (hf : ∀ m ∈ ms, Fit row.length m) (he : exs row ms = row2) :
    WpF F_p_shows_exchanged [eR row, eR row2, x] W (fun d W' => W' = W ∧ d = .bl true) := by
  have h0 : (ms.any fun m => !fitB row.length m) = false := by
    simp
    exact fun m hm => fitB_iff.mpr (hf m hm)
  refine sp_shows0 hx hm (fun h => by rw [h0] at h; cases h) fun _ => ?_
  refine (sp_exchanged hx hn hf hr).mono ?_
  rintro d W' ⟨rfl, rfl⟩
  rw [he, wp_eq5 (a := eR row2) (b := eR row2) rfl rfl plB_eR plB_eR]
  simp
theorem sp_shows_no {W : List Wo} {row row2 : List (Pm n)} {ms : List Int} {m : Int} {x : D} (hx : frzC x = some (zL (ms ++ [m]))) (hm : ms.length < 100000) (hno : ¬ Fit row.length m) :
    WpF F_p_shows_exchanged [eR row, eR row2, x] W (fun d W' => W' = W ∧ d = .bl false) := by
  have h0 : ((ms ++ [m]).any fun m => !fitB row.length m) = true := by
    rw [List.any_append, Bool.or_eq_true]
    refine .inr ?_
    have : fitB row.length m = false := by
      cases h : fitB row.length m with
      | false => rfl
      | true => exact absurd (fitB_iff.mp h) hno
    simp [this]
  exact sp_shows0 hx (by simp; omega) (fun _ => ⟨rfl, rfl⟩) fun h => by rw [h0] at h; cases h
theorem rgD1 {many : Nat} : rgD 1 (many : Int) = zL (upto many) := by
  unfold rgD upto zL
  rw [List.map_map]
  have : ((many : Int) - 1).toNat = many - 1 := by omega
  rw [this]
  refine List.map_congr_left fun i _ => ?_
  show D.int (1 + (i : Int)) = D.int ((i + 1 : Nat) : Int)
  congr 1
  omega
theorem upto_len {k : Nat} : (upto k).length = k - 1 := by simp [upto]
theorem rep_flat {k : Nat} {xs : List Int} : (List.replicate k (zL xs)).flatten = zL (List.replicate k xs).flatten := by
  unfold zL
  rw [List.map_flatten, List.map_replicate]
theorem sp_turn_by {W : List Wo} {many b : Nat} {l : Int} (hl : l.natAbs = b + 1) (hb : b < many) (hm : many ≤ 500) : WpF F_p_turn_by [dn many, .int l] W (fun d W' => W' = W ∧ d = .lst (zL (turnMoves many b (decide (0 < l))))) := by
  have hl' : ((l.natAbs : Nat) : Int) = (b : Int) + 1 := by omega
  have e1 : (-1000000 : Int) ≤ (many : Int) := by omega
  have ul := upto_len (k := many)
  have t1 : ((many : Int) - (b : Int)).toNat = many - b := by omega
  have t2 : b * (many - 1) ≤ 500 * 500 := Nat.mul_le_mul (by omega) (by omega)
  have t3 : (many - b) * (many - 1) ≤ 500 * 500 := Nat.mul_le_mul (by omega) (by omega)
  have t4 : (many - 1) * b ≤ 500 * 500 := Nat.mul_le_mul (by omega) (by omega)
  have t5 : (many - 1) * (many - b) ≤ 500 * 500 := Nat.mul_le_mul (by omega) (by omega)
  unfold F_p_turn_by
  rw [wpf]
  refine wp_step (fun S => S = ⟨[.val (dn many), .val (.int l), .val (.lst (zL (upto many))), .un, .un, .un], W⟩) ?_ ?_
  · simp [stEnv, List.replicate, rgD1]
    omega
  rintro S rfl
  refine wp_step (fun S => S = ⟨[.val (dn many), .val (.int l), .val (.lst (zL (upto many))), .val (.lst (zL (upto many ++ (upto many).reverse))), .un, .un], W⟩) ?_ ?_
  · simp [mostL, ul]
    omega
  rintro S rfl
  obtain ⟨mid, hmid⟩ : ∃ mid, mid = (if decide (0 < l) = true then upto many ++ (upto many).reverse else (upto many ++ (upto many).reverse).map fun m => -m) := ⟨_, rfl⟩
  have ml : mid.length ≤ 2 * 500 := by
    rw [hmid]
    split <;> simp [ul] <;> omega
  refine wp_step (fun S => S = ⟨[.val (dn many), .val (.int l), .val (.lst (zL (upto many))), .val (.lst (zL mid)), .un, .un], W⟩) ?_ ?_
  · by_cases hp : l < 0
    · have hp' : ¬ 0 < l := by omega
      simp [hp, mostL, ul]
      refine ⟨by omega, ?_⟩
      have ez : List.map D.int (upto many) ++ (List.map D.int (upto many)).reverse = (upto many ++ (upto many).reverse).map D.int := by simp
      rw [ez]
      refine wp_lcMap (g := fun z => D.int (-z)) ?_ ?_
      · intro z hz
        simp
      · simp [hmid, hp', Function.comp_def]
    · have hp' : 0 < l := by omega
      simp [hp, hmid, hp']
  rintro S rfl
  refine wp_step (fun S => S = ⟨[.val (dn many), .val (.int l), .val (.lst (zL (upto many))), .val (.lst (zL mid)), .val (dn b), .un], W⟩) ?_ ?_
  · simp [-wp_abs, wp_absN, hl']
  rintro S rfl
  simp [t1, mostL, -List.map_flatten, ul, rep_flat]
  refine ⟨⟨by omega, by omega⟩, by omega, ⟨by omega, by omega, by omega⟩, by omega, ?_⟩
  unfold turnMoves
  rw [← hmid]
  simp only [zL, List.map_append, List.append_assoc]
def tmoves (many : Nat) (way : List Int) : List Int := (way.reverse.map fun l => turnMoves many (l.natAbs - 1) (decide (0 < l))).flatten
def Wayok (many : Nat) (way : List Int) : Prop := ∀ l ∈ way, 1 ≤ l.natAbs ∧ l.natAbs ≤ many
theorem turnMoves_len {many b : Nat} {p : Bool} (hb : b < many) (hm : many ≤ 20) : (turnMoves many b p).length ≤ 1000 := by
  have f1 : ∀ k, ((List.replicate k (upto many)).flatten).length = k * (many - 1) := fun k => by simp [upto_len]
  have t2 : b * (many - 1) ≤ 20 * 20 := Nat.mul_le_mul (by omega) (by omega)
  have t3 : (many - b) * (many - 1) ≤ 20 * 20 := Nat.mul_le_mul (by omega) (by omega)
  unfold turnMoves
  rw [List.length_append, List.length_append, f1, f1]
  have : (if p = true then upto many ++ (upto many).reverse else (upto many ++ (upto many).reverse).map fun m => -m).length ≤ 40 := by
    split <;> simp [upto_len] <;> omega
  omega
theorem sp_turning {W : List Wo} {row : List (Pm n)} {way : List Int} {x : D} (hx : frzC x = some (zL way)) (hr : row.length ≤ 20) (hw : Wayok row.length way) (hl : way.length ≤ 20) : WpF F_p_turning_moves [eR row, x] W (fun d W' => W' = W ∧ d = .lst (zL (tmoves row.length way))) := by
  unfold F_p_turning_moves
  rw [wpf]
  simp [stEnv, List.replicate, hx, mostL]
  obtain ⟨f, hf⟩ : ∃ f : Int → List Int, f = fun l => turnMoves row.length (l.natAbs - 1) (decide (0 < l)) := ⟨_, rfl⟩
  obtain ⟨wr, hwr⟩ : ∃ wr, wr = way.reverse := ⟨_, rfl⟩
  refine wp_forL _ (fun i S => ∃ (s3 : Sl) (told : List Int), S = ⟨[.val (eR row), .val x, .val (.lst (zL told)), s3], W⟩ ∧ told = ((wr.take i).map f).flatten ∧ told.length ≤ 1000 * i) _ ⟨.un, [], rfl, by simp, by simp⟩ ?_ ?_
  · rintro i d S hi ⟨s3, told, rfl, ht, htl⟩
    have ez : (zL way).reverse = wr.map D.int := by rw [hwr]; simp [zL]
    rw [ez, List.getElem?_map] at hi
    cases hz : wr[i]? with
    | none => simp [hz] at hi
    | some l =>
      simp [hz] at hi
      subst hi
      have hil : i < way.length := by simpa [hwr] using (List.getElem?_eq_some_iff.mp hz).1
      have hm : l ∈ way := by simpa [hwr] using List.mem_of_getElem? hz
      obtain ⟨h1, h2⟩ := hw l hm
      have tl := turnMoves_len (many := row.length) (b := l.natAbs - 1) (p := decide (0 < l)) (by omega) hr
      simp [eR]
      refine (sp_turn_by (many := row.length) (b := l.natAbs - 1) (l := l) (by omega) (by omega) (by omega)).mono ?_
      rintro d W' ⟨rfl, rfl⟩
      simp [mostL]
      refine ⟨by omega, _, told ++ turnMoves row.length (l.natAbs - 1) (decide (0 < l)), ⟨by simp [zL], rfl⟩, ?_, by simp; omega⟩
      have hfw : (List.map f wr)[i]? = some (f l) := by rw [List.getElem?_map, hz]; rfl
      rw [List.take_add_one, hfw, ht, List.map_take]
      simp [hf]
  · rintro S ⟨s3, told, rfl, ht, htl⟩
    simp
    rw [ht, hf, hwr, List.take_of_length_le (by simp)]
    rfl
theorem prod_snoc (ps : List (Pm n)) (p : Pm n) : prodG (ps ++ [p]) = mu (prodG ps) p := by
  rw [prod_app]
  show mu (prodG ps) (mu p e) = _
  rw [mu_e]
theorem sp_product {W : List Wo} {ps : List (Pm n)} {x : D} (hx : frzC x = some (ps.map eP)) (hn : n ≤ 100000) : WpF F_law_product [dn n, x] W (fun d W' => W' = W ∧ d = eP (prodG ps)) := by
  unfold F_law_product
  rw [wpf]
  simp [stEnv, List.replicate, hx]
  refine ⟨by omega, ?_⟩
  refine wp_forL _ (fun i S => ∃ (s3 : Sl), S = ⟨[.val (dn n), .val x, .val (eP (prodG (ps.take i))), s3], W⟩) _ ⟨.un, by rw [rgD_nat]; rfl⟩ ?_ ?_
  · rintro i d S hi ⟨s3, rfl⟩
    rw [List.getElem?_map] at hi
    cases hz : ps[i]? with
    | none => simp [hz] at hi
    | some p =>
      simp [hz] at hi
      subst hi
      simp
      refine (sp_times hn).mono ?_
      rintro d W' ⟨rfl, rfl⟩
      simp
      rw [List.take_add_one, hz]
      exact congrArg eP (prod_snoc _ _).symm
  · rintro S ⟨s3, rfl⟩
    simp
noncomputable def sg (row : List (Pm n)) (l : Int) : Pm n := if 0 < l then row.getD (l.natAbs - 1) e else iv (row.getD (l.natAbs - 1) e)
theorem sp_along {W : List Wo} {row : List (Pm n)} {way : List Int} {x : D} (hx : frzC x = some (zL way)) (hn : n ≤ 100000) (hw : Wayok row.length way) (hl : way.length ≤ 20) : WpF F_law_along [eR row, dn n, x] W (fun d W' => W' = W ∧ d = eP (prodG (way.map (sg row)))) := by
  unfold F_law_along
  rw [wpf]
  simp [stEnv, List.replicate, hx, mostL]
  refine ⟨by omega, ?_⟩
  refine wp_lcRel (g := eP) (R := fun l q => q = sg row l) ?_ ?_
  · intro l hlw
    obtain ⟨h1, h2⟩ := hw l hlw
    obtain ⟨b, hb⟩ : ∃ b, l.natAbs = b + 1 := ⟨l.natAbs - 1, by omega⟩
    obtain ⟨q, g⟩ : ∃ q, row[b]? = some q := ⟨row[b], List.getElem?_eq_getElem (by omega)⟩
    have g' : (row.map eP)[b]? = some (eP q) := getP g
    have gd : row[l.natAbs - 1]?.getD e = q := by rw [hb, Nat.add_sub_cancel, g]; rfl
    obtain ⟨rw_, hrw⟩ : ∃ rw_, rw_ = row.map eP := ⟨_, rfl⟩
    rw [← hrw] at g'
    by_cases hp : 0 < l
    · have e1 : l - 1 = (b : Int) := by omega
      simp [hp, e1, eR, g', sg, gd, ← hrw]
    · have e1 : -l - 1 = (b : Int) := by omega
      simp [hp, show l ≤ 0 by omega, eR, e1, g', sg, gd, ← hrw]
      refine (sp_linverse hn).mono ?_
      rintro d W' ⟨rfl, rfl⟩
      simp
  · intro bs hbs
    have e := hbs.eq_map
    subst e
    simp
    refine (sp_product (ps := way.map (sg row)) (by simp) hn).mono ?_
    rintro d W' ⟨rfl, rfl⟩
    simp
theorem sp_lperm {W : List Wo} (h : IsSt W) (hn : n ≤ 100000) : WpF F_law_perm [.ob 1, dn n] W (fun d W' => IsSt W' ∧ ∃ p : Pm n, d = eP p) := by
  unfold F_law_perm
  rw [wpf]
  simp [stEnv, List.replicate]
  refine ⟨by omega, ?_⟩
  refine (spec_mixed (l := rgD 0 n) h rfl (by simp; omega) (by intro d hd; rw [rgD_nat] at hd; simp at hd; obtain ⟨a, _, rfl⟩ := hd; rfl)).mono ?_
  rintro d W1 ⟨h1, m, rfl, hm⟩
  rw [rgD_nat] at hm
  obtain ⟨order, rfl, ho⟩ := mem_map_dn hm
  simp
  exact ⟨h1, order, perm_range ho, rfl⟩
theorem st_flat {W : List Wo} (h : IsSt W) : flatW W = true := by
  obtain ⟨cells, seed, rfl, _, _⟩ := h
  have : ∀ cs : List Int, flatL (cs.map D.int) = true := fun cs => by
    induction cs with
    | nil => simp [flatL]
    | cons c cs ih => simp [flatL, flatD, ih]
  simp [stW, flatW, this, flatL, flatD]
theorem flat_eP {p : Pm n} : flatD (eP p) = true := by
  have : ∀ cs : List Nat, flatL (cs.map dn) = true := fun cs => by
    induction cs with
    | nil => simp [flatL]
    | cons c cs ih => simp [flatL, flatD, ih]
  unfold eP tN
  rw [flatD]
  exact this _
@[simp] theorem plB_eL {row : List (Pm n)} : plB 5 (.lst (row.map eP)) = true := by
  rw [plB_lst]
  intro d hd
  rw [List.mem_map] at hd
  obtain ⟨p, _, rfl⟩ := hd
  unfold eP
  rw [plB_tup]
  intro d hd
  rw [List.mem_map] at hd
  obtain ⟨a, _, rfl⟩ := hd
  exact plB_int
@[simp] theorem plB_eR' {row : List (Pm n)} : plB 5 (eR row) = true := plB_eR
theorem sp_row {W : List Wo} {many : Nat} (h : IsSt W) (hn : n ≤ 100000) (hm : many ≤ 20) : WpF F_law_row [.ob 1, dn n, dn many] W (fun d W' => IsSt W' ∧ ∃ row : List (Pm n), d = eR row ∧ row.length = many ∧ prodG row = e) := by
  unfold F_law_row
  rw [wpf]
  simp [stEnv, List.replicate, mostL]
  refine ⟨by omega, ?_⟩
  obtain ⟨IV, hIV⟩ : ∃ IV : Nat → Sx → Prop, IV = fun i S => ∃ (W : List Wo) (s4 : Sl) (told : List (Pm n)), S = ⟨[.val (.ob 1), .val (dn n), .val (dn many), .cell (told.map eP), s4], W⟩ ∧ IsSt W ∧ told.length = i := ⟨_, rfl⟩
  refine wp_forL _ IV _ (by rw [hIV]; exact ⟨W, .un, [], rfl, h, rfl⟩) ?_ ?_
  · clear h W
    intro i d S hi hS
    rw [hIV] at hS
    obtain ⟨W, s4, told, rfl, h, hl⟩ := hS
    have hil : i + 1 < many + 1 := by
      have := (List.getElem?_eq_some_iff.mp hi).1
      simp [rgD] at this
      omega
    have put : ∀ (W : List Wo) (p : Pm n), IsSt W → told.length < 1000000 ∧ IV (i + 1) ⟨[.val (.ob 1), .val (dn n), .val (dn many), .cell (told.map eP ++ [eP p]), .val d], W⟩ := fun W p hW => ⟨by omega, by rw [hIV]; exact ⟨W, _, told ++ [p], by simp; rfl, hW, by simp [hl]⟩⟩
    have new : ∀ (W : List Wo), IsSt W → WpF F_law_perm [.ob 1, dn n] W fun d' W' => (d'.isCr = false ∧ told.length < 1000000) ∧ IV (i + 1) ⟨[.val (.ob 1), .val (dn n), .val (dn many), .cell (told.map eP ++ [d']), .val d], W'⟩ := fun W hW => (sp_lperm hW hn).mono fun d' W' ⟨h', p, hp⟩ => by
      subst hp
      exact ⟨⟨rfl, (put W' p h').1⟩, (put W' p h').2⟩
    by_cases hne : told = []
    · subst hne
      have := new W h
      simp [mostL]
      simpa using this
    · simp [hne, mostL]
      refine (spec_draw h (m := 3) (by omega) (by omega)).mono ?_
      rintro d2 W2 ⟨h2, r, rfl, hr⟩
      simp
      by_cases h0 : r = 0
      · simp [h0, wp_callL, lendL]
        refine (spec_pick (l := told.map eP) h2 rfl (by simpa using hne) (by simp; omega) (by intro d hd; rw [List.mem_map] at hd; obtain ⟨p, _, rfl⟩ := hd; rfl)).mono ?_
        rintro d3 W3 ⟨h3, hd⟩
        rw [List.mem_map] at hd
        obtain ⟨p, _, rfl⟩ := hd
        simp [flat_eP, st_flat h3]
        exact put W3 p h3
      · simp [h0]
        exact new W2 h2
  · clear h W
    intro S hS
    rw [hIV] at hS
    obtain ⟨W, s4, told, rfl, h, hl⟩ := hS
    have hl' : told.length = many - 1 := by
      rw [hl]
      simp [rgD]
    by_cases hm0 : many = 0
    · subst hm0
      simp [h]
      exact ⟨[], rfl, rfl, rfl⟩
    · have hmp : 0 < many := by omega
      simp [hmp, hm0, wp_callL, lendL]
      refine (sp_product (ps := told) rfl hn).mono ?_
      rintro d2 W2 ⟨rfl, rfl⟩
      simp [flat_eP, st_flat h]
      refine (sp_linverse hn).mono ?_
      rintro d2 W2 ⟨rfl, rfl⟩
      simp [mostL, h]
      refine ⟨by omega, told ++ [iv (prodG told)], by simp [eR], by simp; omega, ?_⟩
      rw [prod_snoc, mu_iv]
theorem pick_pm {W : List Wo} (h : IsSt W) : WpF F_law_pick [.ob 1, .lst [.int 1, .int (-1)]] W (fun d W' => IsSt W' ∧ ∃ s : Int, d = .int s ∧ (s = 1 ∨ s = -1)) := by
  refine (spec_pick (l := [.int 1, .int (-1)]) h rfl (by simp) (by simp) (by simp)).mono ?_
  rintro d W' ⟨h', hd⟩
  simp at hd
  rcases hd with rfl | rfl
  · exact ⟨h', 1, rfl, .inl rfl⟩
  · exact ⟨h', -1, rfl, .inr rfl⟩
/-- drawn signs: each of them in 1 .. top, of both ways -/
theorem draws_lc {W : List Wo} {top k : Nat} {own : Nat} {env : List Sl} {elt : Mx D} {Q : List D → Sx → Prop} (h : IsSt W) (he : ∀ W d, IsSt W → Wp elt ⟨env.set own (.val d), W⟩ fun y S => ∃ W' z, IsSt W' ∧ y = .int z ∧ (1 ≤ z.natAbs ∧ z.natAbs ≤ top) ∧ { S with env := unS S.env [own] } = ⟨env, W'⟩)
    (q : ∀ W zs, IsSt W → zs.length = k → Wayok top zs → Q (zL zs) ⟨env, W⟩) : Wp (lcL [own] (gtName own) cYes elt (rgD 0 (k : Int))) ⟨env, W⟩ Q := by
  refine wp_lcL _ (fun i ys S => ∃ W zs, S = ⟨env, W⟩ ∧ IsSt W ∧ ys = zL zs ∧ zs.length = i ∧ Wayok top zs) [] _ _ ⟨W, [], rfl, h, rfl, rfl, fun z hz => by cases hz⟩ ?_ ?_
  · rintro i d ys S hi ⟨W, zs, rfl, hW, rfl, hl, hw⟩
    simp
    refine (he W d hW).mono ?_
    rintro y S ⟨W', z, hW', rfl, hz, hS⟩
    have e1 : S.env.set own .un = env := congrArg Sx.env hS
    have e2 : S.w = W' := congrArg Sx.w hS
    refine ⟨rfl, W', ⟨e1, e2⟩, hW', zs ++ [z], by simp, by simp [hl], fun m hm => ?_⟩
    rcases List.mem_append.mp hm with hm | hm
    · exact hw m hm
    · rw [List.mem_singleton] at hm
      rw [hm]
      exact hz
  · rintro ys S ⟨W, zs, rfl, hW, hy, hl, hw⟩
    simp at hy
    subst hy
    exact q W zs hW (by simpa using hl) hw
theorem sp_way {W : List Wo} {many : Nat} (h : IsSt W) (hm : many ≤ 20) : WpF F_law_way [.ob 1, dn many] W (fun d W' => IsSt W' ∧ ∃ way, d = .lst (zL way) ∧ Wayok many way ∧ way.length ≤ 4) := by
  unfold F_law_way
  rw [wpf]
  by_cases hm0 : many = 0
  · subst hm0
    simp [stEnv, List.replicate, h, mostL]
    exact fun z hz => by cases hz
  · have hmp : 0 < many := by omega
    simp [stEnv, List.replicate, hmp, hm0]
    refine (spec_draw h (m := 5) (by omega) (by omega)).mono ?_
    rintro d W1 ⟨h1, r, rfl, hr⟩
    simp [mostL]
    refine ⟨by omega, by omega, draws_lc (top := many) h1 ?_ ?_⟩
    · intro W d hW
      simp [mostL]
      refine (pick_pm hW).mono ?_
      rintro d2 W2 ⟨h2, s, rfl, hs⟩
      refine (spec_draw h2 (m := many) (by omega) (by omega)).mono ?_
      rintro d3 W3 ⟨h3, r3, rfl, hr3⟩
      rcases hs with rfl | rfl
      · simp [h3]; omega
      · simp [h3]; omega
    · intro W zs hW hl hw
      simp [hW]
      exact ⟨zs, rfl, hw, by omega⟩
theorem sp_some {W : List Wo} {many most : Nat} (h : IsSt W) (hm : many ≤ 20) (h0 : 0 < most) (hmo : most ≤ 20) : WpF F_law_some [.ob 1, dn many, dn most] W (fun d W' => IsSt W' ∧ ∃ ms, d = .lst (zL ms) ∧ (∀ m ∈ ms, Fit many m) ∧ ms.length < most) := by
  unfold F_law_some
  rw [wpf]
  by_cases hm0 : many ≤ 1
  · have : ¬ (1 : Int) < (many : Int) := by omega
    have h3 : ¬ 1 < many := by omega
    simp [stEnv, List.replicate, h, mostL, h3, hm0]
    exact .inl ⟨by omega, h0⟩
  · have hmp : 1 < many := by omega
    have hmp' : ¬ many ≤ 1 := by omega
    simp [stEnv, List.replicate, hmp, hmp']
    refine .inr ⟨by omega, ?_⟩
    refine (spec_draw h (m := most) (by omega) (by omega)).mono ?_
    rintro d W1 ⟨h1, r, rfl, hr⟩
    simp [mostL]
    refine ⟨by omega, by omega, draws_lc (top := many - 1) h1 ?_ ?_⟩
    · intro W d hW
      simp [mostL]
      refine (pick_pm hW).mono ?_
      rintro d2 W2 ⟨h2, s, rfl, hs⟩
      refine (spec_draw h2 (m := (many : Int) - 1) (by omega) (by omega)).mono ?_
      rintro d3 W3 ⟨h3, r3, rfl, hr3⟩
      rcases hs with rfl | rfl
      · simp [h3]; omega
      · simp [h3]; omega
    · intro W zs hW hl hw
      simp [hW]
      exact ⟨zs, rfl, fun m hm => ⟨(hw m hm).1, by have := (hw m hm).2; omega⟩, by omega⟩
end
end Ms.Law
set_option Elab.async false
set_option linter.all false
set_option maxRecDepth 100000
set_option maxHeartbeats 8000000
namespace Ms.Law
open PySem PySem.Spec PyProof.Rows L2 Ms
set_option autoImplicit false
open Gr
theorem tmoves_app {k : Nat} {a b : List Int} : tmoves k (a ++ b) = tmoves k b ++ tmoves k a := by simp [tmoves]
theorem turnMoves_fit {k b : Nat} {p : Bool} : ∀ m ∈ turnMoves k b p, Fit k m := by
  intro m hm
  unfold turnMoves at hm
  have up : ∀ j, m ∈ (List.replicate j (upto k)).flatten → Fit k m := fun j h => by
    obtain ⟨l, hl, hm⟩ := List.mem_flatten.mp h
    rw [List.eq_of_mem_replicate hl] at hm
    exact upto_fit m hm
  rcases List.mem_append.mp hm with hm | hm
  · rcases List.mem_append.mp hm with hm | hm
    · exact up b hm
    · cases p with
      | true =>
        simp at hm
        exact upto_fit m hm
      | false =>
        simp only [Bool.false_eq_true, if_false] at hm
        obtain ⟨a, ha, rfl⟩ := List.mem_map.mp hm
        have h1 : a ∈ upto k := by simpa using ha
        have := upto_fit a h1
        exact ⟨by have := this.1; omega, by have := this.2; omega⟩
  · exact up _ hm
theorem tmoves_fit {k : Nat} {way : List Int} (hw : Wayok k way) : ∀ m ∈ tmoves k way, Fit k m := by
  intro m hm
  obtain ⟨l, hl, hm⟩ := List.mem_flatten.mp hm
  obtain ⟨z, _, rfl⟩ := List.mem_map.mp hl
  exact turnMoves_fit m hm
theorem tmoves_len {k : Nat} {way : List Int} (hw : Wayok k way) (hl : way.length ≤ 8) (hk : k ≤ 20) : (tmoves k way).length ≤ 10000 := by
  have : (tmoves k way).length ≤ 1000 * way.length := by
    clear hl
    induction way with
    | nil => simp [tmoves]
    | cons l way ih =>
      have e1 : tmoves k (l :: way) = tmoves k way ++ tmoves k [l] := tmoves_app (a := [l])
      have e2 : tmoves k [l] = turnMoves k (l.natAbs - 1) (decide (0 < l)) := by simp [tmoves]
      have := ih fun x hx => hw x (List.mem_cons_of_mem _ hx)
      obtain ⟨h1, h2⟩ := hw l (List.mem_cons_self ..)
      have := turnMoves_len (many := k) (b := l.natAbs - 1) (p := decide (0 < l)) (by omega) hk
      rw [e1, e2, List.length_append, List.length_cons]
      omega
  omega
theorem sg_cj {n : Nat} {row : List (Pm n)} {g : Pm n} {l : Int} (h : 1 ≤ l.natAbs ∧ l.natAbs ≤ row.length) : sg (cjR row g) l = cj (sg row l) g := by
  obtain ⟨q, hq⟩ : ∃ q, row[l.natAbs - 1]? = some q := ⟨row[l.natAbs - 1], List.getElem?_eq_getElem (by omega)⟩
  have e1 : row.getD (l.natAbs - 1) e = q := by rw [List.getD_eq_getElem?_getD, hq]; rfl
  have e2 : (cjR row g).getD (l.natAbs - 1) e = cj q g := by rw [List.getD_eq_getElem?_getD, cjR, List.getElem?_map, hq]; rfl
  unfold sg
  rw [e1, e2]
  split
  · rfl
  · rw [cj_iv]
theorem tmoves_exs {n : Nat} {row : List (Pm n)} (hp : prodG row = e) {way : List Int} (hw : Wayok row.length way) : exs row (tmoves row.length way) = cjR row (prodG (way.map (sg row))) := by
  induction way with
  | nil =>
    show row = _
    simp [prodG, cjR, cj_e]
  | cons l way ih =>
    have hw' : Wayok row.length way := fun x hx => hw x (List.mem_cons_of_mem _ hx)
    obtain ⟨h1, h2⟩ := hw l (List.mem_cons_self ..)
    have e1 : tmoves row.length (l :: way) = tmoves row.length way ++ turnMoves row.length (l.natAbs - 1) (decide (0 < l)) := by
      have := tmoves_app (k := row.length) (a := [l]) (b := way)
      rw [show l :: way = [l] ++ way from rfl, this]
      simp [tmoves]
    rw [e1, exs_app, ih hw']
    obtain ⟨h, hh⟩ : ∃ h, h = prodG (way.map (sg row)) := ⟨_, rfl⟩
    rw [← hh]
    have cl : (cjR row h).length = row.length := by simp [cjR]
    obtain ⟨q, hq⟩ : ∃ q, row[l.natAbs - 1]? = some q := ⟨row[l.natAbs - 1], List.getElem?_eq_getElem (by omega)⟩
    have hq2 : (cjR row h)[l.natAbs - 1]? = some (cj q h) := by rw [cjR, List.getElem?_map, hq]; rfl
    have hp2 : prodG (cjR row h) = e := by rw [prod_cj, hp]; simp [cj, e_mu, iv_mu]
    have tb := turn_by hp2 hq2 (decide (0 < l))
    rw [cl] at tb
    rw [tb]
    have es : sg row l = (if decide (0 < l) = true then q else iv q) := by
      unfold sg
      rw [List.getD_eq_getElem?_getD, hq]
      by_cases hl : 0 < l <;> simp [hl]
    have e2 : prodG ((l :: way).map (sg row)) = mu (sg row l) h := by rw [hh]; rfl
    rw [e2, es]
    simp only [cjR, List.map_map]
    refine List.map_congr_left fun x _ => ?_
    show cj (cj x h) _ = _
    rw [cj_cj]
    congr 1
    cases decide (0 < l) <;> simp [cj, iv_m, assoc, mu_l, iv_iv]
@[simp] theorem frzC_eR {n : Nat} {row : List (Pm n)} : frzC (eR row) = some (row.map eP) := rfl
theorem wp_slR {n : Nat} {row : List (Pm n)} {lo hi : Option Int} {S : Sx} {Q : D → Sx → Prop} : Wp (dSl (eR row) lo hi) S Q ↔ Q (.tup (cutD (row.map eP) lo hi)) S := wp_slT
theorem law_holds {ns : List Int} (h : ns.length ≤ 63) : WpF F_law [.rd (ns.map .int)] [] (fun d _ => d = .bl true) := by
  unfold F_law
  rw [wpf]
  refine wp_step (fun S => ∃ W, S = ⟨[.val (.rd (ns.map .int)), .val (.ob 1), .un, .un, .un, .un, .un, .un, .un, .un, .un, .un, .un, .un, .un, .un, .un, .un, .un], W⟩ ∧ IsSt W) ?_ ?_
  · simp [stEnv, List.replicate]
    refine (spec_state h).mono ?_
    rintro d W ⟨hW, rfl⟩
    simp
    exact hW
  rintro S ⟨W, rfl, hW⟩
  obtain ⟨IV, hIV⟩ : ∃ IV : Nat → Sx → Prop, IV = fun i S => ∃ (W : List Wo) (s2 s3 s4 s5 s6 s7 s8 s9 s10 s11 s12 s13 s14 s15 s16 s17 : Sl), S = ⟨[.val (.rd (ns.map .int)), .val (.ob 1), s2, s3, s4, s5, s6, s7, s8, s9, s10, s11, s12, s13, s14, s15, s16, s17, .un], W⟩ ∧ IsSt W ∧ ∀ l, s5 ≠ .cell l := ⟨_, rfl⟩
  refine wp_step (fun S => IV (rgD 0 6).length S) ?_ ?_
  · rw [wp_for]
    simp [-thenQ_nx]
    refine wp_forL _ IV _ (by rw [hIV]; exact ⟨W, .un, .un, .un, .un, .un, .un, .un, .un, .un, .un, .un, .un, .un, .un, .un, .un, rfl, hW, by simp⟩) ?_ ?_
    · clear hW W
      intro i d S hi hS
      rw [hIV] at hS
      obtain ⟨W, s2, s3, s4, s5, s6, s7, s8, s9, s10, s11, s12, s13, s14, s15, s16, s17, rfl, hW, h5⟩ := hS
      clear hi
      rw [wg_name]
      refine wp_step (fun S => ∃ W n many, S = ⟨[.val (.rd (ns.map .int)), .val (.ob 1), .val d, s3, s4, s5, s6, s7, s8, s9, s10, .val (dn n), .val (dn many), s13, s14, s15, s16, s17, .un], W⟩ ∧ IsSt W ∧ 0 < n ∧ n ≤ 9 ∧ many ≤ 8) ?_ ?_
      · simp
        refine (spec_draw hW (m := 9) (by omega) (by omega)).mono ?_
        rintro d W1 ⟨h1, r, rfl, hr⟩
        simp
        refine (spec_draw h1 (m := 9) (by omega) (by omega)).mono ?_
        rintro d W2 ⟨h2, r2, rfl, hr2⟩
        simp
        exact ⟨W2, 1 + r, r2, ⟨⟨by simp, rfl⟩, rfl⟩, h2, by omega, by omega, by omega⟩
      clear hW W
      rintro S ⟨W, n, many, rfl, hW, n0, n9, m8⟩
      refine wp_step (fun S => ∃ W, ∃ row : List (Pm n), S = ⟨[.val (.rd (ns.map .int)), .val (.ob 1), .val d, .val (eR row), s4, s5, s6, s7, s8, s9, s10, .val (dn n), .val (dn many), s13, s14, s15, s16, s17, .un], W⟩ ∧ IsSt W ∧ row.length = many ∧ prodG row = e) ?_ ?_
      · simp
        refine (sp_row hW (by omega) (by omega)).mono ?_
        rintro d W1 ⟨h1, row, rfl, hr, hp⟩
        simp
        exact ⟨W1, row, ⟨rfl, rfl⟩, h1, hr, hp⟩
      clear hW W
      rintro S ⟨W, row, rfl, hW, hrl, hpr⟩
      refine wp_step (fun S => ∃ W one other, S = ⟨[.val (.rd (ns.map .int)), .val (.ob 1), .val d, .val (eR row), s4, s5, s6, s7, s8, s9, s10, .val (dn n), .val (dn many), .val (.lst (zL one)), .val (.lst (zL other)), s15, s16, s17, .un], W⟩ ∧ IsSt W ∧ (∀ m ∈ one, Fit many m) ∧ one.length < 8 ∧ (∀ m ∈ other, Fit many m) ∧ other.length < 6) ?_ ?_
      · simp
        refine (sp_some (most := 8) hW (by omega) (by omega) (by omega)).mono ?_
        rintro d W1 ⟨h1, one, rfl, ho, hol⟩
        simp
        refine (sp_some (most := 6) h1 (by omega) (by omega) (by omega)).mono ?_
        rintro d W2 ⟨h2, other, rfl, ht, htl⟩
        simp
        exact ⟨W2, one, other, ⟨⟨rfl, rfl⟩, rfl⟩, h2, ho, hol, ht, htl⟩
      clear hW W
      rintro S ⟨W, one, other, rfl, hW, ho, hol, ht, htl⟩
      rw [← hrl] at ho ht
      refine wp_step (fun S => S = ⟨[.val (.rd (ns.map .int)), .val (.ob 1), .val d, .val (eR row), .val (eR row), s5, s6, s7, s8, s9, s10, .val (dn n), .val (dn many), .val (.lst (zL one)), .val (.lst (zL other)), s15, s16, s17, .un], W⟩) ?_ ?_
      · simp
      rintro S rfl
      refine wp_step (fun S => ∃ s5, S = ⟨[.val (.rd (ns.map .int)), .val (.ob 1), .val d, .val (eR row), .val (eR (exs row one)), s5, s6, s7, s8, s9, s10, .val (dn n), .val (dn many), .val (.lst (zL one)), .val (.lst (zL other)), s15, s16, s17, .un], W⟩ ∧ ∀ l, s5 ≠ .cell l) ?_ ?_
      · rw [wp_for]
        simp
        refine wp_forL _ (fun k S => ∃ s5, S = ⟨[.val (.rd (ns.map .int)), .val (.ob 1), .val d, .val (eR row), .val (eR (exs row (one.take k))), s5, s6, s7, s8, s9, s10, .val (dn n), .val (dn many), .val (.lst (zL one)), .val (.lst (zL other)), s15, s16, s17, .un], W⟩ ∧ ∀ l, s5 ≠ .cell l) _ ⟨s5, rfl, h5⟩ ?_ ?_
        · rintro k d S hk ⟨s5, rfl, h5⟩
          rw [List.getElem?_map] at hk
          cases hz : one[k]? with
          | none => simp [hz] at hk
          | some m =>
            simp [hz] at hk
            subst hk
            have hl : (exs row (one.take k)).length = row.length := exs_len fun j hj => ho j (List.mem_of_mem_take hj)
            simp
            refine (sp_lexchange (by omega) (by rw [hl]; exact ho m (List.mem_of_getElem? hz)) (by omega)).mono ?_
            rintro d W' ⟨rfl, rfl⟩
            simp
            refine ⟨_, ⟨?_, rfl⟩, by simp⟩
            rw [List.take_add_one, hz]
            show eR (ex (exs row (one.take k)) m) = eR (exs row (one.take k ++ [m]))
            rw [exs_app]
            rfl
        · rintro S ⟨s5, rfl, h5⟩
          simp
          exact h5
      clear h5 s5
      rintro S ⟨s5, rfl, h5⟩
      obtain ⟨now, hnow⟩ : ∃ now, now = exs row one := ⟨_, rfl⟩
      rw [← hnow]
      have nl : now.length = row.length := by rw [hnow]; exact exs_len ho
      refine wp_step (fun S => S = ⟨[.val (.rd (ns.map .int)), .val (.ob 1), .val d, .val (eR row), .val (eR now), s5, s6, s7, s8, s9, s10, .val (dn n), .val (dn many), .val (.lst (zL one)), .val (.lst (zL other)), s15, s16, s17, .un], W⟩) ?_ ?_
      · simp
        refine (sp_exchanged (ms := one) rfl (by omega) ho (by omega)).mono ?_
        rintro d W' ⟨rfl, rfl⟩
        rw [← hnow]
        simp
        refine (spec_eq 4 (eR now) W' (okD_eR (by omega) (by omega))).mono ?_
        rintro d W'' ⟨rfl, rfl⟩
        simp
        refine (sp_exchanged (ms := one) rfl (by omega) ho (by omega)).mono ?_
        rintro d W' ⟨rfl, rfl⟩
        rw [← hnow]
        simp
        refine (sp_exchanged (ms := other) rfl (by omega) (by rw [nl]; exact ht) (by omega)).mono ?_
        rintro d W' ⟨rfl, rfl⟩
        simp
        refine ⟨by simp [mostL]; omega, ?_⟩
        refine (sp_exchanged (ms := one ++ other) (by simp) (by omega) (fun m hm => (List.mem_append.mp hm).elim (ho m) (ht m)) (by omega)).mono ?_
        rintro d W' ⟨rfl, rfl⟩
        rw [exs_app, ← hnow]
        have ol : (exs now other).length = now.length := exs_len (by rw [nl]; exact ht)
        simp
        refine (spec_eq 4 _ _ (okD_eR (by omega) (by omega))).mono ?_
        rintro d W'' ⟨rfl, rfl⟩
        simp
      rintro S rfl
      obtain ⟨back, hback⟩ : ∃ back, back = one.reverse.map fun m => -m := ⟨_, rfl⟩
      refine wp_step (fun S => S = ⟨[.val (.rd (ns.map .int)), .val (.ob 1), .val d, .val (eR row), .val (eR now), s5, .val (.lst (zL back)), s7, s8, s9, s10, .val (dn n), .val (dn many), .val (.lst (zL one)), .val (.lst (zL other)), s15, s16, s17, .un], W⟩) ?_ ?_
      · simp [mostL]
        refine ⟨⟨h5, by omega⟩, ?_⟩
        have ez : (zL one).reverse = one.reverse.map D.int := by simp [zL]
        rw [ez]
        refine wp_lcMap (g := fun z => D.int (-z)) ?_ ?_
        · intro z hz
          simp
        · simp [hback, zL, Function.comp_def]
      rintro S rfl
      have hb : exs now back = row := by rw [hnow, hback]; exact exs_back ho
      have bf : ∀ m ∈ back, Fit now.length m := fun m hm => by
        rw [hback, List.mem_map] at hm
        obtain ⟨k, hk, rfl⟩ := hm
        have := ho k (by simpa using hk)
        rw [nl]
        exact ⟨by have := this.1; omega, by have := this.2; omega⟩
      have bl : back.length < 8 := by rw [hback]; simpa using hol
      refine wp_step (fun S => S = ⟨[.val (.rd (ns.map .int)), .val (.ob 1), .val d, .val (eR row), .val (eR now), s5, .val (.lst (zL back)), s7, s8, s9, s10, .val (dn n), .val (dn many), .val (.lst (zL one)), .val (.lst (zL other)), s15, s16, s17, .un], W⟩) ?_ ?_
      · simp
        refine (sp_exchanged (ms := back) rfl (by omega) bf (by omega)).mono ?_
        rintro d W' ⟨rfl, rfl⟩
        rw [hb]
        simp
        refine (spec_eq 4 _ _ (okD_eR (by omega) (by omega))).mono ?_
        rintro d W'' ⟨rfl, rfl⟩
        simp
        refine (sp_shows (ms := one) rfl (by omega) (by omega) (by omega) ho hnow.symm).mono ?_
        rintro d W' ⟨rfl, rfl⟩
        simp
        refine (sp_shows (ms := back) rfl (by omega) (by omega) (by omega) bf hb).mono ?_
        rintro d W' ⟨rfl, rfl⟩
        simp
      rintro S rfl
      refine wp_step (fun S => S = ⟨[.val (.rd (ns.map .int)), .val (.ob 1), .val d, .val (eR row), .val (eR now), s5, .val (.lst (zL back)), s7, s8, s9, s10, .val (dn n), .val (dn many), .val (.lst (zL one)), .val (.lst (zL other)), s15, s16, s17, .un], W⟩) ?_ ?_
      · simp [mostL]
        refine ⟨by omega, ?_⟩
        refine (sp_shows_no (ms := one) (m := (many : Int)) (by simp) (by omega) (fun h => by have := h.2; rw [hrl] at this; simp at this)).mono ?_
        rintro d W' ⟨rfl, rfl⟩
        simp [mostL]
        refine ⟨by omega, ?_⟩
        refine (sp_shows_no (ms := one) (m := (0 : Int)) (by simp) (by omega) (fun h => by have := h.1; simp at this)).mono ?_
        rintro d W' ⟨rfl, rfl⟩
        simp
      rintro S rfl
      obtain ⟨JV, hJV⟩ : ∃ JV : Sx → Prop, JV = fun S => ∃ W, ∃ b : Pm n, S = ⟨[.val (.rd (ns.map .int)), .val (.ob 1), .val d, .val (eR row), .val (eR now), s5, .val (.lst (zL back)), .val (eP b), s8, s9, s10, .val (dn n), .val (dn many), .val (.lst (zL one)), .val (.lst (zL other)), s15, s16, s17, .un], W⟩ ∧ IsSt W := ⟨_, rfl⟩
      refine wp_step (fun S => JV S) ?_ ?_
      · simp
        refine (sp_lperm hW (by omega)).mono ?_
        rintro d W ⟨hW, b, rfl⟩
        simp
        rw [hJV]
        exact ⟨W, b, rfl, hW⟩
      clear hW W
      intro S hS
      rw [hJV] at hS
      obtain ⟨W, b, rfl, hW⟩ := hS
      clear hJV JV
      refine wp_step (fun S => S = ⟨[.val (.rd (ns.map .int)), .val (.ob 1), .val d, .val (eR row), .val (eR now), s5, .val (.lst (zL back)), .val (eP b), s8, s9, s10, .val (dn n), .val (dn many), .val (.lst (zL one)), .val (.lst (zL other)), s15, s16, s17, .un], W⟩) ?_ ?_
      · simp [mostL]
        refine ⟨by omega, wp_lcRel (g := eP) (R := fun p q => q = cj p b) ?_ ?_⟩
        · intro p hp
          simp
          refine (sp_lturned (by omega)).mono ?_
          rintro d W' ⟨rfl, rfl⟩
          simp
        · intro bs hbs
          have e1 := hbs.eq_map
          subst e1
          simp [-List.map_map]
          have cl : (cjR row b).length = row.length := by simp [cjR]
          refine (sp_exchanged (row := cjR row b) (ms := one) rfl (by omega) (by rw [cl]; exact ho) (by omega)).mono ?_
          rintro d W' ⟨rfl, rfl⟩
          rw [exs_cj b ho, ← hnow]
          simp [-List.map_map]
          refine ⟨by omega, wp_lcRel (g := eP) (R := fun p q => q = cj p b) ?_ ?_⟩
          · intro p hp
            simp
            refine (sp_lturned (by omega)).mono ?_
            rintro d W' ⟨rfl, rfl⟩
            simp
          · intro bs hbs
            have e1 := hbs.eq_map
            subst e1
            have cl2 : (cjR now b).length = now.length := by simp [cjR]
            refine (spec_eq 4 (eR (cjR now b)) _ (okD_eR (by omega) (by omega))).mono ?_
            rintro d W'' ⟨rfl, rfl⟩
            simp
      rintro S rfl
      have fitN : ∀ k : Nat, 1 ≤ k → k < many → Fit row.length (k : Int) := fun k h1 h2 => ⟨by simpa using h1, by rw [hrl]; simpa using h2⟩
      obtain ⟨LV, hLV⟩ : ∃ LV : Sx → Prop, LV = fun S => ∃ W s5 s15, S = ⟨[.val (.rd (ns.map .int)), .val (.ob 1), .val d, .val (eR row), .val (eR now), s5, .val (.lst (zL back)), .val (eP b), s8, s9, s10, .val (dn n), .val (dn many), .val (.lst (zL one)), .val (.lst (zL other)), s15, s16, s17, .un], W⟩ ∧ IsSt W ∧ ∀ l, s5 ≠ .cell l := ⟨_, rfl⟩
      refine wp_step (fun S => LV S) ?_ ?_
      · by_cases hm2 : 2 < many
        · have hm2' : ¬ many ≤ 2 := by omega
          simp [hm2, hm2']
          refine .inr ⟨by omega, ?_⟩
          refine (spec_draw hW (m := (many : Int) - 2) (by omega) (by omega)).mono ?_
          rintro d1 W1 ⟨h1, r, rfl, hr⟩
          obtain ⟨i, hi⟩ : ∃ i : Nat, i = 1 + r := ⟨_, rfl⟩
          have hi' : (1 : Int) + (r : Int) = (i : Int) := by omega
          simp [hi', mostL]
          refine (sp_exchanged (row := row) (ms := [(i : Int), (i : Int) + 1, (i : Int)]) rfl (by omega) (by
            intro m hm
            simp at hm
            rcases hm with rfl | rfl | rfl
            · exact fitN i (by omega) (by omega)
            · exact fitN (i + 1) (by omega) (by omega)
            · exact fitN i (by omega) (by omega)) (by omega)).mono ?_
          rintro d1 W2 ⟨rfl, rfl⟩
          simp
          have fit3 : ∀ m ∈ [(i : Int) + 1, (i : Int), (i : Int) + 1], Fit row.length m := by
            intro m hm
            simp at hm
            rcases hm with rfl | rfl | rfl
            · exact fitN (i + 1) (by omega) (by omega)
            · exact fitN i (by omega) (by omega)
            · exact fitN (i + 1) (by omega) (by omega)
          refine (sp_exchanged (row := row) (ms := [(i : Int) + 1, (i : Int), (i : Int) + 1]) rfl (by omega) fit3 (by omega)).mono ?_
          rintro d1 W3 ⟨rfl, rfl⟩
          rw [ex_three (row := row) (i := i) (by omega) (by omega)]
          have el3 := exs_len fit3
          simp
          refine (spec_eq 4 _ _ (okD_eR (by omega) (by omega))).mono ?_
          rintro d1 W4 ⟨rfl, rfl⟩
          simp
          refine (spec_draw h1 (m := (many : Int) - 1) (by omega) (by omega)).mono ?_
          rintro d1 W5 ⟨h5', r2, rfl, hr2⟩
          obtain ⟨j, hj⟩ : ∃ j : Nat, j = 1 + r2 := ⟨_, rfl⟩
          have hj' : (1 : Int) + (r2 : Int) = (j : Int) := by omega
          have keep : LV ⟨[.val (.rd (ns.map .int)), .val (.ob 1), .val d, .val (eR row), .val (eR now), .val (dn i), .val (.lst (zL back)), .val (eP b), s8, s9, s10, .val (dn n), .val (dn many), .val (.lst (zL one)), .val (.lst (zL other)), .val (dn j), s16, s17, .un], W5⟩ := by rw [hLV]; exact ⟨W5, _, _, rfl, h5', by simp⟩
          simp only [wp_addI, hj']
          by_cases hd : 1 < ((i : Int) - (j : Int)).natAbs
          · have hd1 : (1 : Int) < (((i : Int) - (j : Int)).natAbs : Int) := by omega
            have hd2 : ¬ (((i : Int) - (j : Int)).natAbs : Int) ≤ 1 := by omega
            simp [-wp_abs, wp_absN, hd, hd1, hd2, mostL]
            have fi := fitN i (by omega) (by omega)
            have fj := fitN j (by omega) (by omega)
            have far : exs row [(i : Int), (j : Int)] = exs row [(j : Int), (i : Int)] := by
              by_cases hij : i + 1 < j
              · exact ex_far (by omega) hij (by omega)
              · exact (ex_far (by omega) (show j + 1 < i by omega) (by omega)).symm
            have fij : ∀ m ∈ [(i : Int), (j : Int)], Fit row.length m := by
              intro m hm
              simp at hm
              rcases hm with rfl | rfl
              · exact fi
              · exact fj
            have fji : ∀ m ∈ [(j : Int), (i : Int)], Fit row.length m := by
              intro m hm
              simp at hm
              rcases hm with rfl | rfl
              · exact fj
              · exact fi
            refine (sp_exchanged (row := row) (ms := [(i : Int), (j : Int)]) rfl (by omega) fij (by omega)).mono ?_
            rintro d1 W6 ⟨rfl, rfl⟩
            refine (sp_exchanged (row := row) (ms := [(j : Int), (i : Int)]) rfl (by omega) fji (by omega)).mono ?_
            rintro d1 W7 ⟨rfl, rfl⟩
            rw [far]
            have el4 := exs_len fji
            simp
            refine (spec_eq 4 _ _ (okD_eR (by omega) (by omega))).mono ?_
            rintro d1 W8 ⟨rfl, rfl⟩
            simp
            exact keep
          · have hd1 : ¬ (1 : Int) < (((i : Int) - (j : Int)).natAbs : Int) := by omega
            have hd2 : (((i : Int) - (j : Int)).natAbs : Int) ≤ 1 := by omega
            simp [-wp_abs, wp_absN, hd, hd1, hd2, mostL]
            exact keep
        · have hm2' : many ≤ 2 := by omega
          have hm3 : ¬ (2 : Int) < (many : Int) := by omega
          simp [hm2, hm2', hm3]
          rw [hLV]
          exact ⟨W, _, _, rfl, hW, h5⟩
      clear hW W h5 s5
      intro S hS
      rw [hLV] at hS
      obtain ⟨W, s5, s15, rfl, hW, h5⟩ := hS
      clear hLV LV
      refine wp_step (fun S => S = ⟨[.val (.rd (ns.map .int)), .val (.ob 1), .val d, .val (eR row), .val (eR now), s5, .val (.lst (zL back)), .val (eP b), s8, s9, s10, .val (dn n), .val (dn many), .val (.lst (zL one)), .val (.lst (zL other)), s15, s16, s17, .un], W⟩) ?_ ?_
      · by_cases hm0 : many = 0
        · have hm3 : ¬ (0 : Int) < (many : Int) := by omega
          simp [hm0, hm3]
        · have hmp : 0 < many := by omega
          simp [hmp, hm0, mostL, rgD1]
          have fu : ∀ m ∈ upto many, Fit row.length m := by rw [hrl]; exact upto_fit
          have er : exs row (upto many) = row.drop 1 ++ row.take 1 := by
            rw [← hrl]
            cases row with
            | nil => simp at hrl; omega
            | cons g xs => exact around1 hpr
          refine ⟨by omega, ?_⟩
          refine (sp_exchanged (row := row) (ms := upto many) rfl (by omega) fu (by omega)).mono ?_
          rintro d1 W6 ⟨rfl, rfl⟩
          rw [er]
          have el : (row.drop 1 ++ row.take 1).length = row.length := by simp; omega
          have et : D.tup (List.drop 1 (row.map eP) ++ List.take 1 (row.map eP)) = eR (row.drop 1 ++ row.take 1) := by simp [eR, List.map_drop, List.map_take]
          simp only [wp_slR, cut_drop1, cut_one]
          simp [-List.drop_one, mostL, wp_slR]
          refine ⟨by omega, ?_⟩
          rw [et]
          refine (spec_eq 4 _ _ (okD_eR (by omega) (by omega))).mono ?_
          rintro d1 W8 ⟨rfl, rfl⟩
          simp
      rintro S rfl
      refine wp_step (fun S => ∃ W first second, S = ⟨[.val (.rd (ns.map .int)), .val (.ob 1), .val d, .val (eR row), .val (eR now), s5, .val (.lst (zL back)), .val (eP b), s8, s9, s10, .val (dn n), .val (dn many), .val (.lst (zL one)), .val (.lst (zL other)), s15, .val (.lst (zL first)), .val (.lst (zL second)), .un], W⟩ ∧ IsSt W ∧ Wayok many first ∧ first.length ≤ 4 ∧ Wayok many second ∧ second.length ≤ 4) ?_ ?_
      · simp
        refine (sp_way hW (by omega)).mono ?_
        rintro d1 W1 ⟨h1, first, rfl, hf, hfl⟩
        simp
        refine (sp_way h1 (by omega)).mono ?_
        rintro d1 W2 ⟨h2, second, rfl, hs, hsl⟩
        simp
        exact ⟨W2, first, second, ⟨⟨rfl, rfl⟩, rfl⟩, h2, hf, hfl, hs, hsl⟩
      clear hW W
      rintro S ⟨W, first, second, rfl, hW, hf, hfl, hs, hsl⟩
      rw [← hrl] at hf hs
      obtain ⟨g, hg⟩ : ∃ g, g = prodG (first.map (sg row)) := ⟨_, rfl⟩
      refine wp_step (fun S => S = ⟨[.val (.rd (ns.map .int)), .val (.ob 1), .val d, .val (eR row), .val (eR now), s5, .val (.lst (zL back)), .val (eP b), .val (eR (cjR row g)), s9, s10, .val (dn n), .val (dn many), .val (.lst (zL one)), .val (.lst (zL other)), s15, .val (.lst (zL first)), .val (.lst (zL second)), .un], W⟩) ?_ ?_
      · simp [mostL]
        refine ⟨by omega, wp_lcRel (g := eP) (R := fun p q => q = cj p g) ?_ ?_⟩
        · intro p hp
          simp
          refine (sp_along (way := first) rfl (by omega) hf (by omega)).mono ?_
          rintro d1 W' ⟨rfl, rfl⟩
          rw [← hg]
          simp
          refine (sp_lturned (by omega)).mono ?_
          rintro d1 W' ⟨rfl, rfl⟩
          simp
        · intro bs hbs
          have e1 := hbs.eq_map
          subst e1
          simp [eR, cjR]
      rintro S rfl
      have mvf : ∀ way, Wayok row.length way → ∀ m ∈ tmoves row.length way, Fit row.length m := fun way hw => tmoves_fit hw
      have mvl : ∀ way, Wayok row.length way → way.length ≤ 8 → (tmoves row.length way).length ≤ 10000 := fun way hw hl => tmoves_len hw hl (by omega)
      have mve : ∀ way, Wayok row.length way → exs row (tmoves row.length way) = cjR row (prodG (way.map (sg row))) := fun way hw => tmoves_exs hpr hw
      refine wp_step (fun S => S = ⟨[.val (.rd (ns.map .int)), .val (.ob 1), .val d, .val (eR row), .val (eR now), s5, .val (.lst (zL back)), .val (eP b), .val (eR (cjR row g)), .val (.lst (zL (tmoves row.length first))), s10, .val (dn n), .val (dn many), .val (.lst (zL one)), .val (.lst (zL other)), s15, .val (.lst (zL first)), .val (.lst (zL second)), .un], W⟩) ?_ ?_
      · simp
        refine (sp_turning (way := first) rfl (by omega) hf (by omega)).mono ?_
        rintro d1 W' ⟨rfl, rfl⟩
        simp
      rintro S rfl
      refine wp_step (fun S => S = ⟨[.val (.rd (ns.map .int)), .val (.ob 1), .val d, .val (eR row), .val (eR now), s5, .val (.lst (zL back)), .val (eP b), .val (eR (cjR row g)), .val (.lst (zL (tmoves row.length first))), s10, .val (dn n), .val (dn many), .val (.lst (zL one)), .val (.lst (zL other)), s15, .val (.lst (zL first)), .val (.lst (zL second)), .un], W⟩) ?_ ?_
      · simp
        refine (sp_exchanged (ms := tmoves row.length first) rfl (by omega) (mvf first hf) (by omega)).mono ?_
        rintro d1 W' ⟨rfl, rfl⟩
        rw [mve first hf, ← hg]
        have cl : (cjR row g).length = row.length := by simp [cjR]
        simp
        refine (spec_eq 4 _ _ (okD_eR (by omega) (by omega))).mono ?_
        rintro d1 W'' ⟨rfl, rfl⟩
        simp
        have := mvl first hf (by omega)
        refine (sp_shows (ms := tmoves row.length first) rfl (by omega) (by omega) (by omega) (mvf first hf) (by rw [mve first hf, ← hg])).mono ?_
        rintro d1 W' ⟨rfl, rfl⟩
        simp
      rintro S rfl
      have hsf : Wayok row.length (second ++ first) := fun l hl => (List.mem_append.mp hl).elim (hs l) (hf l)
      refine wp_step (fun S => S = ⟨[.val (.rd (ns.map .int)), .val (.ob 1), .val d, .val (eR row), .val (eR now), s5, .val (.lst (zL back)), .val (eP b), .val (eR (cjR row g)), .val (.lst (zL (tmoves row.length first))), .val (eR (exs row (tmoves row.length (second ++ first)))), .val (dn n), .val (dn many), .val (.lst (zL one)), .val (.lst (zL other)), s15, .val (.lst (zL first)), .val (.lst (zL second)), .un], W⟩) ?_ ?_
      · simp [mostL]
        refine ⟨by omega, ?_⟩
        refine (sp_turning (way := second ++ first) (by simp) (by omega) hsf (by simp; omega)).mono ?_
        rintro d1 W' ⟨rfl, rfl⟩
        simp
        refine (sp_exchanged (ms := tmoves row.length (second ++ first)) rfl (by omega) (mvf _ hsf) (by omega)).mono ?_
        rintro d1 W' ⟨rfl, rfl⟩
        simp
      rintro S rfl
      have cl : (cjR row g).length = row.length := by simp [cjR]
      have hs2 : Wayok (cjR row g).length second := by rw [cl]; exact hs
      simp
      refine (sp_turning (row := cjR row g) (way := second) rfl (by omega) hs2 (by omega)).mono ?_
      rintro d1 W' ⟨rfl, rfl⟩
      simp
      refine (sp_exchanged (row := cjR row g) (ms := tmoves (cjR row g).length second) rfl (by omega) (by rw [cl]; exact mvf second hs) (by omega)).mono ?_
      rintro d1 W' ⟨rfl, rfl⟩
      have ee : exs (cjR row g) (tmoves (cjR row g).length second) = exs row (tmoves row.length (second ++ first)) := by
        rw [cl, tmoves_app, exs_app, mve first hf, ← hg]
      rw [ee]
      have el : (exs row (tmoves row.length (second ++ first))).length = row.length := exs_len (mvf _ hsf)
      simp
      refine (spec_eq 4 _ _ (okD_eR (by omega) (by omega))).mono ?_
      rintro d1 W'' ⟨rfl, rfl⟩
      simp
      rw [hIV]
      exact ⟨_, _, _, _, _, _, _, _, _, _, _, _, _, _, _, _, _, rfl, hW, h5⟩
    · intro S hS
      exact ⟨rfl, hS⟩
  intro S hS
  rw [hIV] at hS
  obtain ⟨W, s2, s3, s4, s5, s6, s7, s8, s9, s10, s11, s12, s13, s14, s15, s16, s17, rfl, hW, h5⟩ := hS
  have P1 : IsPerm 3 [1, 0, 2] := perm_range (by decide)
  have P2 : IsPerm 3 [1, 2, 0] := perm_range (by decide)
  obtain ⟨p, hp⟩ : ∃ p : Pm 3, p = ⟨[1, 0, 2], P1⟩ := ⟨_, rfl⟩
  obtain ⟨q, hq⟩ : ∃ q : Pm 3, q = ⟨[1, 2, 0], P2⟩ := ⟨_, rfl⟩
  have e1 : D.tup [.tup [.int 1, .int 0, .int 2], .tup [.int 1, .int 0, .int 2]] = eR [p, p] := by rw [hp]; rfl
  have e2 : D.tup [.tup [.int 1, .int 2, .int 0], .tup [.int 1, .int 2, .int 0], .tup [.int 1, .int 2, .int 0]] = eR [q, q, q] := by rw [hq]; rfl
  have f1 : exs [p, p] [1] = [p, p] := by
    show [p, cj p p] = _
    rw [cj_self]
  have f2 : exs [q, q, q] [1, -2] = [q, q, q] := by
    show [q, cj q (iv (cj q q)), cj q q] = _
    rw [cj_self]
    simp [cj, iv_iv, mu_iv, mu_e]
  simp [mostL, e1, e2]
  refine (sp_exchanged (row := [p, p]) (ms := [1]) rfl (by omega) (by intro m hm; simp at hm; subst hm; exact ⟨by simp, by simp⟩) (by simp)).mono ?_
  rintro d1 W6 ⟨rfl, rfl⟩
  rw [f1]
  simp
  refine (spec_eq 4 _ _ (okD_eR (by simp) (by omega))).mono ?_
  rintro d1 W8 ⟨rfl, rfl⟩
  simp
  refine (sp_exchanged (row := [q, q, q]) (ms := [1, -2]) rfl (by omega) (by
    intro m hm
    simp at hm
    rcases hm with rfl | rfl
    · exact ⟨by simp, by simp⟩
    · exact ⟨by simp, by simp⟩) (by simp)).mono ?_
  rintro d1 W9 ⟨rfl, rfl⟩
  rw [f2]
  simp
  refine (spec_eq 4 _ _ (okD_eR (by simp) (by omega))).mono ?_
  rintro d1 W8 ⟨rfl, rfl⟩
  simp
theorem answers : ∀ ns : List Int, ns.length ≤ 63 → ∃ W', F_law [.rd (ns.map .int)] [] = some (.bl true, W') := fun ns h => by
  obtain ⟨d, W, e, rfl⟩ := law_holds h
  exact ⟨W, e⟩
end Ms.Law
open PySem PySem.W PyProof.Rows
set_option maxRecDepth 100000 in
set_option maxHeartbeats 0 in
theorem PySem.Challenge.cw_manysheets_k39_exchanges_put_together_holds : PySem.Challenge.rw_manysheets_k39_exchanges_put_together.Holds := by
  w_on; o_law; k_head; (case hw => w_witness2)
  k_fill
  refine Ms.walk_ms (l := PySem.Challenge.rw_manysheets_k39_exchanges_put_together) (x := "script") (F := Ms.Law.F_law) (j := 7) rfl rfl ⟨rfl, by decide, by decide⟩ (fun w h Y => PySem.W.kIn_of Y) ?F Ms.Law.answers
  case F =>
    intro w mg h KX G
    refine' Ms.Law.all_mk KX G ?a1 ?l1 ?c1 ?k1 ?a2 ?l2 ?c2 ?k2 ?a3 ?l3 ?c3 ?k3 ?a4 ?l4 ?c4 ?k4 ?a5 ?l5 ?c5 ?k5 ?a6 ?l6 ?c6 ?k6 ?a7 ?l7 ?c7 ?k7 ?a8 ?l8 ?c8 ?k8 ?a9 ?l9 ?c9 ?k9 ?a10 ?l10 ?c10 ?k10 ?a11 ?l11 ?c11 ?k11 ?a12 ?l12 ?c12 ?k12 ?a13 ?l13 ?c13 ?k13 ?a14 ?l14 ?c14 ?k14 ?a15 ?l15 ?c15 ?k15 ?a16 ?l16 ?c16 ?k16 ?a17 ?l17 ?c17 ?k17 ?a18 ?l18 ?c18 ?k18 ?a19 ?l19 ?c19 ?k19 ?a20 ?l20 ?c20 ?k20 ?a21 ?l21 ?c21 ?k21 ?a22 ?l22 ?c22 ?k22 ?a23 ?l23 ?c23 ?k23 ?z_abs ?z_any ?z_bool ?z_enumerate ?z_int ?z_isinstance ?z_len ?z_list ?z_range ?z_reversed ?z_str ?z_tuple
    (case a1 => k_is)
    (case l1 => k_is)
    (case c1 => k_is)
    (case k1 => k_is)
    (case a2 => k_is)
    (case l2 => k_is)
    (case c2 => k_is)
    (case k2 => k_is)
    (case a3 => k_is)
    (case l3 => k_is)
    (case c3 => k_is)
    (case k3 => k_is)
    (case a4 => k_is)
    (case l4 => k_is)
    (case c4 => k_is)
    (case k4 => k_is)
    (case a5 => k_is)
    (case l5 => k_is)
    (case c5 => k_is)
    (case k5 => k_is)
    (case a6 => k_is)
    (case l6 => k_is)
    (case c6 => k_is)
    (case k6 => k_is)
    (case a7 => k_is)
    (case l7 => k_is)
    (case c7 => k_is)
    (case k7 => k_is)
    (case a8 => k_is)
    (case l8 => k_is)
    (case c8 => k_is)
    (case k8 => k_is)
    (case a9 => k_is)
    (case l9 => k_is)
    (case c9 => k_is)
    (case k9 => k_is)
    (case a10 => k_is)
    (case l10 => k_is)
    (case c10 => k_is)
    (case k10 => k_is)
    (case a11 => k_is)
    (case l11 => k_is)
    (case c11 => k_is)
    (case k11 => k_is)
    (case a12 => k_is)
    (case l12 => k_is)
    (case c12 => k_is)
    (case k12 => k_is)
    (case a13 => k_is)
    (case l13 => k_is)
    (case c13 => k_is)
    (case k13 => k_is)
    (case a14 => k_is)
    (case l14 => k_is)
    (case c14 => k_is)
    (case k14 => k_is)
    (case a15 => k_is)
    (case l15 => k_is)
    (case c15 => k_is)
    (case k15 => k_is)
    (case a16 => k_is)
    (case l16 => k_is)
    (case c16 => k_is)
    (case k16 => k_is)
    (case a17 => k_is)
    (case l17 => k_is)
    (case c17 => k_is)
    (case k17 => k_is)
    (case a18 => k_is)
    (case l18 => k_is)
    (case c18 => k_is)
    (case k18 => k_is)
    (case a19 => k_is)
    (case l19 => k_is)
    (case c19 => k_is)
    (case k19 => k_is)
    (case a20 => k_is)
    (case l20 => k_is)
    (case c20 => k_is)
    (case k20 => k_is)
    (case a21 => k_is)
    (case l21 => k_is)
    (case c21 => k_is)
    (case k21 => k_is)
    (case a22 => k_is)
    (case l22 => k_is)
    (case c22 => k_is)
    (case k22 => k_is)
    (case a23 => k_is)
    (case l23 => k_is)
    (case c23 => k_is)
    (case k23 => k_is)
    (case z_abs => k_is)
    (case z_any => k_is)
    (case z_bool => k_is)
    (case z_enumerate => k_is)
    (case z_int => k_is)
    (case z_isinstance => k_is)
    (case z_len => k_is)
    (case z_list => k_is)
    (case z_range => k_is)
    (case z_reversed => k_is)
    (case z_str => k_is)
    (case z_tuple => k_is)

