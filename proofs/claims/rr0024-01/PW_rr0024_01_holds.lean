import PyProof.Rows.All
import Wide.All
import OpenK.AllK
import Wide.FinOn
import KE.KEqDict
import PySem.Challenge.RW_rr0024_01
open PySem PySem.W PySem.Calls PyProof.Rows
set_option Elab.async false
set_option maxRecDepth 100000
set_option linter.unusedVariables false
set_option maxHeartbeats 8000000
namespace Mine
section
local macro_rules | `(tactic| o_head $_) => `(tactic| (exact And.right (a := PySem.Challenge.rw_rr0024_01.wellSaid = true) (by assumption)))
theorem hd (h : PySem.Challenge.rw_rr0024_01.Holds) : PySem.Challenge.rw_rr0024_01.Holds := by
  refine ⟨h.1, ?_⟩
  w_on; k_head
end
example : (PySem.Challenge.rw_rr0024_01 = PySem.Challenge.rw_rr0024_01) ∧ (hd.heap_1 = hd.heap_1) := by k_fill; exact ⟨rfl, rfl⟩
inductive V where
  | none
  | bool (b : Bool)
  | int (i : Int)
  | str (s : Str)
  | tup (l : List V)
  | ref (a : Addr)
  | raw (x : Value)

mutual
def Rel (h : Heap) : V → Value → Prop
  | .none, x => x = .none
  | .bool b, x => x = .bool b
  | .int i, x => ∃ t, x = .int i t
  | .str s, x => ∃ t, x = .str s t
  | .tup l, x => ∃ a xs, x = .ref a ∧ IsTup h a xs ∧ Rels h l xs.toList
  | .ref a, x => x = .ref a
  | .raw y, x => x = y
def Rels (h : Heap) : List V → List Value → Prop
  | [], [] => True
  | v :: l, x :: xs => Rel h v x ∧ Rels h l xs
  | _, _ => False
end

def Stab (h h' : Heap) : Prop := ∀ a xs, IsTup h a xs → IsTup h' a xs
theorem Stab.refl (h : Heap) : Stab h h := fun _ _ x => x
theorem Stab.trans {h₁ h₂ h₃ : Heap} (a : Stab h₁ h₂) (b : Stab h₂ h₃) : Stab h₁ h₃ := fun c xs x => b c xs (a c xs x)

mutual
theorem Rel.stab {h h' : Heap} (st : Stab h h') : ∀ {v : V} {x : Value}, Rel h v x → Rel h' v x
  | .none, _, r => by simpa [Rel] using r
  | .bool _, _, r => by simpa [Rel] using r
  | .int _, _, r => by simpa [Rel] using r
  | .str _, _, r => by simpa [Rel] using r
  | .tup l, x, r => by
    simp only [Rel] at r ⊢
    obtain ⟨a, xs, e, t, rs⟩ := r
    exact ⟨a, xs, e, st _ _ t, Rels.stab st rs⟩
  | .ref _, _, r => by simpa [Rel] using r
  | .raw _, _, r => by simpa [Rel] using r
theorem Rels.stab {h h' : Heap} (st : Stab h h') : ∀ {l : List V} {xs : List Value}, Rels h l xs → Rels h' l xs
  | [], [], _ => by simp [Rels]
  | [], _ :: _, r => by simp [Rels] at r
  | _ :: _, [], r => by simp [Rels] at r
  | v :: l, x :: xs, r => by
    simp only [Rels] at r ⊢
    exact ⟨Rel.stab st r.1, Rels.stab st r.2⟩
end

theorem Rels.length {h : Heap} : ∀ {l : List V} {xs : List Value}, Rels h l xs → l.length = xs.length
  | [], [], _ => rfl
  | [], _ :: _, r => by simp [Rels] at r
  | _ :: _, [], r => by simp [Rels] at r
  | v :: l, x :: xs, r => by simp only [Rels] at r; simp [Rels.length r.2]
theorem Rels.get {h : Heap} : ∀ {l : List V} {xs : List Value}, Rels h l xs → ∀ {i : Nat} {v : V}, l[i]? = some v → ∃ x, xs[i]? = some x ∧ Rel h v x
  | [], [], _, i, v, e => by simp at e
  | [], _ :: _, r, _, _, _ => by simp [Rels] at r
  | _ :: _, [], r, _, _, _ => by simp [Rels] at r
  | v :: l, x :: xs, r, 0, w, e => by simp only [Rels] at r; simp at e; subst e; exact ⟨x, rfl, r.1⟩
  | v :: l, x :: xs, r, i + 1, w, e => by simp only [Rels] at r; simpa using Rels.get r.2 (by simpa using e)
theorem Rels.append {h : Heap} : ∀ {l l' : List V} {xs xs' : List Value}, Rels h l xs → Rels h l' xs' → Rels h (l ++ l') (xs ++ xs')
  | [], _, [], _, _, r' => r'
  | [], _, _ :: _, _, r, _ => by simp [Rels] at r
  | _ :: _, _, [], _, r, _ => by simp [Rels] at r
  | v :: l, _, x :: xs, _, r, r' => by simp only [Rels, List.cons_append] at r ⊢; exact ⟨r.1, Rels.append r.2 r'⟩
theorem Rels.set {h : Heap} {v : V} {x : Value} (r0 : Rel h v x) : ∀ {l : List V} {xs : List Value}, Rels h l xs → ∀ (i : Nat), Rels h (l.set i v) (xs.set i x)
  | [], [], _, i => by simp [Rels]
  | [], _ :: _, r, _ => by simp [Rels] at r
  | _ :: _, [], r, _ => by simp [Rels] at r
  | _ :: _, _ :: _, r, 0 => by simp only [Rels, List.set_cons_zero] at r ⊢; exact ⟨r0, r.2⟩
  | _ :: _, _ :: _, r, i + 1 => by simp only [Rels, List.set_cons_succ] at r ⊢; exact ⟨r.1, Rels.set r0 r.2 i⟩
theorem Rels.take {h : Heap} : ∀ {l : List V} {xs : List Value}, Rels h l xs → ∀ (i : Nat), Rels h (l.take i) (xs.take i)
  | [], [], _, i => by simp [Rels]
  | [], _ :: _, r, _ => by simp [Rels] at r
  | _ :: _, [], r, _ => by simp [Rels] at r
  | _ :: _, _ :: _, r, 0 => by simp [Rels]
  | _ :: _, _ :: _, r, i + 1 => by simp only [Rels, List.take_succ_cons] at r ⊢; exact ⟨r.1, Rels.take r.2 i⟩
theorem Rels.drop {h : Heap} : ∀ {l : List V} {xs : List Value}, Rels h l xs → ∀ (i : Nat), Rels h (l.drop i) (xs.drop i)
  | [], [], _, i => by simp [Rels]
  | [], _ :: _, r, _ => by simp [Rels] at r
  | _ :: _, [], r, _ => by simp [Rels] at r
  | _ :: _, _ :: _, r, 0 => by simpa using r
  | _ :: _, _ :: _, r, i + 1 => by simp only [Rels, List.drop_succ_cons] at r ⊢; exact Rels.drop r.2 i
theorem Rels.one {h : Heap} {v : V} {x : Value} (r : Rel h v x) : Rels h [v] [x] := by simp [Rels, r]

def All2 {α β : Type} (R : α → β → Prop) : List α → List β → Prop
  | [], [] => True
  | a :: l, b :: m => R a b ∧ All2 R l m
  | _, _ => False
theorem All2.mono {α β : Type} {R S : α → β → Prop} (f : ∀ a b, R a b → S a b) : ∀ {l : List α} {m : List β}, All2 R l m → All2 S l m
  | [], [], _ => trivial
  | [], _ :: _, r => r.elim
  | _ :: _, [], r => r.elim
  | _ :: _, _ :: _, r => ⟨f _ _ r.1, All2.mono f r.2⟩
theorem All2.length {α β : Type} {R : α → β → Prop} : ∀ {l : List α} {m : List β}, All2 R l m → l.length = m.length
  | [], [], _ => rfl
  | [], _ :: _, r => r.elim
  | _ :: _, [], r => r.elim
  | _ :: _, _ :: _, r => by simp [All2.length r.2]
theorem All2.append {α β : Type} {R : α → β → Prop} : ∀ {l l' : List α} {m m' : List β}, All2 R l m → All2 R l' m' → All2 R (l ++ l') (m ++ m')
  | [], _, [], _, _, r' => r'
  | [], _, _ :: _, _, r, _ => r.elim
  | _ :: _, _, [], _, r, _ => r.elim
  | _ :: _, _, _ :: _, _, r, r' => ⟨r.1, All2.append r.2 r'⟩
theorem All2.map {α β α' β' : Type} {R : α → β → Prop} {S : α' → β' → Prop} {f : α → α'} {g : β → β'} (h : ∀ a b, R a b → S (f a) (g b)) : ∀ {l : List α} {m : List β}, All2 R l m → All2 S (l.map f) (m.map g)
  | [], [], _ => trivial
  | [], _ :: _, r => r.elim
  | _ :: _, [], r => r.elim
  | _ :: _, _ :: _, r => ⟨h _ _ r.1, All2.map h r.2⟩

/-- what an address bears -/
inductive O where
  | list (l : List V)
  | idict (l : List (Int × V))
  | sdict (l : List (Str × V))
  | tdict (l : List (List Int × V))
  | inst (C d : Addr)
  | frame (ρ : Str → Option V)
  | pred (P : Obj → Prop)
  | cell (v : Option Addr)

abbrev Sg := Addr → Option O
def upd (σ : Sg) (a : Addr) (o : O) : Sg := fun b => if b = a then some o else σ b
theorem upd_same (σ : Sg) (a : Addr) (o : O) : upd σ a o a = some o := by simp [upd]
theorem upd_ne (σ : Sg) {a b : Addr} (o : O) (h : b ≠ a) : upd σ a o b = σ b := by simp [upd, h]
theorem upd_upd (σ : Sg) (a : Addr) (o o' : O) : upd (upd σ a o) a o' = upd σ a o' := by
  funext b; by_cases h : b = a <;> simp [upd, h]

def ORel (prog : Program) (w : World) (h : Heap) (a : Addr) : O → Prop
  | .list l => ∃ (xs : List Value) (n : Nat), IsL h a xs.toArray n ∧ Rels h l xs
  | .idict l => ∃ kvs : List (Int × Value), h.DictOf (intKind prog w) a kvs ∧ All2 (fun p q => p.1 = q.1 ∧ Rel h p.2 q.2) l kvs
  | .sdict l => ∃ kvs : List (Str × Value), h.DictOf (strKind prog w) a kvs ∧ All2 (fun p q => p.1 = q.1 ∧ Rel h p.2 q.2) l kvs
  | .tdict l => ∃ xs : List (List Int × Addr × Value), h.DictOfH (tupleKind (intKind prog w)) a xs ∧ All2 (fun p q => p.1 = q.1 ∧ Rel h p.2 q.2.2) l xs
  | .inst C d => h.get? a = some (instObj C d)
  | .frame ρ => ∃ m, h.Ns a m ∧ ∀ x v, ρ x = some v → ∃ y, m x = some y ∧ Rel h v y
  | .pred P => ∃ o, h.get? a = some o ∧ P o ∧ o.cls ≠ .type "tuple"
  | .cell v => ∃ o, h.get? a = some o ∧ o.data = .cell (v.map Value.ref)

theorem ORel.notTup {prog : Program} {w : World} {h : Heap} {a : Addr} {o : O} (r : ORel prog w h a o) (xs : Array Value) : ¬ IsTup h a xs := by
  rintro ⟨ob, ho, hc, n, hd⟩
  cases o with
  | list l => obtain ⟨ys, n, ho', _⟩ := r; unfold IsL at ho'; rw [ho] at ho'; cases ho'; simp at hc
  | idict l => obtain ⟨ys, ⟨o', _, _, ho', hc', _⟩, _⟩ := r; rw [ho] at ho'; cases ho'; have := hc'.1; rw [hc] at this; simp at this
  | sdict l => obtain ⟨ys, ⟨o', _, _, ho', hc', _⟩, _⟩ := r; rw [ho] at ho'; cases ho'; have := hc'.1; rw [hc] at this; simp at this
  | tdict l => obtain ⟨ys, ⟨o', _, _, ho', hc', _⟩, _⟩ := r; rw [ho] at ho'; cases ho'; have := hc'.1; rw [hc] at this; simp at this
  | inst C d => have r' : h.get? a = some (instObj C d) := r; rw [ho] at r'; cases r'; simp at hc
  | frame ρ => obtain ⟨m, ⟨o', _, _, ho', hd', _⟩, _⟩ := r; rw [ho] at ho'; cases ho'; rw [hd] at hd'; cases hd'
  | pred P => obtain ⟨o', ho', _, hc'⟩ := r; rw [ho] at ho'; cases ho'; exact hc' hc
  | cell v => obtain ⟨o', ho', hd'⟩ := r; rw [ho] at ho'; cases ho'; rw [hd] at hd'; cases hd'

theorem stab_of_ext {prog : Program} {w : World} {h h' : Heap} {a : Addr} {o : O} (r : ORel prog w h a o) (x : Heap.ExtBut a h h') : Stab h h' := fun b xs t => by
  have hb : b ≠ a := by rintro rfl; exact r.notTup xs t
  exact t.extBut x hb
theorem stab_of_keep {h h' : Heap} (k : ∀ b o, h.get? b = some o → h'.get? b = some o) : Stab h h' := fun _ _ t => t.keeps k

theorem ORel.move {prog : Program} {w : World} {h h' : Heap} {b : Addr} {o : O} (r : ORel prog w h b o) (k : ∀ ob, h.get? b = some ob → h'.get? b = some ob) (st : Stab h h') : ORel prog w h' b o := by
  cases o with
  | list l => obtain ⟨xs, n, ho, rs⟩ := r; exact ⟨xs, n, k _ ho, rs.stab st⟩
  | idict l => obtain ⟨xs, ⟨o, es, ep, ho, r1⟩, rs⟩ := r; exact ⟨xs, ⟨o, es, ep, k _ ho, r1⟩, rs.mono fun _ _ z => ⟨z.1, z.2.stab st⟩⟩
  | sdict l => obtain ⟨xs, ⟨o, es, ep, ho, r1⟩, rs⟩ := r; exact ⟨xs, ⟨o, es, ep, k _ ho, r1⟩, rs.mono fun _ _ z => ⟨z.1, z.2.stab st⟩⟩
  | tdict l =>
    obtain ⟨xs, ⟨o, es, ep, ho, h1, h2, h3, h4, h5⟩, rs⟩ := r
    refine ⟨xs, ⟨o, es, ep, k _ ho, h1, h2, h3, fun x hx => ?_, h5⟩, rs.mono fun _ _ z => ⟨z.1, z.2.stab st⟩⟩
    obtain ⟨ok, items, n, g1, g2, g3, g4⟩ := h4 x hx
    obtain ⟨ok', g1', g2', n', g3'⟩ := st _ items ⟨ok, g1, g2, n, g3⟩
    exact ⟨ok', items, n', g1', g2', g3', g4⟩
  | inst C d => exact k _ r
  | frame ρ => obtain ⟨m, hn, hm⟩ := r; exact ⟨m, hn.at k, fun x v e => let ⟨y, e1, e2⟩ := hm x v e; ⟨y, e1, e2.stab st⟩⟩
  | pred P => obtain ⟨o, ho, r⟩ := r; exact ⟨o, k _ ho, r⟩
  | cell v => obtain ⟨o, ho, r⟩ := r; exact ⟨o, k _ ho, r⟩

theorem ORel.lt {prog : Program} {w : World} {h : Heap} {b : Addr} {o : O} (r : ORel prog w h b o) : b < h.objs.size := by
  cases o with
  | list l => obtain ⟨xs, n, ho, _⟩ := r; exact Heap.lt_size ho
  | idict l => obtain ⟨xs, ⟨o, es, ep, ho, r1⟩, rs⟩ := r; exact Heap.lt_size ho
  | sdict l => obtain ⟨xs, ⟨o, es, ep, ho, r1⟩, rs⟩ := r; exact Heap.lt_size ho
  | tdict l => obtain ⟨xs, ⟨o, es, ep, ho, r1⟩, rs⟩ := r; exact Heap.lt_size ho
  | inst C d => exact Heap.lt_size r
  | frame ρ => obtain ⟨m, hn, hm⟩ := r; exact hn.lt
  | pred P => obtain ⟨o, ho, r⟩ := r; exact Heap.lt_size ho
  | cell v => obtain ⟨o, ho, r⟩ := r; exact Heap.lt_size ho

structure Base where
  prog : Program
  w : World
  K : Frag
  h₀ : Heap
  s₀ : Shared
  mg : Str → Option Value
  mb : Str → Option Value
  p : Program
  loose : List Str
  X : K.In h₀
  T : TopRead p loose mg mb h₀

structure Inv (B : Base) (gs : List (Addr × O)) (σ : Sg) (s : Shared) : Prop where
  base : ∀ b o, B.h₀.get? b = some o → s.heap.get? b = some o
  size : B.h₀.objs.size ≤ s.heap.objs.size
  objs : ∀ a o, σ a = some o → ORel B.prog B.w s.heap a o ∧ B.h₀.objs.size ≤ a
  hid : ∀ p ∈ gs, ORel B.prog B.w s.heap p.1 p.2 ∧ B.h₀.objs.size ≤ p.1 ∧ σ p.1 = none
  nd : (gs.map (·.1)).Nodup
  sh : ∃ h tk, s = { B.s₀ with heap := h, toks := tk }

section
variable {B : Base} {gs : List (Addr × O)} {σ : Sg} {s : Shared} {h' : Heap} {a : Addr} {o o' : O} {tk : Nat}

theorem Inv.sh' (I : Inv B gs σ s) (h' : Heap) (tk : Nat) : ∃ h t, ({ s with heap := h', toks := tk } : Shared) = { B.s₀ with heap := h, toks := t } := by
  obtain ⟨h, t, rfl⟩ := I.sh
  exact ⟨h', tk, rfl⟩

theorem Inv.keep (I : Inv B gs σ s) (k : ∀ b o, s.heap.get? b = some o → h'.get? b = some o) (hz : s.heap.objs.size ≤ h'.objs.size) : Inv B gs σ { s with heap := h', toks := tk } :=
  ⟨fun b o e => k _ _ (I.base b o e), Nat.le_trans I.size hz, fun a o e => ⟨(I.objs a o e).1.move (fun _ => k _ _) (stab_of_keep k), (I.objs a o e).2⟩,
    fun p hp => ⟨(I.hid p hp).1.move (fun _ => k _ _) (stab_of_keep k), (I.hid p hp).2⟩, I.nd, I.sh' _ _⟩

theorem Inv.toks (I : Inv B gs σ s) : Inv B gs σ { s with toks := tk } := by
  have := I.keep (h' := s.heap) (tk := tk) (fun _ _ e => e) (Nat.le_refl _)
  exact this

theorem Inv.base_ne (_I : Inv B gs σ s) {b : Addr} {ob : Obj} (hb : B.h₀.objs.size ≤ a) (e : B.h₀.get? b = some ob) : b ≠ a := by
  rintro rfl
  exact absurd (Heap.lt_size e) (Nat.not_lt.mpr hb)

/-- an object of σ turned -/
theorem Inv.mut (I : Inv B gs σ s) (ho : σ a = some o) (x : Heap.ExtBut a s.heap h') (r : ORel B.prog B.w h' a o') : Inv B gs (upd σ a o') { s with heap := h', toks := tk } := by
  have st := stab_of_ext (I.objs a o ho).1 x
  have hb := (I.objs a o ho).2
  refine ⟨fun b ob e => x b ob (I.base_ne hb e) (I.base b ob e), Nat.le_of_lt (Nat.lt_of_le_of_lt hb r.lt), fun b ob e => ?_, fun p hp => ?_, I.nd, I.sh' _ _⟩
  · by_cases h : b = a
    · subst h; rw [upd_same] at e; cases e; exact ⟨r, hb⟩
    · rw [upd_ne _ _ h] at e
      exact ⟨(I.objs b ob e).1.move (fun ob' => x b ob' h) st, (I.objs b ob e).2⟩
  · have H := I.hid p hp
    have h : p.1 ≠ a := by intro q; rw [q, ho] at H; exact nomatch H.2.2
    exact ⟨H.1.move (fun ob' => x _ ob' h) st, H.2.1, by rw [upd_ne _ _ h]; exact H.2.2⟩

/-- the first hidden object turned -/
theorem Inv.mutHid {gs : List (Addr × O)} (I : Inv B ((a, o) :: gs) σ s) (x : Heap.ExtBut a s.heap h') (r : ORel B.prog B.w h' a o') : Inv B ((a, o') :: gs) σ { s with heap := h', toks := tk } := by
  have H := I.hid _ (.head _)
  have st := stab_of_ext H.1 x
  refine ⟨fun b ob e => x b ob (I.base_ne H.2.1 e) (I.base b ob e), Nat.le_of_lt (Nat.lt_of_le_of_lt H.2.1 r.lt), fun b ob e => ?_, fun p hp => ?_, I.nd, I.sh' _ _⟩
  · have h : b ≠ a := by rintro rfl; have := H.2.2; simp only at this; rw [this] at e; cases e
    exact ⟨(I.objs b ob e).1.move (fun ob' => x b ob' h) st, (I.objs b ob e).2⟩
  · rcases List.mem_cons.mp hp with rfl | hp'
    · exact ⟨r, H.2⟩
    · have h : p.1 ≠ a := by
        intro q
        have := I.nd
        simp only [List.map_cons, List.nodup_cons] at this
        exact this.1 (q ▸ List.mem_map_of_mem hp')
      have G := I.hid p (.tail _ hp')
      exact ⟨G.1.move (fun ob' => x _ ob' h) st, G.2⟩

theorem Inv.fresh (I : Inv B gs σ s) (ha : s.heap.objs.size ≤ a) : σ a = none := by
  cases e : σ a with
  | none => rfl
  | some o => exact absurd (I.objs a o e).1.lt (Nat.not_lt.mpr ha)

theorem Inv.alloc (I : Inv B gs σ s) (ha : s.heap.objs.size ≤ a) (k : ∀ b o, s.heap.get? b = some o → h'.get? b = some o) (r : ORel B.prog B.w h' a o) :
    Inv B gs (upd σ a o) { s with heap := h', toks := tk } := by
  have hz : s.heap.objs.size ≤ h'.objs.size := Nat.le_trans ha (Nat.le_of_lt r.lt)
  have J := I.keep (tk := tk) k hz
  refine ⟨J.base, J.size, fun b ob e => ?_, fun p hp => ?_, J.nd, J.sh⟩
  · by_cases h : b = a
    · subst h; rw [upd_same] at e; cases e; exact ⟨r, Nat.le_trans I.size ha⟩
    · rw [upd_ne _ _ h] at e; exact J.objs b ob e
  · have h : p.1 ≠ a := Nat.ne_of_lt (Nat.lt_of_lt_of_le (I.hid p hp).1.lt ha)
    exact ⟨(J.hid p hp).1, (J.hid p hp).2.1, by rw [upd_ne _ _ h]; exact (J.hid p hp).2.2⟩

theorem Inv.push (I : Inv B gs σ s) (ha : s.heap.objs.size ≤ a) (k : ∀ b o, s.heap.get? b = some o → h'.get? b = some o) (r : ORel B.prog B.w h' a o) :
    Inv B ((a, o) :: gs) σ { s with heap := h', toks := tk } := by
  have hz : s.heap.objs.size ≤ h'.objs.size := Nat.le_trans ha (Nat.le_of_lt r.lt)
  have J := I.keep (tk := tk) k hz
  refine ⟨J.base, J.size, J.objs, fun p hp => ?_, ?_, J.sh⟩
  · rcases List.mem_cons.mp hp with rfl | hp'
    · exact ⟨r, Nat.le_trans I.size ha, I.fresh ha⟩
    · exact J.hid p hp'
  · simp only [List.map_cons, List.nodup_cons]
    refine ⟨fun q => ?_, J.nd⟩
    obtain ⟨p, hp, e⟩ := List.mem_map.mp q
    exact absurd (I.hid p hp).1.lt (by rw [e]; exact Nat.not_lt.mpr ha)

theorem Inv.pop {p : Addr × O} (I : Inv B (p :: gs) σ s) : Inv B gs σ s :=
  ⟨I.base, I.size, I.objs, fun q hq => I.hid q (.tail _ hq), by have := I.nd; simp only [List.map_cons, List.nodup_cons] at this; exact this.2, I.sh⟩
theorem Inv.dropHid {q : Addr × O} (I : Inv B ((a, o) :: q :: gs) σ s) (x : Heap.ExtBut a s.heap h') : Inv B (q :: gs) σ { s with heap := h', toks := tk } := by
  have H := I.hid _ (.head _)
  have st := stab_of_ext H.1 x
  have nd := I.nd
  simp only [List.map_cons, List.nodup_cons, List.mem_cons, not_or] at nd
  have hq := I.hid q (.tail _ (.head _))
  have hqa : q.1 ≠ a := fun e => nd.1.1 e.symm
  have rq := hq.1.move (fun ob' => x _ ob' hqa) st
  refine ⟨fun b o e => x b o (I.base_ne H.2.1 e) (I.base b o e), Nat.le_of_lt (Nat.lt_of_le_of_lt hq.2.1 rq.lt), fun b ob e => ?_, fun p hp => ?_, by simp only [List.map_cons, List.nodup_cons]; exact nd.2, I.sh' _ _⟩
  · have h : b ≠ a := by rintro rfl; have := H.2.2; simp only at this; rw [this] at e; cases e
    exact ⟨(I.objs b ob e).1.move (fun ob' => x b ob' h) st, (I.objs b ob e).2⟩
  · have G := I.hid p (.tail _ hp)
    have h : p.1 ≠ a := by
      intro e
      rcases List.mem_cons.mp hp with rfl | hp'
      · exact hqa e
      · exact nd.1.2 (e ▸ List.mem_map_of_mem hp')
    exact ⟨G.1.move (fun ob' => x _ ob' h) st, G.2⟩
theorem Inv.swap {p q : Addr × O} (I : Inv B (p :: q :: gs) σ s) : Inv B (q :: p :: gs) σ s :=
  ⟨I.base, I.size, I.objs, fun r hr => I.hid r (by simp only [List.mem_cons] at hr ⊢; rcases hr with h | h | h <;> simp [h]), by
    have := I.nd; simp only [List.map_cons, List.nodup_cons, List.mem_cons, not_or] at this ⊢
    exact ⟨⟨fun e => this.1.1 e.symm, this.2.1⟩, this.1.2, this.2.2⟩, I.sh⟩
theorem Inv.X (I : Inv B gs σ s) : B.K.In s.heap := B.X.keeps I.base
theorem Inv.T (I : Inv B gs σ s) : TopRead B.p B.loose B.mg B.mb s.heap := B.T.keeps I.base
theorem Inv.lo (I : Inv B gs σ s) (ho : σ a = some o) : (a == sysModules) = false := by
  have h1 := (I.objs a o ho).2
  obtain ⟨mc, h2, _⟩ := B.T.nolimit
  have h3 : cStatics < B.h₀.objs.size := h2.lt
  have : sysModules < a := by
    have : (sysModules : Nat) < cStatics := by decide
    exact Nat.lt_of_lt_of_le (Nat.lt_trans this h3) h1
  simp only [beq_eq_false_iff_ne, ne_eq]
  exact fun e => absurd this (by rw [e]; exact Nat.lt_irrefl _)
end
/-! ## equality of plain values -/
mutual
def V.plain : Nat → V → Bool
  | _, .none => true
  | _, .int _ => true
  | _, .str s => PyData.strOk s
  | n + 1, .tup l => V.plains n l
  | _, _ => false
def V.plains : Nat → List V → Bool
  | _, [] => true
  | n, v :: l => V.plain n v && V.plains n l
end
mutual
def V.py : V → PyData
  | .int i => .int i
  | .str s => .str s
  | .tup l => .tuple (V.pys l)
  | _ => .none
def V.pys : List V → List PyData
  | [] => []
  | v :: l => V.py v :: V.pys l
end

mutual
theorem V.reads {h : Heap} : ∀ (n : Nat) {v : V} {x : Value}, Rel h v x → v.plain n = true → ∃ as, Reads h x v.py as
  | _, .none, x, r, _ => by simp only [Rel] at r; subst r; exact ⟨_, .none⟩
  | _, .int i, x, r, _ => by simp only [Rel] at r; obtain ⟨t, rfl⟩ := r; exact ⟨_, .int i t⟩
  | _, .str i, x, r, _ => by simp only [Rel] at r; obtain ⟨t, rfl⟩ := r; exact ⟨_, .str i t⟩
  | 0, .tup l, x, r, p => by simp [V.plain] at p
  | n + 1, .tup l, x, r, p => by
    simp only [Rel] at r
    obtain ⟨a, xs, rfl, ⟨o, ho, hc, m, hd⟩, rs⟩ := r
    simp only [V.plain] at p
    obtain ⟨as, ra⟩ := V.readss n rs p
    exact ⟨_, .tuple ho hc hd ra⟩
  | _, .bool _, _, _, p => by simp [V.plain] at p
  | _, .ref _, _, _, p => by simp [V.plain] at p
  | _, .raw _, _, _, p => by simp [V.plain] at p
theorem V.readss {h : Heap} : ∀ (n : Nat) {l : List V} {xs : List Value}, Rels h l xs → V.plains n l = true → ∃ as, ReadsAll h xs (V.pys l) as
  | _, [], [], _, _ => ⟨_, .nil⟩
  | _, [], _ :: _, r, _ => by simp [Rels] at r
  | _, _ :: _, [], r, _ => by simp [Rels] at r
  | n, v :: l, x :: xs, r, p => by
    simp only [Rels] at r
    simp only [V.plains, Bool.and_eq_true] at p
    obtain ⟨as, ra⟩ := V.reads n r.1 p.1
    obtain ⟨bs, rb⟩ := V.readss n r.2 p.2
    exact ⟨_, .cons ra rb⟩
end
mutual
theorem V.lay : ∀ (n : Nat) (v : V), v.plain n = true → v.py.canLay0 = true ∧ v.py.depth ≤ n
  | _, .none, _ => by simp [V.py, PyData.canLay0, PyData.depth]
  | _, .int i, _ => by simp [V.py, PyData.canLay0, PyData.depth]
  | _, .str i, p => by simp only [V.plain] at p; simp [V.py, PyData.canLay0, PyData.depth, p]
  | 0, .tup l, p => by simp [V.plain] at p
  | n + 1, .tup l, p => by
    simp only [V.plain] at p
    obtain ⟨a, b⟩ := V.lays n l p
    simp only [V.py, PyData.canLay0, PyData.depth]
    exact ⟨a, by lia⟩
  | _, .bool _, p => by simp [V.plain] at p
  | _, .ref _, p => by simp [V.plain] at p
  | _, .raw _, p => by simp [V.plain] at p
theorem V.lays : ∀ (n : Nat) (l : List V), V.plains n l = true → PyData.canLayAll0 (V.pys l) = true ∧ PyData.depthAll (V.pys l) ≤ n
  | _, [], _ => by simp [V.pys, PyData.canLayAll0, PyData.depthAll]
  | n, v :: l, p => by
    simp only [V.plains, Bool.and_eq_true] at p
    obtain ⟨a, b⟩ := V.lay n v p.1
    obtain ⟨c, d⟩ := V.lays n l p.2
    simp only [V.pys, PyData.canLayAll0, PyData.depthAll, a, c]
    exact ⟨rfl, by lia⟩
end
mutual
theorem V.eqv : ∀ (n k : Nat) (v w : V), v.plain n = true → w.plain k = true → (PyData.eqv v.py w.py = true ↔ v = w)
  | _, _, .none, w, _, q => by cases w <;> simp_all [V.py, PyData.eqv, V.plain]
  | _, _, .int i, w, _, q => by cases w <;> simp_all [V.py, PyData.eqv, V.plain]
  | _, _, .str i, w, _, q => by cases w <;> simp_all [V.py, PyData.eqv, V.plain]
  | 0, _, .tup l, _, p, _ => by simp [V.plain] at p
  | n + 1, 0, .tup l, .tup m, p, q => by simp [V.plain] at q
  | n + 1, k + 1, .tup l, .tup m, p, q => by
    simp only [V.plain] at p q
    simp only [V.py, PyData.eqv, V.tup.injEq]
    exact V.eqvs n k l m p q
  | _ + 1, _, .tup l, .none, p, q => by simp [V.py, PyData.eqv]
  | _ + 1, _, .tup l, .int _, p, q => by simp [V.py, PyData.eqv]
  | _ + 1, _, .tup l, .str _, p, q => by simp [V.py, PyData.eqv]
  | _ + 1, _, .tup l, .bool _, p, q => by simp [V.plain] at q
  | _ + 1, _, .tup l, .ref _, p, q => by simp [V.plain] at q
  | _ + 1, _, .tup l, .raw _, p, q => by simp [V.plain] at q
  | _, _, .bool _, _, p, _ => by simp [V.plain] at p
  | _, _, .ref _, _, p, _ => by simp [V.plain] at p
  | _, _, .raw _, _, p, _ => by simp [V.plain] at p
theorem V.eqvs : ∀ (n k : Nat) (l m : List V), V.plains n l = true → V.plains k m = true → (PyData.eqvAll (V.pys l) (V.pys m) = true ↔ l = m)
  | _, _, [], [], _, _ => by simp [V.pys, PyData.eqvAll]
  | _, _, [], _ :: _, _, _ => by simp [V.pys, PyData.eqvAll]
  | _, _, _ :: _, [], _, _ => by simp [V.pys, PyData.eqvAll]
  | n, k, v :: l, w :: m, p, q => by
    simp only [V.plains, Bool.and_eq_true] at p q
    simp only [V.pys, PyData.eqvAll, Bool.and_eq_true, V.eqv n k v w p.1 q.1, V.eqvs n k l m p.2 q.2, List.cons.injEq]
end
theorem V.eqv_decide {n k : Nat} {v w : V} (p : v.plain n = true) (q : w.plain k = true) (inst : Decidable (v = w)) : PyData.eqv v.py w.py = decide (v = w) := by
  have := V.eqv n k v w p q
  cases h : PyData.eqv v.py w.py with
  | true => simp [this.mp h]
  | false => have : ¬ v = w := fun e => by rw [this.mpr e] at h; cases h
             simp [this]

/-! ## contexts, posts -/
def NoE : Value → Shared → Prop := fun _ _ => False
abbrev Rho := Str → Option V
structure Cx where
  B : Base
  A : Around
  gs : List (Addr × O)
  env : Env
def Cx.st (c : Cx) (ρ : Rho) (σ : Sg) (s : Shared) : Prop := Inv c.B ((c.env.locals, .frame ρ) :: c.gs) σ s
structure Room (A : Around) (n : Nat) : Prop where
  handled : A.handled = none
  depth : A.depth + n < recursionLimit
  units : A.units + 4 * n + 100 < cLine
structure Cx.ok (c : Cx) : Prop where
  fn : c.env.scope.kind = .function
  gl : c.env.globals = mainGlobals
  bi : c.env.builtins = builtinsNs
  handled : c.A.handled = none
  units : c.A.units + 70 < cLine

inductive PostE (c : Cx) (ρ : Rho) (h : Heap) (Q : V → Sg → Prop) (x : Value) (s' : Shared) : Prop
  | mk (st : Stab h s'.heap) (v : V) (σ' : Sg) (I : c.st ρ σ' s') (r : Rel s'.heap v x) (q : Q v σ')
inductive PostB (c : Cx) (ρ : Rho) (h : Heap) (Q : Bool → Sg → Prop) (b : Bool) (s' : Shared) : Prop
  | mk (st : Stab h s'.heap) (σ' : Sg) (I : c.st ρ σ' s') (q : Q b σ')
inductive PostL (c : Cx) (ρ : Rho) (h : Heap) (Q : List V → Sg → Prop) (xs : List Value) (s' : Shared) : Prop
  | mk (st : Stab h s'.heap) (l : List V) (σ' : Sg) (I : c.st ρ σ' s') (r : Rels s'.heap l xs) (q : Q l σ')
inductive PostU (c : Cx) (ρ : Rho) (h : Heap) (Q : Sg → Prop) (u : Unit) (s' : Shared) : Prop
  | mk (st : Stab h s'.heap) (σ' : Sg) (I : c.st ρ σ' s') (q : Q σ')

def WE (c : Cx) (e : Expr) (ρ : Rho) (σ : Sg) (Q : V → Sg → Prop) : Prop := ∀ s, c.st ρ σ s → wpAny (model c.B.prog c.B.w) c.A (eval e c.env) (PostE c ρ s.heap Q) NoE s
def WT (c : Cx) (e : Expr) (ρ : Rho) (σ : Sg) (Q : Bool → Sg → Prop) : Prop := ∀ s, c.st ρ σ s → wpAny (model c.B.prog c.B.w) c.A (isTrue e c.env (eval e c.env)) (PostB c ρ s.heap Q) NoE s
def WL (c : Cx) (pos : Pos) (es : List Expr) (ρ : Rho) (σ : Sg) (Q : List V → Sg → Prop) : Prop := ∀ s, c.st ρ σ s → wpAny (model c.B.prog c.B.w) c.A (spliced (backTo pos (starEach es c.env))) (PostL c ρ s.heap Q) NoE s
/-- an operation on values in hand -/
def W1 (c : Cx) (f : Value → Sem Value) (v : V) (ρ : Rho) (σ : Sg) (Q : V → Sg → Prop) : Prop := ∀ s x, c.st ρ σ s → Rel s.heap v x → wpAny (model c.B.prog c.B.w) c.A (f x) (PostE c ρ s.heap Q) NoE s
def W2 (c : Cx) (f : Value → Value → Sem Value) (v w : V) (ρ : Rho) (σ : Sg) (Q : V → Sg → Prop) : Prop := ∀ s x y, c.st ρ σ s → Rel s.heap v x → Rel s.heap w y → wpAny (model c.B.prog c.B.w) c.A (f x y) (PostE c ρ s.heap Q) NoE s
/-- a call of a value by values -/
def WC (c : Cx) (f : Value) (vs : List V) (ρ : Rho) (σ : Sg) (Q : V → Sg → Prop) : Prop := ∀ s xs, c.st ρ σ s → Rels s.heap vs xs → wpAny (model c.B.prog c.B.w) c.A (call f xs) (PostE c ρ s.heap Q) NoE s

section
variable {c : Cx} {ρ : Rho} {σ : Sg} {h h' : Heap} {s : Shared}
theorem PostE.from {Q : V → Sg → Prop} (st : Stab h h') {x : Value} {s' : Shared} (p : PostE c ρ h' Q x s') : PostE c ρ h Q x s' := by obtain ⟨a, b0, b1, b2, b3, b4⟩ := p; exact ⟨st.trans a, b0, b1, b2, b3, b4⟩
theorem PostB.from {Q : Bool → Sg → Prop} (st : Stab h h') {x : Bool} {s' : Shared} (p : PostB c ρ h' Q x s') : PostB c ρ h Q x s' := by obtain ⟨a, b0, b1, b2⟩ := p; exact ⟨st.trans a, b0, b1, b2⟩
theorem Cx.st.frame (I : c.st ρ σ s) : ∃ m, s.heap.Ns c.env.locals m ∧ ∀ x v, ρ x = some v → ∃ y, m x = some y ∧ Rel s.heap v y := (I.hid _ (.head _)).1
theorem Cx.st.toks (I : c.st ρ σ s) (tk : Nat) : c.st ρ σ { s with toks := tk } := Inv.toks I

theorem WE.loc {x : Str} {pos : Pos} {v : V} {Q : V → Sg → Prop} (ok : c.ok) (hv : ρ x = some v) (hQ : Q v σ)
    (hl : c.env.kindOf x = some .local := by k_dflt rfl) (hd : (x == ("__debug__" : Str)) = false := by k_dflt decide) : WE c (.Name x pos) ρ σ Q := fun s I => by
  obtain ⟨m, hn, hm⟩ := I.frame
  obtain ⟨y, hy, r⟩ := hm x v hv
  exact wpAny_Name (wpAny_loadName_local ok.fn hl hn hy ⟨Stab.refl _, v, σ, I, r, hQ⟩) hd

theorem WE.glob {x : Str} {pos : Pos} {y : Value} {v : V} {Q : V → Sg → Prop} (ok : c.ok) (hy : nsIn c.B.K mainGlobals x = some (some y)) (hv : ∀ h, Rel h v y) (hQ : Q v σ)
    (hl : c.env.kindOf x = some .globalImplicit := by k_dflt rfl) (hd : (x == ("__debug__" : Str)) = false := by k_dflt decide) : WE c (.Name x pos) ρ σ Q := fun s I =>
  Calls.Name_function_global ok.fn hl (Calls.loadGlobal_global (mg := c.B.mg) (by rw [ok.gl]; exact I.T.g) (mg_of I.X I.T.g hy) ⟨Stab.refl _, v, σ, I, hv _, hQ⟩) hd

theorem WE.blt {x : Str} {pos : Pos} {y : Value} {Q : V → Sg → Prop} (ok : c.ok) (hy : nsIn c.B.K mainGlobals x = some none) (hb : bootBuiltins x = some y) (hn : x ≠ "__name__") (hQ : Q (.raw y) σ)
    (hl : c.env.kindOf x = some .globalImplicit := by k_dflt rfl) (hd : (x == ("__debug__" : Str)) = false := by k_dflt decide) : WE c (.Name x pos) ρ σ Q := fun s I =>
  Calls.Name_function_global ok.fn hl (Calls.loadGlobal_builtin (mg := c.B.mg) (mb := c.B.mb) (by rw [ok.gl]; exact I.T.g) (mg_none_of I.X I.T.g hy) (by rw [ok.bi]; exact I.T.b) ((I.T.builtins x hn).trans hb)
    ⟨Stab.refl _, .raw y, σ, I, by simp [Rel], hQ⟩) hd

theorem WE.cint {i : Int} {k : Nat} {pos : Pos} {Q : V → Sg → Prop} (hQ : Q (.int i) σ) : WE c (.Constant (.int i) k pos) ρ σ Q := fun s I =>
  wpAny_Constant_int ⟨Stab.refl _, .int i, σ, I.toks _, by simp [Rel], hQ⟩
theorem WE.cstr {i : Str} {k : Nat} {pos : Pos} {Q : V → Sg → Prop} (hQ : Q (.str i) σ) : WE c (.Constant (.str i) k pos) ρ σ Q := fun s I =>
  wpAny_Constant_str ⟨Stab.refl _, .str i, σ, I.toks _, by simp [Rel], hQ⟩
theorem WE.cbool {b : Bool} {k : Nat} {pos : Pos} {Q : V → Sg → Prop} (hQ : Q (.bool b) σ) : WE c (.Constant (.bool b) k pos) ρ σ Q := fun s I =>
  wpAny_Constant_bool ⟨Stab.refl _, .bool b, σ, I, by simp [Rel], hQ⟩

/-- two parts, then an operation -/
theorem two {t u : Sem Value} {f : Value → Value → Sem Value} {Q : V → Sg → Prop} (s : Shared) (ht : wpAny (model c.B.prog c.B.w) c.A t (PostE c ρ s.heap fun v σ₁ => ∀ s₁, c.st ρ σ₁ s₁ → wpAny (model c.B.prog c.B.w) c.A u (PostE c ρ s₁.heap fun w σ₂ => W2 c f v w ρ σ₂ Q) NoE s₁) NoE s) :
    wpAny (model c.B.prog c.B.w) c.A t (fun a s₁ => wpAny (model c.B.prog c.B.w) c.A u (fun b s₂ => wpAny (model c.B.prog c.B.w) c.A (f a b) (PostE c ρ s.heap Q) NoE s₂) NoE s₁) NoE s :=
  wpAny_mono ht (fun x s₁ ⟨st, v, σ₁, I₁, r, k⟩ => wpAny_mono (k s₁ I₁) (fun y s₂ ⟨st', w, σ₂, I₂, r', q⟩ =>
    wpAny_mono (q s₂ x y I₂ (r.stab st') r') (fun _ _ p => p.from (st.trans st')) fun _ _ z => z) fun _ _ z => z) fun _ _ z => z

theorem WE.bin {l r : Expr} {op : Operator} {pos : Pos} {Q : V → Sg → Prop} (hh : WE c l ρ σ fun v σ₁ => WE c r ρ σ₁ fun w σ₂ => W2 c (binaryOp op) v w ρ σ₂ Q) : WE c (.BinOp l op r pos) ρ σ Q := fun s I =>
  wpAny_BinOp (two s (hh s I))
theorem WE.cmp {l r : Expr} {op : CmpOp} {pos : Pos} {Q : V → Sg → Prop} (hh : WE c l ρ σ fun v σ₁ => WE c r ρ σ₁ fun w σ₂ => W2 c (compareOp op) v w ρ σ₂ Q)
    (hm : behindInMarks op r = false := by with_unfolding_all rfl) : WE c (.Compare l [op] [r] pos) ρ σ Q := fun s I =>
  wpAny_Compare1 (two s (hh s I)) hm
theorem WE.un {x : Expr} {op : UnaryOp} {pos : Pos} {Q : V → Sg → Prop} (hh : WE c x ρ σ fun v σ₁ => W1 c (unaryOp op) v ρ σ₁ Q) : WE c (.UnaryOp op x pos) ρ σ Q := fun s I =>
  wpAny_UnaryOp (wpAny_mono (hh s I) (fun x s₁ ⟨st, v, σ₁, I₁, r, k⟩ => wpAny_mono (k s₁ x I₁ r) (fun _ _ p => p.from st) fun _ _ z => z) fun _ _ z => z)

theorem W2.add {a b : Int} {Q : V → Sg → Prop} (hQ : Q (.int (a + b)) σ) : W2 c (binaryOp .Add) (.int a) (.int b) ρ σ Q := fun s x y I rx ry => by
  simp only [Rel] at rx ry; obtain ⟨t, rfl⟩ := rx; obtain ⟨u, rfl⟩ := ry
  exact P.add_int ⟨Stab.refl _, _, σ, I.toks _, by simp [Rel], hQ⟩
theorem W2.sub {a b : Int} {Q : V → Sg → Prop} (hQ : Q (.int (a - b)) σ) : W2 c (binaryOp .Sub) (.int a) (.int b) ρ σ Q := fun s x y I rx ry => by
  simp only [Rel] at rx ry; obtain ⟨t, rfl⟩ := rx; obtain ⟨u, rfl⟩ := ry
  exact P.sub_int ⟨Stab.refl _, _, σ, I.toks _, by simp [Rel], hQ⟩
theorem W2.mod {a b : Int} {Q : V → Sg → Prop} (hb : b ≠ 0) (hQ : Q (.int (a.fmod b)) σ) : W2 c (binaryOp .Mod) (.int a) (.int b) ρ σ Q := fun s x y I rx ry => by
  simp only [Rel] at rx ry; obtain ⟨t, rfl⟩ := rx; obtain ⟨u, rfl⟩ := ry
  exact mod_int' hb ⟨Stab.refl _, _, σ, I.toks _, by simp [Rel], hQ⟩
theorem W2.pow {a n : Int} {Q : V → Sg → Prop} (hn : 0 ≤ n) (hn2 : n ≤ 1000000) (ha : a.natAbs < 2 ^ 64) (hQ : Q (.int (a ^ n.toNat)) σ) : W2 c (binaryOp .Pow) (.int a) (.int n) ρ σ Q := fun s x y I rx ry => by
  simp only [Rel] at rx ry; obtain ⟨t, rfl⟩ := rx; obtain ⟨u, rfl⟩ := ry
  exact pow_int_small hn hn2 ha ⟨Stab.refl _, _, σ, I.toks _, by simp [Rel], hQ⟩
theorem W2.iadd {a b : Int} {Q : V → Sg → Prop} (hQ : Q (.int (a + b)) σ) : W2 c (inplaceOp .Add) (.int a) (.int b) ρ σ Q := fun s x y I rx ry => by
  simp only [Rel] at rx ry; obtain ⟨t, rfl⟩ := rx; obtain ⟨u, rfl⟩ := ry
  exact P.iadd_int ⟨Stab.refl _, _, σ, I.toks _, by simp [Rel], hQ⟩
theorem W2.ifdiv {a b : Int} {Q : V → Sg → Prop} (hb : b ≠ 0) (hb2 : b.natAbs.log2 < 9000) (hQ : Q (.int (a.fdiv b)) σ) : W2 c (inplaceOp .FloorDiv) (.int a) (.int b) ρ σ Q := fun s x y I rx ry => by
  simp only [Rel] at rx ry; obtain ⟨t, rfl⟩ := rx; obtain ⟨u, rfl⟩ := ry
  exact AutoIntOps.ifloordiv_1 (by simpa using hb) (by rw [PyProof.noPylong_of_log2 hb2]; simp) ⟨Stab.refl _, _, σ, I.toks _, by simp [Rel], hQ⟩
theorem W1.neg {a : Int} {Q : V → Sg → Prop} (hQ : Q (.int (-a)) σ) : W1 c (unaryOp .USub) (.int a) ρ σ Q := fun s x I rx => by
  simp only [Rel] at rx; obtain ⟨t, rfl⟩ := rx
  exact P.neg_int ⟨Stab.refl _, _, σ, I.toks _, by simp [Rel], hQ⟩
end
/-! ## dicts -/
section
variable {K : Type} [DecidableEq K]
def dget (l : List (K × V)) (k : K) : Option V := (l.find? fun p => decide (p.1 = k)).map (·.2)
def dput (l : List (K × V)) (k : K) (v : V) : List (K × V) :=
  if l.any (fun p => decide (p.1 = k)) then l.map (fun p => if p.1 = k then (p.1, v) else p) else l ++ [(k, v)]

theorem dget_rel {h : Heap} {k : K} : ∀ {l : List (K × V)} {kvs : List (K × Value)}, All2 (fun p q => p.1 = q.1 ∧ Rel h p.2 q.2) l kvs →
    (dget l k = none ∧ valueAt kvs k = none) ∨ ∃ v x, dget l k = some v ∧ valueAt kvs k = some x ∧ Rel h v x
  | [], [], _ => .inl ⟨rfl, rfl⟩
  | [], _ :: _, r => r.elim
  | _ :: _, [], r => r.elim
  | (a, v) :: l, (b, x) :: m, r => by
    obtain ⟨⟨e, rv⟩, rs⟩ := r
    simp only at e; subst e
    by_cases q : a = k
    · exact .inr ⟨v, x, by simp [dget, q], by simp [valueAt, q], rv⟩
    · rcases dget_rel (k := k) rs with ⟨h1, h2⟩ | ⟨v', x', h1, h2, h3⟩
      · exact .inl ⟨by simpa [dget, q] using h1, by simpa [valueAt, q] using h2⟩
      · exact .inr ⟨v', x', by simpa [dget, q] using h1, by simpa [valueAt, q] using h2, h3⟩

theorem any_rel {h : Heap} {k : K} : ∀ {l : List (K × V)} {kvs : List (K × Value)}, All2 (fun p q => p.1 = q.1 ∧ Rel h p.2 q.2) l kvs →
    l.any (fun p => decide (p.1 = k)) = kvs.any (fun p => decide (p.1 = k))
  | [], [], _ => rfl
  | [], _ :: _, r => r.elim
  | _ :: _, [], r => r.elim
  | (a, v) :: l, (b, x) :: m, r => by
    obtain ⟨⟨e, rv⟩, rs⟩ := r
    simp only at e; subst e
    simp only [List.any_cons, any_rel rs]

theorem dput_rel {h : Heap} {k : K} {v : V} {x : Value} (rv : Rel h v x) {l : List (K × V)} {kvs : List (K × Value)} (r : All2 (fun p q => p.1 = q.1 ∧ Rel h p.2 q.2) l kvs) :
    All2 (fun p q => p.1 = q.1 ∧ Rel h p.2 q.2) (dput l k v) (stored kvs k x) := by
  unfold dput stored
  rw [any_rel r]
  split
  · refine All2.map (fun a b ⟨e, rr⟩ => ?_) r
    obtain ⟨a1, a2⟩ := a; obtain ⟨b1, b2⟩ := b
    simp only at e rr; subst e
    by_cases q : a1 = k <;> simp [q, rv, rr]
  · exact r.append ⟨⟨rfl, rv⟩, trivial⟩
end

theorem dget_relH {h : Heap} {k : List Int} : ∀ {l : List (List Int × V)} {kvs : List (List Int × Addr × Value)}, All2 (fun p q => p.1 = q.1 ∧ Rel h p.2 q.2.2) l kvs →
    (dget l k = none ∧ atKey kvs k = none) ∨ ∃ v x, dget l k = some v ∧ atKey kvs k = some x ∧ Rel h v x.2
  | [], [], _ => .inl ⟨rfl, rfl⟩
  | [], _ :: _, r => r.elim
  | _ :: _, [], r => r.elim
  | (a, v) :: l, (b, x) :: m, r => by
    obtain ⟨⟨e, rv⟩, rs⟩ := r
    simp only at e; subst e
    by_cases q : a = k
    · exact .inr ⟨v, x, by simp [dget, q], by simp [atKey, q], rv⟩
    · rcases dget_relH (k := k) rs with ⟨h1, h2⟩ | ⟨v', x', h1, h2, h3⟩
      · exact .inl ⟨by simpa [dget, q] using h1, by simpa [atKey, q] using h2⟩
      · exact .inr ⟨v', x', by simpa [dget, q] using h1, by simpa [atKey, q] using h2, h3⟩
theorem any_relH {h : Heap} {k : List Int} : ∀ {l : List (List Int × V)} {kvs : List (List Int × Addr × Value)}, All2 (fun p q => p.1 = q.1 ∧ Rel h p.2 q.2.2) l kvs →
    l.any (fun p => decide (p.1 = k)) = (atKey kvs k).isSome
  | [], [], _ => rfl
  | [], _ :: _, r => r.elim
  | _ :: _, [], r => r.elim
  | (a, v) :: l, (b, x) :: m, r => by
    obtain ⟨⟨e, rv⟩, rs⟩ := r
    simp only at e; subst e
    have ih := any_relH (k := k) rs
    by_cases q : a = k
    · simp [atKey, q]
    · simp only [List.any_cons, q, decide_false, Bool.false_or, ih]; simp [atKey, q]
theorem dput_relH {h : Heap} {k : List Int} {a : Addr} {v : V} {x : Value} (rv : Rel h v x) {l : List (List Int × V)} {kvs : List (List Int × Addr × Value)} (r : All2 (fun p q => p.1 = q.1 ∧ Rel h p.2 q.2.2) l kvs) :
    All2 (fun p q => p.1 = q.1 ∧ Rel h p.2 q.2.2) (dput l k v) (storedH kvs k a x) := by
  unfold dput storedH
  rw [any_relH r]
  split
  · refine All2.map (fun p q ⟨e, rr⟩ => ?_) r
    obtain ⟨a1, a2⟩ := p; obtain ⟨b1, b2⟩ := q
    simp only at e rr; subst e
    by_cases q : a1 = k <;> simp [putAt, q, rv, rr]
  · exact r.append ⟨⟨rfl, rv⟩, trivial⟩

theorem lookIn_of {prog : Program} {w : World} {name : Str} {o : Obj} {es : Array DictEntry} {ep : Nat} {kvs : List (Str × Value)} (hd : o.data = .dict es ep) (hp : Pairs (strKind prog w) es.toList kvs) :
    lookIn name o = some (valueAt kvs name) := by
  unfold lookIn
  rw [hd]
  dsimp only
  have hf := hp.find name
  have e : (fun d : DictEntry => (strKind prog w).is name d.key) = fun d => d.key.isStr name := funext fun d => (isStr_of name d.key).symm
  rw [e] at hf
  cases q : es.toList.find? (fun x => x.key.isStr name) with
  | some en => rw [q] at hf; simp at hf; simp [← hf]
  | none =>
    rw [q] at hf
    simp at hf
    rw [← hf]
    have : es.toList.any (·.refKey) = false := by
      rw [List.any_eq_false]
      intro en hen
      have key : ∀ {l : List DictEntry} {m : List (Str × Value)}, Pairs (strKind prog w) l m → ∀ en ∈ l, en.refKey = false := by
        intro l m hp
        induction hp with
        | nil => intro en he; cases he
        | cons h1 _ _ ih =>
          intro en he
          rcases List.mem_cons.mp he with rfl | he
          · obtain ⟨t, ht⟩ := Value.isStrOf_shape h1
            unfold DictEntry.refKey; rw [ht]
          · exact ih en he
      rw [key hp en hen]; simp
    dsimp only
    rw [this]; rfl

def fieldOK (K : Frag) (C : Addr) (name : Str) : Bool := plainGet K C name && hasDictIn K C && (findIn K (.ref C) name).any (noGet K)
def V.soft : V → Bool
  | .raw _ => false
  | _ => true
theorem V.handed {h : Heap} {v : V} {x : Value} (r : Rel h v x) (hs : v.soft = true) : handedIn x = true := by
  cases v <;> simp only [Rel, V.soft] at r hs
  · subst r; rfl
  · subst r; rfl
  · obtain ⟨_, rfl⟩ := r; rfl
  · obtain ⟨_, rfl⟩ := r; rfl
  · obtain ⟨_, _, rfl, _⟩ := r; rfl
  · subst r; rfl
  · cases hs

section
variable {c : Cx} {ρ : Rho} {σ : Sg} {s : Shared}
theorem Cx.st.obj (I : c.st ρ σ s) {a : Addr} {o : O} (h : σ a = some o) : ORel c.B.prog c.B.w s.heap a o := (I.objs a o h).1

theorem instAt {C a d : Addr} {fs : List (Str × V)} (I : c.st ρ σ s) (h1 : σ a = some (.inst C d)) (h2 : σ d = some (.sdict fs)) :
    ∃ od kvs, InstAt s.heap a (instObj C d) C (some od) ∧ s.heap.get? d = some od ∧ od.ExactDict ∧ (∃ es ep, od.data = .dict es ep ∧ KeysOf (strKind c.B.prog c.B.w) es ∧ Pairs (strKind c.B.prog c.B.w) es.toList kvs) ∧ (kvs.map (·.1)).Nodup ∧
      (∀ name, lookIn name od = some (valueAt kvs name)) ∧ All2 (fun p q => p.1 = q.1 ∧ Rel s.heap p.2 q.2) fs kvs := by
  obtain ⟨kvs, ⟨od, es, ep, hod, hx, hd, hk, hp, hn⟩, rs⟩ := I.obj h2
  have hi : s.heap.get? a = some (instObj C d) := I.obj h1
  exact ⟨od, kvs, ⟨hi, rfl, rfl, hod⟩, hod, hx, ⟨es, ep, hd, hk, hp⟩, hn, fun name => lookIn_of hd hp, rs⟩

theorem W1.attr {a C d : Addr} {fs : List (Str × V)} {attr : Str} {u : V} {Q : V → Sg → Prop} (h1 : σ a = some (.inst C d)) (h2 : σ d = some (.sdict fs))
    (hf : fieldOK c.B.K C attr = true) (hg : dget fs attr = some u) (hu : u.soft = true) (hQ : Q u σ) {ex : Bool} : W1 c (fun x => getAttr x attr ex) (.ref a) ρ σ Q := fun s x I r => by
  simp only [Rel] at r; subst r
  obtain ⟨od, kvs, hi, hod, hx, _, hn, hl, rs⟩ := instAt I h1 h2
  obtain ⟨⟨f1, f2⟩, f3⟩ : (plainGet c.B.K C attr = true ∧ hasDictIn c.B.K C = true) ∧ (findIn c.B.K (.ref C) attr).any (noGet c.B.K) = true := by simpa [fieldOK] using hf
  obtain ⟨at', ha, hno⟩ := any_some f3
  rcases dget_rel (k := attr) rs with ⟨e, _⟩ | ⟨v, y, e, e2, rr⟩
  · rw [hg] at e; cases e
  · rw [hg] at e; cases e
    exact get_value I.X hi (plainGet_of f1).1 (findObj_own f2 ha hno (by rw [hl, e2])) (V.handed rr hu) ⟨Stab.refl _, u, σ, I.toks _, rr, hQ⟩

theorem WE.attr {o : Expr} {attr : Str} {pos : Pos} {Q : V → Sg → Prop} (hh : WE c o ρ σ fun v σ₁ => W1 c (fun x => getAttr x attr true) v ρ σ₁ Q)
    (he : eval (.Attribute o attr pos) c.env = (do
      let ov ← eval o c.env
      standAt pos.atName
      let r ← holding [ov] (getAttr ov attr true)
      letTemporaryGo o ov r
      pure r) := by with_unfolding_all rfl) : WE c (.Attribute o attr pos) ρ σ Q := fun s I =>
  Attribute_any_ (wpAny_mono (hh s I) (fun x s₁ ⟨st, v, σ₁, I₁, r, k⟩ => wpAny_mono (k s₁ x I₁ r) (fun _ _ p => p.from st) fun _ _ z => z) fun _ _ z => z) he

/-! ## items -/
def WSub (c : Cx) (v w : V) (ρ : Rho) (σ : Sg) (Q : V → Sg → Prop) : Prop := ∀ s x y, c.st ρ σ s → Rel s.heap v x → Rel s.heap w y →
  ∃ T id, s.TypeIs x T ∧ typeLookup (.type T) "__getitem__" = pure (some (.builtin id)) ∧ wpAny (model c.B.prog c.B.w) c.A (getItem x y) (PostE c ρ s.heap Q) NoE s

theorem WE.sub {value slice : Expr} {pos : Pos} {Q : V → Sg → Prop} (hh : WE c value ρ σ fun v σ₁ => WE c slice ρ σ₁ fun w σ₂ => WSub c v w ρ σ₂ Q)
    (hs : ∀ a b, ∃ ops, subscripted slice false a b = operate ops (getItem a b) := by exact fun a b => ⟨[a, b], by with_unfolding_all rfl⟩) : WE c (.Subscript value slice pos) ρ σ Q := fun s I =>
  Subscript_ (wpAny_mono (hh s I) (fun x s₁ ⟨st, v, σ₁, I₁, r, k⟩ => wpAny_mono (k s₁ I₁) (fun y s₂ hxx => by
    obtain ⟨st', w, σ₂, I₂, r', q⟩ := hxx
    obtain ⟨T, id, hT, hl, hg⟩ := q s₂ x y I₂ (r.stab st') r'
    obtain ⟨ops, ho⟩ := hs x y
    exact tail_any hT hl (wpAny_mono hg (fun _ _ p => p.from (st.trans st')) fun _ _ z => z) ho) fun _ _ z => z) fun _ _ z => z)

theorem WSub.list {a : Addr} {l : List V} {k : Int} {u : V} {Q : V → Sg → Prop} (h1 : σ a = some (.list l)) (h0 : 0 ≤ k) (hk : k < 2 ^ 63) (hu : l[k.toNat]? = some u) (hQ : Q u σ) : WSub c (.ref a) (.int k) ρ σ Q := fun s x y I rx ry => by
  simp only [Rel] at rx ry; subst rx; obtain ⟨t, rfl⟩ := ry
  obtain ⟨xs, n, ho, rs⟩ := I.obj h1
  obtain ⟨z, hz, rz⟩ := rs.get hu
  exact ⟨"list", _, ho.isList.typeIs, slot_list_getitem.lookup, wpAny_getItem_list ho.isList h0 hk (by simpa using hz) ⟨Stab.refl _, u, σ, I, rz, hQ⟩⟩
theorem WSub.listNeg {a : Addr} {l : List V} {k : Int} {u : V} {Q : V → Sg → Prop} (h1 : σ a = some (.list l)) (h0 : k < 0) (hlo : -(l.length : Int) ≤ k) (hk : -(2 ^ 63) ≤ k) (hu : l[(k + l.length).toNat]? = some u) (hQ : Q u σ) : WSub c (.ref a) (.int k) ρ σ Q := fun s x y I rx ry => by
  simp only [Rel] at rx ry; subst rx; obtain ⟨t, rfl⟩ := ry
  obtain ⟨xs, n, ho, rs⟩ := I.obj h1
  obtain ⟨z, hz, rz⟩ := rs.get hu
  have e := rs.length
  exact ⟨"list", _, ho.isList.typeIs, slot_list_getitem.lookup, wpAny_getItem_list_neg ho.isList h0 (by simpa [← e] using hlo) hk (by simpa [← e] using hz) ⟨Stab.refl _, u, σ, I, rz, hQ⟩⟩
theorem WSub.tup {l : List V} {k : Int} {u : V} {Q : V → Sg → Prop} (h0 : 0 ≤ k) (hk : k < 2 ^ 63) (hu : l[k.toNat]? = some u) (hQ : Q u σ) : WSub c (.tup l) (.int k) ρ σ Q := fun s x y I rx ry => by
  simp only [Rel] at rx ry; obtain ⟨a, xs, rfl, ht, rs⟩ := rx; obtain ⟨t, rfl⟩ := ry
  obtain ⟨z, hz, rz⟩ := rs.get hu
  have hlt : k.toNat < xs.toList.length := (List.getElem?_eq_some_iff.mp hz).1
  refine ⟨"tuple", _, ht.typeIs, slot_tuple_getitem.lookup, getItem_tuple (j := k.toNat) ht (by lia) hk ?_ (by simpa using hz) ⟨Stab.refl _, u, σ, I, rz, hQ⟩⟩
  have h2 : k.toNat < xs.size := by simpa using hlt
  obtain ⟨j, rfl⟩ := Int.eq_ofNat_of_zero_le h0
  simp only [Int.toNat_natCast] at h2 ⊢
  simp [seqIndex?]
  lia
theorem WSub.idict {a : Addr} {l : List (Int × V)} {k : Int} {u : V} {Q : V → Sg → Prop} (h1 : σ a = some (.idict l)) (hu : dget l k = some u) (hQ : Q u σ) : WSub c (.ref a) (.int k) ρ σ Q := fun s x y I rx ry => by
  simp only [Rel] at rx ry; subst rx; obtain ⟨t, rfl⟩ := ry
  obtain ⟨kvs, hd, rs⟩ := I.obj h1
  rcases dget_rel (k := k) rs with ⟨e, _⟩ | ⟨v, z, e, e2, rr⟩
  · rw [hu] at e; cases e
  · rw [hu] at e; cases e
    exact ⟨"dict", _, hd.typeIs, slot_dict_getitem.lookup, wpAny_getItem_of (intKind_is _ _ _ _) hd.mapOf e2 ⟨Stab.refl _, u, σ, I.toks _, rr, hQ⟩⟩

/-! ## stores -/
def WSet (c : Cx) (v w u : V) (ρ : Rho) (σ : Sg) (Q : Sg → Prop) : Prop := ∀ s x y z, c.st ρ σ s → Rel s.heap v x → Rel s.heap w y → Rel s.heap u z →
  wpAny (model c.B.prog c.B.w) c.A (setItem x y z) (PostU c ρ s.heap Q) NoE s

theorem Cx.st.stabMut {a : Addr} {o : O} {h' : Heap} (I : c.st ρ σ s) (ho : σ a = some o) (x : Heap.ExtBut a s.heap h') : Stab s.heap h' := stab_of_ext (I.obj ho) x

theorem WSet.list {a : Addr} {l : List V} {k : Int} {u : V} {Q : Sg → Prop} (h1 : σ a = some (.list l)) (h0 : 0 ≤ k) (hk : k < 2 ^ 63) (hlt : k < l.length) (hQ : Q (upd σ a (.list (l.set k.toNat u)))) : WSet c (.ref a) (.int k) u ρ σ Q := fun s x y z I rx ry rz => by
  simp only [Rel] at rx ry; subst rx; obtain ⟨t, rfl⟩ := ry
  obtain ⟨xs, n, ho, rs⟩ := I.obj h1
  have e := rs.length
  have ho' : s.heap.get? a = some (W.listOf xs.toArray n) := ho
  refine ki_setAt ho' h0 hk (by simpa [← e] using hlt) ?_
  have hx : Heap.ExtBut a s.heap (s.heap.update a (Obj.mapSeq (·.setIfInBounds k.toNat z))) := (Heap.SameBut.update ..).extBut
  have st := I.stabMut h1 hx
  refine ⟨st, _, Inv.mut (o' := .list (l.set k.toNat u)) I h1 hx (tk := s.toks) ⟨xs.set k.toNat z, n, ?_, (rs.set rz k.toNat).stab st⟩, hQ⟩
  have := Heap.get?_update_self (f := Obj.mapSeq (·.setIfInBounds k.toNat z)) ho' (by rfl)
  unfold IsL
  rw [this]
  simp [Obj.mapSeq, W.listOf]

theorem WSet.idict {a : Addr} {l : List (Int × V)} {k : Int} {u : V} {Q : Sg → Prop} (h1 : σ a = some (.idict l)) (hz : l.length ≤ 1000000) (hQ : Q (upd σ a (.idict (dput l k u)))) : WSet c (.ref a) (.int k) u ρ σ Q := fun s x y z I rx ry rz => by
  simp only [Rel] at rx ry; subst rx; obtain ⟨t, rfl⟩ := ry
  obtain ⟨kvs, hd, rs⟩ := I.obj h1
  have e := rs.length
  refine wpAny_setItem_pairs (intKind_is _ _ _ _) hd (fun h' hd' hs => ?_) (by rw [← e, sizeLine_eq]; lia)
  have st := I.stabMut h1 hs.extBut
  exact ⟨st, _, Inv.mut (o' := .idict (dput l k u)) I h1 hs.extBut ⟨_, hd', (dput_rel rz rs).mono fun _ _ q => ⟨q.1, q.2.stab st⟩⟩, hQ⟩
theorem WSet.sdict {a : Addr} {l : List (Str × V)} {k : Str} {u : V} {Q : Sg → Prop} (h1 : σ a = some (.sdict l)) (hz : l.length ≤ 1000000) (hQ : Q (upd σ a (.sdict (dput l k u)))) : WSet c (.ref a) (.str k) u ρ σ Q := fun s x y z I rx ry rz => by
  simp only [Rel] at rx ry; subst rx; obtain ⟨t, rfl⟩ := ry
  obtain ⟨kvs, hd, rs⟩ := I.obj h1
  have e := rs.length
  refine wpAny_setItem_pairs (strKind_is _ _ _ _) hd (fun h' hd' hs => ?_) (by rw [← e, sizeLine_eq]; lia)
  have st := I.stabMut h1 hs.extBut
  exact ⟨st, _, Inv.mut (o' := .sdict (dput l k u)) I h1 hs.extBut ⟨_, hd', (dput_rel rz rs).mono fun _ _ q => ⟨q.1, q.2.stab st⟩⟩, hQ⟩

theorem itemsAre_ints {prog : Program} {w : World} {h : Heap} : ∀ {ks : List Int} {xs : List Value}, Rels h (ks.map V.int) xs → PySem.ItemsAre (intKind prog w) ks xs
  | [], [], _ => .nil
  | [], _ :: _, r => by simp [Rels] at r
  | _ :: _, [], r => by simp [Rels] at r
  | k :: ks, x :: xs, r => by
    simp only [List.map_cons, Rels, Rel] at r
    obtain ⟨⟨t, rfl⟩, rs⟩ := r
    exact .cons (intKind_is _ _ _ _) (itemsAre_ints rs)
theorem isTupleKey_of {prog : Program} {w : World} {h : Heap} {ks : List Int} {x : Value} (r : Rel h (.tup (ks.map V.int)) x) : ∃ a, x = .ref a ∧ IsTupleKey (intKind prog w) h ks a := by
  simp only [Rel] at r
  obtain ⟨a, xs, rfl, ⟨o, ho, hc, n, hd⟩, rs⟩ := r
  exact ⟨a, rfl, o, xs, n, ho, hc, hd, itemsAre_ints rs⟩
theorem WSet.tdict {a : Addr} {l : List (List Int × V)} {k : List Int} {u : V} {Q : Sg → Prop} (hu : c.A.units + 1 < cLine) (h1 : σ a = some (.tdict l)) (hz : l.length ≤ 1000000) (hQ : Q (upd σ a (.tdict (dput l k u)))) : WSet c (.ref a) (.tup (k.map V.int)) u ρ σ Q := fun s x y z I rx ry rz => by
  simp only [Rel] at rx; subst rx
  obtain ⟨b, rfl, hb⟩ := isTupleKey_of (prog := c.B.prog) (w := c.B.w) ry
  obtain ⟨xs, hd, rs⟩ := I.obj h1
  have e := rs.length
  refine wpAny_setItem_heap (knd := tupleKind (intKind c.B.prog c.B.w)) (hsz := by rw [← e, sizeLine_eq]; lia) (tupleKind_room_in1 hu) hb hd fun h' hd' hs => ?_
  have st := I.stabMut h1 hs.extBut
  exact ⟨st, _, Inv.mut (o' := .tdict (dput l k u)) I h1 hs.extBut ⟨_, hd', (dput_relH rz rs).mono fun _ _ q => ⟨q.1, q.2.stab st⟩⟩, hQ⟩
end
section
variable {c : Cx} {ρ : Rho} {σ : Sg} {s : Shared}

/-! ## comparisons -/
theorem W2.lt {a b : Int} {Q : V → Sg → Prop} (hQ : Q (.bool (decide (a < b))) σ) : W2 c (compareOp .Lt) (.int a) (.int b) ρ σ Q := fun s x y I rx ry => by
  simp only [Rel] at rx ry; obtain ⟨t, rfl⟩ := rx; obtain ⟨u, rfl⟩ := ry
  exact P.lt_int ⟨Stab.refl _, _, σ, I, by simp [Rel], hQ⟩
theorem W2.gt {a b : Int} {Q : V → Sg → Prop} (hQ : Q (.bool (decide (a > b))) σ) : W2 c (compareOp .Gt) (.int a) (.int b) ρ σ Q := fun s x y I rx ry => by
  simp only [Rel] at rx ry; obtain ⟨t, rfl⟩ := rx; obtain ⟨u, rfl⟩ := ry
  exact P.gt_int ⟨Stab.refl _, _, σ, I, by simp [Rel], hQ⟩
theorem W2.ge {a b : Int} {Q : V → Sg → Prop} (hQ : Q (.bool (decide (a ≥ b))) σ) : W2 c (compareOp .GtE) (.int a) (.int b) ρ σ Q := fun s x y I rx ry => by
  simp only [Rel] at rx ry; obtain ⟨t, rfl⟩ := rx; obtain ⟨u, rfl⟩ := ry
  exact P.ge_int ⟨Stab.refl _, _, σ, I, by simp [Rel], hQ⟩

open Classical in
theorem W2.eq {v w : V} {Q : V → Sg → Prop} (hu : c.A.units + 70 < cLine) (p : v.plain 60 = true) (q : w.plain 60 = true) (hQ : Q (.bool (decide (v = w))) σ) : W2 c (compareOp .Eq) v w ρ σ Q := fun s x y I rx ry => by
  obtain ⟨as, ra⟩ := V.reads 60 rx p
  obtain ⟨bs, rb⟩ := V.reads 60 ry q
  have la := V.lay 60 v p
  have lb := V.lay 60 w q
  refine SeqAt.compareEq_reads ra rb la.1 lb.1 (by lia) ?_
  rw [V.eqv_decide p q inferInstance]
  exact ⟨Stab.refl _, _, σ, I, by simp [Rel], hQ⟩
open Classical in
theorem W2.ne {v w : V} {Q : V → Sg → Prop} (hu : c.A.units + 70 < cLine) (p : v.plain 60 = true) (q : w.plain 60 = true) (hQ : Q (.bool (decide (v ≠ w))) σ) : W2 c (compareOp .NotEq) v w ρ σ Q := fun s x y I rx ry => by
  obtain ⟨as, ra⟩ := V.reads 60 rx p
  obtain ⟨bs, rb⟩ := V.reads 60 ry q
  have la := V.lay 60 v p
  have lb := V.lay 60 w q
  refine SeqAt.compareNe_reads ra rb la.1 lb.1 (by lia) ?_
  rw [V.eqv_decide p q inferInstance]
  refine ⟨Stab.refl _, .bool (!decide (v = w)), σ, I, by simp [Rel], ?_⟩
  rw [← decide_not]; exact hQ

theorem W2.inI {k : Int} {a : Addr} {l : List (Int × V)} {Q : V → Sg → Prop} (h1 : σ a = some (.idict l)) (hQ : Q (.bool (dget l k).isSome) σ) : W2 c (compareOp .In) (.int k) (.ref a) ρ σ Q := fun s x y I rx ry => by
  simp only [Rel] at rx ry; obtain ⟨t, rfl⟩ := rx; subst ry
  obtain ⟨kvs, hd, rs⟩ := I.obj h1
  refine wpAny_in_of (intKind_is _ _ _ _) (I.lo h1) hd.mapOf ?_
  rcases dget_rel (k := k) rs with ⟨e, e2⟩ | ⟨v, z, e, e2, rr⟩
  · rw [e2]; rw [e] at hQ; exact ⟨Stab.refl _, _, σ, I.toks _, by simp [Rel], hQ⟩
  · rw [e2]; rw [e] at hQ; exact ⟨Stab.refl _, _, σ, I.toks _, by simp [Rel], hQ⟩
theorem W2.notInI {k : Int} {a : Addr} {l : List (Int × V)} {Q : V → Sg → Prop} (h1 : σ a = some (.idict l)) (hQ : Q (.bool (!(dget l k).isSome)) σ) : W2 c (compareOp .NotIn) (.int k) (.ref a) ρ σ Q := fun s x y I rx ry => by
  simp only [Rel] at rx ry; obtain ⟨t, rfl⟩ := rx; subst ry
  obtain ⟨kvs, hd, rs⟩ := I.obj h1
  refine wpAny_notIn_of (intKind_is _ _ _ _) (I.lo h1) hd.mapOf ?_
  rcases dget_rel (k := k) rs with ⟨e, e2⟩ | ⟨v, z, e, e2, rr⟩
  · rw [e2]; rw [e] at hQ; exact ⟨Stab.refl _, _, σ, I.toks _, by simp [Rel], hQ⟩
  · rw [e2]; rw [e] at hQ; exact ⟨Stab.refl _, _, σ, I.toks _, by simp [Rel], hQ⟩
open Classical in
theorem any_eqv {w : V} (q : w.plain 60 = true) : ∀ {l : List V}, V.plains 59 l = true → (V.pys l).any (fun y => PyData.eqv y w.py) = decide (w ∈ l)
  | [], _ => by simp [V.pys]
  | v :: l, p => by
    simp only [V.plains, Bool.and_eq_true] at p
    simp only [V.pys, List.any_cons, any_eqv q p.2, V.eqv_decide p.1 q inferInstance]
    by_cases h : v = w
    · simp [h]
    · have h' : ¬ w = v := fun e => h e.symm
      simp [h, h']
open Classical in
theorem W2.inTup {v : V} {l : List V} {Q : V → Sg → Prop} (hu : c.A.units + 70 < cLine) (p : v.plain 60 = true) (q : V.plains 59 l = true) (hQ : Q (.bool (decide (v ∈ l))) σ) : W2 c (compareOp .In) v (.tup l) ρ σ Q := fun s x y I rx ry => by
  have q' : (V.tup l).plain 60 = true := by simpa [V.plain] using q
  obtain ⟨as, ra⟩ := V.reads 60 rx p
  obtain ⟨bs, rb⟩ := V.reads 60 ry q'
  have la := V.lay 60 v p
  have lb := V.lays 59 l q
  refine SeqAt.in_tuple_reads rb ra lb.1 la.1 (by lia) ?_
  rw [any_eqv p q]
  exact ⟨Stab.refl _, _, σ, I, by simp [Rel], hQ⟩

theorem readsList {a : Addr} {l : List V} {h : Heap} {xs : List Value} {n : Nat} {k : Nat} (ho : IsL h a xs.toArray n) (rs : Rels h l xs) (p : V.plains k l = true) : ∃ as, Reads h (.ref a) (.list (V.pys l)) as := by
  obtain ⟨as, ra⟩ := V.readss k rs p
  exact ⟨_, .list ho rfl rfl (by simpa using ra)⟩
open Classical in
open Classical in
theorem W2.neList {a b : Addr} {l m : List V} {Q : V → Sg → Prop} (hu : c.A.units + 70 < cLine) (h1 : σ a = some (.list l)) (h2 : σ b = some (.list m)) (p : V.plains 59 l = true) (q : V.plains 59 m = true) (hQ : Q (.bool (decide (l ≠ m))) σ) :
    W2 c (compareOp .NotEq) (.ref a) (.ref b) ρ σ Q := fun s x y I rx ry => by
  simp only [Rel] at rx ry; subst rx; subst ry
  obtain ⟨xs, n, ho, rs⟩ := I.obj h1
  obtain ⟨ys, k, ho', rs'⟩ := I.obj h2
  obtain ⟨as, ra⟩ := readsList ho rs p
  obtain ⟨bs, rb⟩ := readsList ho' rs' q
  have la := V.lays 59 l p
  have lb := V.lays 59 m q
  refine SeqAt.compareNe_reads ra rb (by simpa [PyData.canLay0] using la.1) (by simpa [PyData.canLay0] using lb.1) (by simp only [PyData.depth]; lia) ?_
  have e : PyData.eqv (.list (V.pys l)) (.list (V.pys m)) = decide (l = m) := by
    have := V.eqvs 59 59 l m p q
    simp only [PyData.eqv]
    cases h : PyData.eqvAll (V.pys l) (V.pys m) with
    | true => simp [this.mp h]
    | false => have : ¬ l = m := fun e => by rw [this.mpr e] at h; cases h
               simp [this]
  rw [e]
  refine ⟨Stab.refl _, .bool (!decide (l = m)), σ, I, by simp [Rel], ?_⟩
  rw [← decide_not]; exact hQ

/-! ## tests -/
theorem WT.cmp {l r : Expr} {op : CmpOp} {pos : Pos} {Q : Bool → Sg → Prop} (hh : WE c l ρ σ fun v σ₁ => WE c r ρ σ₁ fun w σ₂ => W2 c (compareOp op) v w ρ σ₂ fun u σ₃ => ∃ b, u = .bool b ∧ Q b σ₃)
    (hm : behindInMarks op r = false := by with_unfolding_all rfl) : WT c (.Compare l [op] [r] pos) ρ σ Q := fun s I =>
  wpAny_isTrue_Compare1 (wpAny_mono (hh s I) (fun x s₁ ⟨st, v, σ₁, I₁, rv, k⟩ => wpAny_mono (k s₁ I₁) (fun y s₂ ⟨st', w, σ₂, I₂, rw', q⟩ =>
    wpAny_mono (q s₂ x y I₂ (rv.stab st') rw') (fun z s₃ hxx => by
      obtain ⟨st'', u, σ₃, I₃, ru, b, e, qb⟩ := hxx
      subst e; simp only [Rel] at ru; subst ru
      exact wpAny_truthy_bool ⟨(st.trans st').trans st'', σ₃, I₃, qb⟩) fun _ _ z => z) fun _ _ z => z) fun _ _ z => z) hm
theorem WT.not {x : Expr} {pos : Pos} {Q : Bool → Sg → Prop} (hh : WT c x ρ σ fun b σ₁ => Q (!b) σ₁) : WT c (.UnaryOp .Not x pos) ρ σ Q := fun s I =>
  wpAny_isTrue_Not (wpAny_mono (hh s I) (fun b s₁ ⟨st, σ₁, I₁, q⟩ => ⟨st, σ₁, I₁, q⟩) fun _ _ z => z)
theorem WT.val {e : Expr} {Q : Bool → Sg → Prop} (hh : WE c e ρ σ fun v σ₁ => ∃ b, v = .bool b ∧ Q b σ₁)
    (he : isTrue e c.env (eval e c.env) = (do let v ← eval e c.env; standAt e.pos; holding [v] (truthy v)) := by k_dflt rfl) : WT c e ρ σ Q := fun s I =>
  wpAny_isTrue_value (wpAny_mono (hh s I) (fun x s₁ hxx => by
    obtain ⟨st, v, σ₁, I₁, r, b, e, q⟩ := hxx
    subst e; simp only [Rel] at r; subst r; exact wpAny_truthy_bool ⟨st, σ₁, I₁, q⟩) fun _ _ z => z) he
/-- a conjunction in a test -/
theorem WT.and2 {x y : Expr} {pos : Pos} {Q : Bool → Sg → Prop} (hh : WT c x ρ σ fun b σ₁ => if b then WT c y ρ σ₁ Q else Q false σ₁) : WT c (.BoolOp .And [x, y] pos) ρ σ Q := fun s I =>
  wpAny_isTrue_BoolOp (wpAny_allTrue_And_cons (wpAny_mono (hh s I) (fun b s₁ hxx => by
    obtain ⟨st, σ₁, I₁, q⟩ := hxx
    cases b with
    | false => exact ⟨st, σ₁, I₁, by simpa using q⟩
    | true =>
      simp only [if_true] at q ⊢
      refine wpAny_allTrue_And_cons (wpAny_mono (q s₁ I₁) (fun b s₂ p => ?_) fun _ _ z => z)
      have p' := p.from st
      cases b with
      | false => exact p'
      | true => exact wpAny_allTrue_And_nil p') fun _ _ z => z))
theorem WT.or2 {x y : Expr} {pos : Pos} {Q : Bool → Sg → Prop} (hh : WT c x ρ σ fun b σ₁ => if b then Q true σ₁ else WT c y ρ σ₁ Q) : WT c (.BoolOp .Or [x, y] pos) ρ σ Q := fun s I =>
  wpAny_isTrue_BoolOp (wpAny_allTrue_Or_cons (wpAny_mono (hh s I) (fun b s₁ hxx => by
    obtain ⟨st, σ₁, I₁, q⟩ := hxx
    cases b with
    | true => exact ⟨st, σ₁, I₁, by simpa using q⟩
    | false =>
      simp only [Bool.false_eq_true, if_false] at q ⊢
      refine wpAny_allTrue_Or_cons (wpAny_mono (q s₁ I₁) (fun b s₂ p => ?_) fun _ _ z => z)
      have p' := p.from st
      cases b with
      | true => exact p'
      | false => exact wpAny_allTrue_Or_nil p') fun _ _ z => z))
theorem WT.or3 {x y z : Expr} {pos : Pos} {Q : Bool → Sg → Prop} (hh : WT c x ρ σ fun b σ₁ => if b then Q true σ₁ else WT c y ρ σ₁ fun b σ₂ => if b then Q true σ₂ else WT c z ρ σ₂ Q) : WT c (.BoolOp .Or [x, y, z] pos) ρ σ Q := fun s I =>
  wpAny_isTrue_BoolOp (wpAny_allTrue_Or_cons (wpAny_mono (hh s I) (fun b s₁ hxx => by
    obtain ⟨st, σ₁, I₁, q⟩ := hxx
    cases b with
    | true => exact ⟨st, σ₁, I₁, by simpa using q⟩
    | false =>
      simp only [Bool.false_eq_true, if_false] at q ⊢
      refine wpAny_allTrue_Or_cons (wpAny_mono (q s₁ I₁) (fun b s₂ ⟨st2, σ₂, I₂, p⟩ => ?_) fun _ _ z => z)
      cases b with
      | true => exact ⟨st.trans st2, σ₂, I₂, by simpa using p⟩
      | false =>
        simp only [Bool.false_eq_true, if_false] at p ⊢
        refine wpAny_allTrue_Or_cons (wpAny_mono (p s₂ I₂) (fun b s₃ p => ?_) fun _ _ z => z)
        have p' := p.from (st.trans st2)
        cases b with
        | true => exact p'
        | false => exact wpAny_allTrue_Or_nil p') fun _ _ z => z))
theorem WE.ite {t a b : Expr} {pos : Pos} {Q : V → Sg → Prop} (hh : WT c t ρ σ fun k σ₁ => if k then WE c a ρ σ₁ Q else WE c b ρ σ₁ Q) : WE c (.IfExp t a b pos) ρ σ Q := fun s I =>
  wpAny_IfExp (wpAny_mono (hh s I) (fun k s₁ hxx => by
    obtain ⟨st, σ₁, I₁, q⟩ := hxx
    cases k with
    | true => simp only [if_true] at q ⊢; exact wpAny_mono (q s₁ I₁) (fun _ _ p => p.from st) fun _ _ z => z
    | false => simp only [Bool.false_eq_true, if_false] at q ⊢; exact wpAny_mono (q s₁ I₁) (fun _ _ p => p.from st) fun _ _ z => z) fun _ _ z => z)
/-- «x or y», «x and y» as values, of bools -/
theorem WE.or2 {x y : Expr} {pos : Pos} {Q : V → Sg → Prop} (hh : WE c x ρ σ fun v σ₁ => ∃ b, v = .bool b ∧ if b then Q (.bool true) σ₁ else WE c y ρ σ₁ Q) : WE c (.BoolOp .Or [x, y] pos) ρ σ Q := fun s I =>
  wpAny_Or2 (wpAny_mono (hh s I) (fun x s₁ hxx => by
    obtain ⟨st, v, σ₁, I₁, r, b, e, q⟩ := hxx
    subst e; simp only [Rel] at r; subst r
    refine wpAny_truthy_bool ?_
    cases b with
    | true => simp only [if_true] at q ⊢; exact ⟨st, _, σ₁, I₁, by simp [Rel], q⟩
    | false => simp only [Bool.false_eq_true, if_false] at q ⊢; exact wpAny_mono (q s₁ I₁) (fun _ _ p => p.from st) fun _ _ z => z) fun _ _ z => z)

/-! ## displays -/
theorem WL.nil {pos : Pos} {Q : List V → Sg → Prop} (hQ : Q [] σ) : WL c pos [] ρ σ Q := fun s I => wpAny_items_nil ⟨Stab.refl _, [], σ, I, by simp [Rels], hQ⟩
theorem WL.cons {pos : Pos} {e : Expr} {es : List Expr} {Q : List V → Sg → Prop} (hh : WE c e ρ σ fun v σ₁ => WL c pos es ρ σ₁ fun l σ₂ => Q (v :: l) σ₂)
    (he : starEach (e :: es) c.env = (false, eval e c.env) :: starEach es c.env := by k_dflt rfl) : WL c pos (e :: es) ρ σ Q := fun s I =>
  wpAny_items_cons (wpAny_mono (hh s I) (fun x s₁ ⟨st, v, σ₁, I₁, r, k⟩ => wpAny_mono (k s₁ I₁) (fun xs s₂ ⟨st', l, σ₂, I₂, rs, q⟩ =>
    ⟨st.trans st', v :: l, σ₂, I₂, by simp only [Rels]; exact ⟨r.stab st', rs⟩, q⟩) fun _ _ z => z) fun _ _ z => z) he
theorem WE.tup {pos : Pos} {es : List Expr} {k : Nat} {Q : V → Sg → Prop} (hh : WL c pos es ρ σ fun l σ₁ => l.length ≤ 1000000 ∧ Q (.tup l) σ₁) : WE c (.Tuple es k pos) ρ σ Q := fun s I =>
  wpAny_Tuple (wpAny_mono (hh s I) (fun xs s₁ hxx => by
    obtain ⟨st, l, σ₁, I₁, rs, hl, q⟩ := hxx
    have e := rs.length
    refine ⟨by rw [← e, sizeLine_eq]; lia, ?_⟩
    have k : ∀ b o, s₁.heap.get? b = some o → (s₁.heap.push { cls := .type "tuple", data := .seq xs.toArray }).get? b = some o := fun b o e => Heap.get?_push_of_some _ e
    have st2 := stab_of_keep k
    refine ⟨st.trans st2, .tup l, σ₁, Inv.keep (tk := s₁.toks) I₁ k (by simp), ?_, q⟩
    simp only [Rel]
    exact ⟨_, _, rfl, IsTup.new _ _, by simpa using rs.stab st2⟩) fun _ _ z => z)
theorem WE.list {pos : Pos} {es : List Expr} {Q : V → Sg → Prop} (hh : WL c pos es ρ σ fun l σ₁ => l.length ≤ 1000000 ∧ ∀ a, σ₁ a = none → Q (.ref a) (upd σ₁ a (.list l))) : WE c (.List es pos) ρ σ Q := fun s I =>
  wpAny_List (wpAny_mono (hh s I) (fun xs s₁ hxx => by
    obtain ⟨st, l, σ₁, I₁, rs, hl, q⟩ := hxx
    have e := rs.length
    refine ⟨by rw [← e, sizeLine_eq]; lia, ?_⟩
    have k : ∀ b o, s₁.heap.get? b = some o → (s₁.heap.push { cls := .type "list", data := .seq xs.toArray }).get? b = some o := fun b o e => Heap.get?_push_of_some _ e
    have st2 := stab_of_keep k
    exact ⟨st.trans st2, .ref _, _, Inv.alloc (o := .list l) (tk := s₁.toks) I₁ (Nat.le_refl _) k ⟨xs, 0, IsL.new _ _, rs.stab st2⟩, by simp [Rel], q _ (Inv.fresh I₁ (Nat.le_refl _))⟩) fun _ _ z => z)
theorem emptyDict_alloc {Q : V → Sg → Prop} {pos : Pos} (o : O) (ho : ∀ h : Heap, ORel c.B.prog c.B.w (h.push { cls := .type "dict", data := .dict #[] }) h.objs.size o) (hh : ∀ a, σ a = none → Q (.ref a) (upd σ a o)) : WE c (.Dict [] [] pos) ρ σ Q := fun s I =>
  wpAny_Dict_empty (by
    have k : ∀ b o, s.heap.get? b = some o → (s.heap.push { cls := .type "dict", data := .dict #[] }).get? b = some o := fun b o e => Heap.get?_push_of_some _ e
    exact ⟨stab_of_keep k, .ref _, _, Inv.alloc (o := o) (tk := s.toks) I (Nat.le_refl _) k (ho _), by simp [Rel], hh _ (Inv.fresh I (Nat.le_refl _))⟩)
theorem WE.idict {pos : Pos} {Q : V → Sg → Prop} (hh : ∀ a, σ a = none → Q (.ref a) (upd σ a (.idict []))) : WE c (.Dict [] [] pos) ρ σ Q := emptyDict_alloc (.idict []) (fun h => ⟨[], .new _, trivial⟩) hh
theorem WE.sdict {pos : Pos} {Q : V → Sg → Prop} (hh : ∀ a, σ a = none → Q (.ref a) (upd σ a (.sdict []))) : WE c (.Dict [] [] pos) ρ σ Q := emptyDict_alloc (.sdict []) (fun h => ⟨[], .new _, trivial⟩) hh
theorem WE.tdict {pos : Pos} {Q : V → Sg → Prop} (hh : ∀ a, σ a = none → Q (.ref a) (upd σ a (.tdict []))) : WE c (.Dict [] [] pos) ρ σ Q := emptyDict_alloc (.tdict []) (fun h => ⟨[], .new _, trivial⟩) hh

/-! ## slices -/
def WPart (c : Cx) (e : Option Expr) (ρ : Rho) (σ : Sg) (Q : Option Int → Sg → Prop) : Prop := match e with
  | none => Q none σ
  | some e => WE c e ρ σ fun v σ₁ => ∃ i, v = .int i ∧ Q (some i) σ₁
def cutList (l : List V) (lo hi : Option Int) : Option (List V) := match lo, hi with
  | none, none => some l
  | some a, none => if 0 ≤ a then some (l.drop a.toNat) else none
  | none, some b => if 0 ≤ b then some (l.take b.toNat) else none
  | some _, some _ => none
theorem cut_rel {h : Heap} {l r : List V} {xs : List Value} {lo hi : Option Int} (rs : Rels h l xs) (e : cutList l lo hi = some r) : Rels h r (slicePick xs.toArray lo hi none).toList := by
  unfold cutList at e
  split at e
  · cases e; rw [slicePick_all]; simpa using rs
  · split at e
    · rename_i h0
      cases e
      obtain ⟨j, rfl⟩ := Int.eq_ofNat_of_zero_le h0
      rw [slicePick_from']; simpa using rs.drop j
    · cases e
  · split at e
    · rename_i h0
      cases e
      obtain ⟨j, rfl⟩ := Int.eq_ofNat_of_zero_le h0
      rw [slicePick_upto']; simpa using rs.take j
    · cases e
  · cases e

theorem WPart.run {e : Option Expr} {Q : Option Int → Sg → Prop} {s : Shared} (I : c.st ρ σ s) (hh : WPart c e ρ σ Q) :
    wpAny (model c.B.prog c.B.w) c.A (evalPart e c.env) (fun x s' => Stab s.heap s'.heap ∧ ∃ i σ', IsPart x i ∧ c.st ρ σ' s' ∧ Q i σ') NoE s := by
  cases e with
  | none => exact evalPart_none_step ⟨Stab.refl _, none, σ, .none, I, hh⟩
  | some e =>
    refine evalPart_some_step (wpAny_mono (hh s I) (fun x s' ⟨st, v, σ', I', r, i, e, q⟩ => ?_) fun _ _ z => z)
    subst e; simp only [Rel] at r; obtain ⟨t, rfl⟩ := r
    exact ⟨st, some i, σ', .int i t, I', q⟩
end
inductive Fl where
  | next | brk | cont
  | ret (v : V)
def Fl.val : Fl → V
  | .ret v => v
  | _ => .none
def RelF (h : Heap) : Fl → Flow → Prop
  | .next, f => f = .next
  | .brk, f => f = .brk
  | .cont, f => f = .cont
  | .ret v, f => ∃ x, f = .ret x ∧ Rel h v x
def updR (ρ : Rho) (x : Str) (v : V) : Rho := fun y => if y = x then some v else ρ y
theorem updR_same (ρ : Rho) (x : Str) (v : V) : updR ρ x v x = some v := by simp [updR]
theorem updR_ne (ρ : Rho) {x y : Str} (v : V) (h : y ≠ x) : updR ρ x v y = ρ y := by simp [updR, h]

abbrev QS := Fl → Rho → Sg → Prop
inductive PostS (c : Cx) (h : Heap) (Q : QS) (f : Flow) (s' : Shared) : Prop
  | mk (st : Stab h s'.heap) (fl : Fl) (ρ' : Rho) (σ' : Sg) (I : c.st ρ' σ' s') (r : RelF s'.heap fl f) (q : Q fl ρ' σ')
inductive PostA (c : Cx) (h : Heap) (Q : Rho → Sg → Prop) (u : Unit) (s' : Shared) : Prop
  | mk (st : Stab h s'.heap) (ρ' : Rho) (σ' : Sg) (I : c.st ρ' σ' s') (q : Q ρ' σ')
def WS (c : Cx) (st : Stmt) (ρ : Rho) (σ : Sg) (Q : QS) : Prop := ∀ s, c.st ρ σ s → wpAny (model c.B.prog c.B.w) c.A (exec st c.env) (PostS c s.heap Q) NoE s
def WSS (c : Cx) (sts : List Stmt) (ρ : Rho) (σ : Sg) (Q : QS) : Prop := ∀ s, c.st ρ σ s → wpAny (model c.B.prog c.B.w) c.A (execs sts c.env) (PostS c s.heap Q) NoE s
/-- a store of a value into a target -/
def WA (c : Cx) (t : Expr) (v : V) (ρ : Rho) (σ : Sg) (Q : Rho → Sg → Prop) : Prop := ∀ s x, c.st ρ σ s → Rel s.heap v x → wpAny (model c.B.prog c.B.w) c.A (assign t c.env x) (PostA c s.heap Q) NoE s

section
variable {c : Cx} {ρ : Rho} {σ : Sg} {s : Shared} {Q : QS}
theorem PostS.from {h h' : Heap} (st : Stab h h') {f : Flow} {s' : Shared} (p : PostS c h' Q f s') : PostS c h Q f s' := by obtain ⟨a, b0, b1, b2, b3, b4, b5⟩ := p; exact ⟨st.trans a, b0, b1, b2, b3, b4, b5⟩
theorem PostA.from {h h' : Heap} {Q : Rho → Sg → Prop} (st : Stab h h') {f : Unit} {s' : Shared} (p : PostA c h' Q f s') : PostA c h Q f s' := by obtain ⟨a, b0, b1, b2, b3⟩ := p; exact ⟨st.trans a, b0, b1, b2, b3⟩
theorem WSS.nil (hQ : Q .next ρ σ) : WSS c [] ρ σ Q := fun s I => wpAny_execs_nil ⟨Stab.refl _, .next, ρ, σ, I, rfl, hQ⟩
/-- what stands behind a statement -/
def thenS (c : Cx) (rest : List Stmt) (Q : QS) : QS := fun fl ρ' σ' => match fl with
  | .next => WSS c rest ρ' σ' Q
  | fl => Q fl ρ' σ'
theorem WSS.cons {st : Stmt} {rest : List Stmt} (hh : WS c st ρ σ (thenS c rest Q)) : WSS c (st :: rest) ρ σ Q := fun s I =>
  wpAny_execs_cons (wpAny_mono (hh s I) (fun f s₁ hxx => by
    obtain ⟨stb, fl, ρ', σ', I', r, q⟩ := hxx
    cases fl with
    | next => simp only [RelF] at r; subst r; exact wpAny_mono (q s₁ I') (fun _ _ p => p.from stb) fun _ _ z => z
    | brk => simp only [RelF] at r; subst r; exact ⟨stb, .brk, ρ', σ', I', rfl, q⟩
    | cont => simp only [RelF] at r; subst r; exact ⟨stb, .cont, ρ', σ', I', rfl, q⟩
    | ret v => simp only [RelF] at r; obtain ⟨x, rfl, rx⟩ := r; exact ⟨stb, .ret v, ρ', σ', I', ⟨x, rfl, rx⟩, q⟩) fun _ _ z => z)
theorem WSS.one {st : Stmt} (hh : WS c st ρ σ Q) : WSS c [st] ρ σ Q := .cons fun s I => wpAny_mono (hh s I) (fun f s' ⟨stb, fl, ρ', σ', I', r, q⟩ => ⟨stb, fl, ρ', σ', I', r, by
  cases fl with
  | next => exact .nil q
  | brk => exact q
  | cont => exact q
  | ret v => exact q⟩) fun _ _ z => z

/-- a name of the frame stored -/
theorem Cx.st.store {x : Str} {v : V} {y : Value} {Q : Unit → Shared → Prop} (I : c.st ρ σ s) (ok : c.ok) (r : Rel s.heap v y) (hl : c.env.kindOf x = some .local)
    (hQ : ∀ s', c.st (updR ρ x v) σ s' → Stab s.heap s'.heap → Q () s') : wpAny (model c.B.prog c.B.w) c.A (storeName c.env x y) Q NoE s := by
  obtain ⟨m, hn, hm⟩ := I.frame
  refine wpAny_storeName_local hl hn (fun h' hn' hs => ?_) (by rw [ok.fn]; rfl)
  have st : Stab s.heap h' := stab_of_ext (I.hid _ (.head _)).1 hs.extBut
  refine hQ _ ?_ st
  refine Inv.mutHid (o' := .frame (updR ρ x v)) I hs.extBut ⟨_, hn', fun z u e => ?_⟩
  simp only [updR] at e
  by_cases h : z = x
  · simp only [h, if_true, Option.some.injEq] at e ⊢; subst e; exact ⟨y, rfl, r.stab st⟩
  · simp only [h, if_false] at e ⊢; obtain ⟨y', e1, e2⟩ := hm z u e; exact ⟨y', e1, e2.stab st⟩

theorem WA.name {x : Str} {pos : Pos} {v : V} {Q : Rho → Sg → Prop} (ok : c.ok) (hQ : Q (updR ρ x v) σ) (hl : c.env.kindOf x = some .local := by k_dflt rfl) : WA c (.Name x pos) v ρ σ Q := fun s y I r =>
  wpAny_assign_Name (I.store ok r hl fun s' I' st => ⟨st, _, _, I', hQ⟩)

theorem WA.sub {o i : Expr} {pos : Pos} {u : V} {Q : Rho → Sg → Prop} (hh : WE c o ρ σ fun v σ₁ => WE c i ρ σ₁ fun w σ₂ => WSet c v w u ρ σ₂ fun σ₃ => Q ρ σ₃) : WA c (.Subscript o i pos) u ρ σ Q := fun s z I rz => by
  rw [assign_Subscript]
  refine wpAny_bind (wpAny_holding (wpAny_mono (hh s I) (fun x s₁ ⟨st, v, σ₁, I₁, r, k⟩ => ?_) fun _ _ z => z))
  refine wpAny_bind (wpAny_holding (wpAny_mono (k s₁ I₁) (fun y s₂ ⟨st', w, σ₂, I₂, r', q⟩ => ?_) fun _ _ z => z))
  refine wpAny_bind (wpAny_standAt (wpAny_bind (wpAny_holding (wpAny_mono (q s₂ x y z I₂ (r.stab st') r' (rz.stab (st.trans st'))) (fun _ s₃ ⟨st'', σ₃, I₃, qq⟩ => ?_) fun _ _ z => z))))
  exact wpAny_release ⟨(st.trans st').trans st'', ρ, σ₃, I₃, qq⟩

/-- an attribute stored -/
def setOK (K : Frag) (C : Addr) (name : Str) : Bool := (findIn K (.ref C) "__setattr__" == some (some (.builtin "object.__setattr__"))) && plainOver K C && (takerIn K C name == some none) && hasDictIn K C
def W2u (c : Cx) (f : Value → Value → Sem Unit) (v w : V) (ρ : Rho) (σ : Sg) (Q : Sg → Prop) : Prop := ∀ s x y, c.st ρ σ s → Rel s.heap v x → Rel s.heap w y → wpAny (model c.B.prog c.B.w) c.A (f x y) (PostU c ρ s.heap Q) NoE s

theorem putName_of {prog : Program} {w : World} {name : Str} {tk : Tok} {y : Value} {od : Obj} {es : Array DictEntry} {ep : Nat} {kvs : List (Str × Value)} (hx : od.ExactDict) (hd : od.data = .dict es ep)
    (hk : KeysOf (strKind prog w) es) (hp : Pairs (strKind prog w) es.toList kvs) (hn : (kvs.map (·.1)).Nodup) :
    ∃ es' ep', Obj.putName name (hashStr w name) (.str name tk) y od = { cls := .type "dict", data := .dict es' ep' } ∧ KeysOf (strKind prog w) es' ∧ Pairs (strKind prog w) es'.toList (stored kvs name y) ∧ ((stored kvs name y).map (·.1)).Nodup ∧ es'.size ≤ es.size + 1 := by
  obtain ⟨oc, odi, oda, osl⟩ := od
  obtain ⟨h1, h2, h3⟩ := hx
  dsimp only at h1 h2 h3 hd
  subst h1 h2 h3 hd
  rw [Obj.putName_eq]
  unfold Obj.putNameByArray
  dsimp only
  have key : (strKind prog w).is name (.str name tk) = true := strKind_is _ _ _ _
  have e : (fun d : DictEntry => d.key.isStr name) = fun d => (strKind prog w).is name d.key := funext fun d => isStr_of name d.key
  have hidx := hp.findIdx name
  have hes : es.findIdx? (fun d => d.key.isStr name) = es.toList.findIdx? (fun d => (strKind prog w).is name d.key) := by
    rw [e]; obtain ⟨l⟩ := es; simp [List.findIdx?_toArray]
  rw [hes, hidx]
  cases q : kvs.findIdx? (fun kv => decide (kv.1 = name)) with
  | some i =>
    have hany : kvs.any (fun kv => decide (kv.1 = name)) = true := by
      rw [← List.findIdx?_isSome, q]; rfl
    refine ⟨_, _, rfl, hk.modify i y, ?_, ?_, by simp⟩
    · have := hp.modify hn (k := name) (i := i) (by rw [hidx, q]) y
      simpa [stored, hany] using this
    · have : (stored kvs name y).map (·.1) = kvs.map (·.1) := by
        simp only [stored, hany, if_true, List.map_map]
        refine List.map_congr_left fun a _ => ?_
        by_cases h : a.1 = name <;> simp [h]
      rw [this]; exact hn
  | none =>
    have hany : kvs.any (fun kv => decide (kv.1 = name)) = false := by
      rw [← List.findIdx?_isSome, q]; rfl
    refine ⟨_, _, rfl, hk.push key y, ?_, ?_, by simp⟩
    · simp only [stored, hany, Bool.false_eq_true, if_false, Array.toList_push]
      have : ∀ {l : List DictEntry} {m : List (Str × Value)}, Pairs (strKind prog w) l m → Pairs (strKind prog w) (l ++ [⟨hashStr w name, .str name tk, y⟩]) (m ++ [(name, y)]) := by
        intro l m h
        induction h with
        | nil => exact .cons key rfl .nil
        | cons a b _ ih => exact .cons a b ih
      exact this hp
    · simp only [stored, hany, Bool.false_eq_true, if_false, List.map_append, List.map_cons, List.map_nil]
      rw [List.nodup_append]
      refine ⟨hn, by simp, ?_⟩
      intro a ha b hb hab
      simp only [List.mem_singleton] at hb
      subst hb; subst hab
      obtain ⟨p, hp1, hp2⟩ := List.mem_map.mp ha
      have := List.any_eq_false.mp hany p hp1
      simp [hp2] at this

theorem W2u.setAttr {a C d : Addr} {fs : List (Str × V)} {attr : Str} {u : V} {Q : Sg → Prop} (h1 : σ a = some (.inst C d)) (h2 : σ d = some (.sdict fs)) (hf : setOK c.B.K C attr = true) (hz : fs.length ≤ 1000)
    (hQ : Q (upd σ d (.sdict (dput fs attr u)))) : W2u c (fun x y => setAttr x attr y) (.ref a) u ρ σ Q := fun s x y I rx ry => by
  simp only [Rel] at rx; subst rx
  obtain ⟨od, kvs, hi, hod, hx, ⟨es, ep, hd, hk, hp⟩, hn, hl, rs⟩ := instAt I h1 h2
  obtain ⟨⟨⟨f1, f2⟩, f3⟩, f4⟩ : ((findIn c.B.K (.ref C) "__setattr__" = some (some (.builtin "object.__setattr__")) ∧ plainOver c.B.K C = true) ∧ takerIn c.B.K C attr = some none) ∧ hasDictIn c.B.K C = true := by simpa [setOK] using hf
  refine set_plain I.X hi f1 ?_
  refine osa_open (s := { s with toks := s.toks + 1 }) I.X hi f2 f3 fun b => ?_
  obtain ⟨cd, hc, hd'⟩ := any_some f4
  have hia : s.heap.get? a = some (instObj C d) := hi.at_
  refine wpAny_bind (wpAny_pure (wpAny_bind (wpAny_bind (wpAny_loadPart hia (wpAny_bind ((looks_clsIn I.X hc).at ?_))))))
  rw [hd']
  refine wpAny_pure (a := some d) (wpAny_bind (wpAny_pure (wpAny_bind ?_)))
  unfold nsSet
  refine wpAny_bind (wpAny_bind (wpAny_askSetting (wpAny_pure (wpAny_bind (wpAny_mkText (wpAny_bind (wpAny_loadPart hod ?_)))))))
  obtain ⟨es', ep', hput, hk', hp', hn', hsz'⟩ := putName_of (prog := c.B.prog) (w := c.B.w) (name := attr) (tk := s.toks + 1) (y := y) hx hd hk hp hn
  have hes : es.size = fs.length := by
    have e1 := hp.length; have e2 := rs.length
    simp only [Array.length_toList] at e1; lia
  rw [hd]
  dsimp only
  have cc : (!es.any (·.key.isStr attr) && es.any (·.refKey)) = false := by
    have hl' := hl attr
    unfold lookIn at hl'
    rw [hd] at hl'
    dsimp only at hl'
    rw [← Array.any_toList, ← Array.any_toList]
    split at hl'
    · rename_i en he
      rw [List.any_eq_true.mpr ⟨en, List.mem_of_find?_eq_some he, List.find?_some he⟩]; rfl
    · split at hl'
      · cases hl'
      · rename_i z; rw [Bool.not_eq_true] at z; rw [z, Bool.and_false]
  rw [aRefKeyMayBeTheName_at, cc]
  refine wpAny_updatePart hod ?_
  have hself : (s.heap.update d (Obj.putName attr (hashStr c.B.w attr) (.str attr (s.toks + 1)) y)).get? d = some { cls := .type "dict", data := .dict es' ep' } := by
    have := Heap.get?_update_self (f := Obj.putName attr (hashStr c.B.w attr) (.str attr (s.toks + 1)) y) hod (by rw [hput]; rfl)
    rw [this, hput]
  refine wpAny_bind (wpAny_lookBehind hself (by exact pastItsLine_dict (by rw [sizeLine_eq]; lia)) ?_)
  have hxt : Heap.ExtBut d s.heap (s.heap.update d (Obj.putName attr (hashStr c.B.w attr) (.str attr (s.toks + 1)) y)) := (Heap.SameBut.update ..).extBut
  have st := I.stabMut h2 hxt
  refine wpAny_pure ⟨st, _, Inv.mut (s := s) (o' := .sdict (dput fs attr u)) (tk := s.toks + 1 + 1) I h2 hxt ⟨stored kvs attr y, ⟨_, es', ep', hself, ⟨rfl, rfl, rfl⟩, rfl, hk', hp', hn'⟩, (dput_rel ry rs).mono fun _ _ q => ⟨q.1, q.2.stab st⟩⟩, hQ⟩

theorem WA.attr {o : Expr} {attr : Str} {pos : Pos} {u : V} {Q : Rho → Sg → Prop} (hh : WE c o ρ σ fun v σ₁ => W2u c (fun x y => setAttr x attr y) v u ρ σ₁ fun σ₂ => Q ρ σ₂) : WA c (.Attribute o attr pos) u ρ σ Q := fun s z I rz => by
  rw [assign_Attribute]
  refine wpAny_bind (wpAny_holding (wpAny_mono (hh s I) (fun x s₁ ⟨st, v, σ₁, I₁, r, k⟩ => ?_) fun _ _ z => z))
  refine wpAny_bind (wpAny_standAt (wpAny_bind (wpAny_holding (wpAny_mono (k s₁ x z I₁ r (rz.stab st)) (fun _ s₂ ⟨st', σ₂, I₂, q⟩ => ?_) fun _ _ z => z))))
  exact wpAny_release ⟨st.trans st', ρ, σ₂, I₂, q⟩

/-- a tuple of two taken apart -/
theorem WA.tup2 {t₁ t₂ : Expr} {k : Nat} {pos : Pos} {v w : V} {Q : Rho → Sg → Prop} (ok : c.ok) (hh : WA c t₁ v ρ σ fun ρ₁ σ₁ => WA c t₂ w ρ₁ σ₁ Q)
    (he : assignEach [t₁, t₂] c.env = [(false, assign t₁ c.env), (false, assign t₂ c.env)] := by k_dflt rfl) : WA c (.Tuple [t₁, t₂] k pos) (.tup [v, w]) ρ σ Q := fun s x I r => by
  simp only [Rel] at r
  obtain ⟨a, xs, rfl, ht, rs⟩ := r
  have e := rs.length
  have hsz : xs.size = 2 := by simpa using e.symm
  refine assign_Tuple_tuple ok.handled ht (by rw [he, hsz]; rfl) (by rw [he]; rfl) fun h' hx => ?_
  obtain ⟨l⟩ := xs
  match l, rs, e with
  | [x, y], rs, _ =>
    simp only [Rels] at rs
    rw [he]
    have k : ∀ b o, s.heap.get? b = some o → h'.get? b = some o := fun b o e => hx b o (Nat.ne_of_lt (Heap.lt_size e)) e
    have st := stab_of_keep k
    have hL : c.env.locals < h'.objs.size := by
      obtain ⟨m, hn, _⟩ := I.frame
      exact (hn.keeps k).lt
    have I' : c.st ρ σ { s with heap := h' } := by
      refine ⟨fun b o e => k _ _ (I.base b o e), ?_, fun a o e => ⟨(I.objs a o e).1.move (fun _ => k _ _) st, (I.objs a o e).2⟩, fun p hp => ⟨(I.hid p hp).1.move (fun _ => k _ _) st, (I.hid p hp).2⟩, I.nd, Inv.sh' I _ _⟩
      exact Nat.le_of_lt (Nat.lt_of_le_of_lt (I.hid _ (.head _)).2.1 hL)
    show wpAny _ _ (do holding [y] (assign t₁ c.env x); assignInOrder [assign t₂ c.env] [y]) _ _ _
    refine wpAny_bind (wpAny_holding (wpAny_mono (hh _ x I' (rs.1.stab st)) (fun _ s₁ ⟨st₁, ρ₁, σ₁, I₁, q⟩ => ?_) fun _ _ z => z))
    show wpAny _ _ (do holding [] (assign t₂ c.env y); assignInOrder [] []) _ _ _
    refine wpAny_bind (wpAny_holding (wpAny_mono (q _ y I₁ ((rs.2.1.stab st).stab st₁)) (fun _ s₂ p => ?_) fun _ _ z => z))
    exact wpAny_pure (p.from (st.trans st₁))

/-! ## statements -/
theorem WS.assign {t value : Expr} {pos : Pos} (hh : WE c value ρ σ fun v σ₁ => WA c t v ρ σ₁ fun ρ₂ σ₂ => Q .next ρ₂ σ₂)
    (hs : swapsWithSole [t] value pos.line c.env = pure false := by k_dflt rfl) (hw : swappedStores [t] value c.env = pure none := by k_dflt rfl) (he : (assignEach [t] c.env).map (·.2) = [assign t c.env] := by k_dflt rfl) : WS c (.Assign [t] value pos) ρ σ Q := fun s I => by
  refine wpAny_Assign_stores (wpAny_mono (hh s I) (fun x s₁ ⟨st, v, σ₁, I₁, r, k⟩ => ?_) fun _ _ z => z) hs hw
  rw [he]
  exact wpAny_mono (k s₁ x I₁ r) (fun _ s₂ ⟨st', ρ₂, σ₂, I₂, q⟩ => ⟨st.trans st', .next, ρ₂, σ₂, I₂, rfl, q⟩) fun _ _ z => z
theorem WS.augName {x : Str} {p pos : Pos} {op : Operator} {value : Expr} {v : V} (ok : c.ok) (hv : ρ x = some v) (hh : WE c value ρ σ fun w σ₁ => W2 c (inplaceOp op) v w ρ σ₁ fun u σ₂ => Q .next (updR ρ x u) σ₂)
    (hl : c.env.kindOf x = some .local := by k_dflt rfl) : WS c (.AugAssign (.Name x p) op value pos) ρ σ Q := fun s I => by
  obtain ⟨m, hn, hm⟩ := I.frame
  obtain ⟨y, hy, r⟩ := hm x v hv
  refine wpAny_AugAssign_Name (wpAny_loadName_local ok.fn hl hn hy ?_)
  refine wpAny_mono (hh s I) (fun z s₁ ⟨st, w, σ₁, I₁, r', k⟩ => ?_) fun _ _ z => z
  refine wpAny_mono (k s₁ y z I₁ (r.stab st) r') (fun u s₂ ⟨st', u', σ₂, I₂, r'', q⟩ => ?_) fun _ _ z => z
  exact I₂.store ok r'' hl fun s₃ I₃ st'' => ⟨(st.trans st').trans st'', .next, _, _, I₃, rfl, q⟩
theorem WS.augSub {o i value : Expr} {p pos : Pos} {op : Operator} (hh : WE c o ρ σ fun v σ₁ => WE c i ρ σ₁ fun w σ₂ => WSub c v w ρ σ₂ fun old σ₃ => WE c value ρ σ₃ fun u σ₄ => W2 c (inplaceOp op) old u ρ σ₄ fun r σ₅ => WSet c v w r ρ σ₅ fun σ₆ => Q .next ρ σ₆)
    (hi : ∀ ov iv new, augStore i ov iv new = (do holding [new, ov, iv] (setItem ov iv new); release [new, ov, iv] []; pure .next) := by k_dflt (intros; rfl)) : WS c (.AugAssign (.Subscript o i p) op value pos) ρ σ Q := fun s I => by
  refine wpAny_AugAssign_SubscriptAny ?_ hi
  refine wpAny_mono (hh s I) (fun x s₁ ⟨st, v, σ₁, I₁, r, k⟩ => ?_) fun _ _ z => z
  refine wpAny_mono (k s₁ I₁) (fun y s₂ ⟨st2, w, σ₂, I₂, r2, k⟩ => ?_) fun _ _ z => z
  obtain ⟨_, _, _, _, hg⟩ := k s₂ x y I₂ (r.stab st2) r2
  refine wpAny_mono hg (fun old s₃ ⟨st3, ov, σ₃, I₃, r3, k⟩ => ?_) fun _ _ z => z
  refine wpAny_mono (k s₃ I₃) (fun u s₄ ⟨st4, uv, σ₄, I₄, r4, k⟩ => ?_) fun _ _ z => z
  refine wpAny_mono (k s₄ old u I₄ (r3.stab st4) r4) (fun nw s₅ ⟨st5, nv, σ₅, I₅, r5, k⟩ => ?_) fun _ _ z => z
  have sx := (st2.trans st3).trans (st4.trans st5)
  exact wpAny_mono (k s₅ x y nw I₅ (r.stab sx) (r2.stab (st3.trans (st4.trans st5))) r5) (fun _ s₆ ⟨st6, σ₆, I₆, q⟩ => ⟨(st.trans sx).trans st6, .next, ρ, σ₆, I₆, rfl, q⟩) fun _ _ z => z
theorem WS.expr {e : Expr} {pos : Pos} (hh : WE c e ρ σ fun v σ₁ => (v = .none ∨ ∃ i, v = .int i) ∧ Q .next ρ σ₁) (hi : interactive c.env = false := by k_dflt rfl) (hs : swapsWith e none pos.line c.env = pure false := by k_dflt rfl) : WS c (.Expr e pos) ρ σ Q := fun s I =>
  wpAny_Expr (wpAny_mono (hh s I) (fun x s₁ hxx => by
    obtain ⟨st, v, σ₁, I₁, r, hv, q⟩ := hxx
    rcases hv with rfl | ⟨i, rfl⟩
    · simp only [Rel] at r; subst r; exact ⟨st, .next, ρ, σ₁, I₁, rfl, q⟩
    · simp only [Rel] at r; obtain ⟨t, rfl⟩ := r; exact ⟨st, .next, ρ, σ₁, I₁, rfl, q⟩) fun _ _ z => z) hi hs
theorem WS.ifS {t : Expr} {a b : List Stmt} {pos : Pos} (hh : WT c t ρ σ fun k σ₁ => if k then WSS c a ρ σ₁ Q else WSS c b ρ σ₁ Q) : WS c (.If t a b pos) ρ σ Q := fun s I =>
  wpAny_If (wpAny_mono (hh s I) (fun k s₁ hxx => by
    obtain ⟨st, σ₁, I₁, q⟩ := hxx
    cases k with
    | true => simp only [if_true] at q ⊢; exact wpAny_mono (q s₁ I₁) (fun _ _ p => p.from st) fun _ _ z => z
    | false => simp only [Bool.false_eq_true, if_false] at q ⊢; exact wpAny_mono (q s₁ I₁) (fun _ _ p => p.from st) fun _ _ z => z) fun _ _ z => z)
theorem WS.ret {e : Expr} {pos : Pos} (hh : WE c e ρ σ fun v σ₁ => Q (.ret v) ρ σ₁) : WS c (.Return (some e) pos) ρ σ Q := fun s I =>
  wpAny_Return_some (wpAny_mono (hh s I) (fun x s₁ ⟨st, v, σ₁, I₁, r, q⟩ => ⟨st, .ret v, ρ, σ₁, I₁, ⟨x, rfl, r⟩, q⟩) fun _ _ z => z)
theorem WS.ret0 {pos : Pos} (hQ : Q (.ret .none) ρ σ) : WS c (.Return none pos) ρ σ Q := fun s I =>
  wpAny_Return_none ⟨Stab.refl _, .ret .none, ρ, σ, I, ⟨_, rfl, by simp [Rel]⟩, hQ⟩
/-! ## loops -/
/-- while: J with a number that falls -/
theorem WS.whileS {t : Expr} {body orelse : List Stmt} {pos : Pos} (J : Nat → Rho → Sg → Prop) (n : Nat) (h0 : J n ρ σ)
    (turn : ∀ n ρ σ, J n ρ σ → WT c t ρ σ fun b σ₁ => if b then WSS c body ρ σ₁ (fun fl ρ' σ' => match fl with
        | .next | .cont => ∃ m, m < n ∧ J m ρ' σ'
        | .brk => Q .next ρ' σ'
        | .ret v => Q (.ret v) ρ' σ') else WSS c orelse ρ σ₁ Q) : WS c (.While t body orelse pos) ρ σ Q := fun s I => by
  refine wpAny_While ?_
  refine codeAny_whileLoop (fun n s' => Stab s.heap s'.heap ∧ ∃ ρ σ, c.st ρ σ s' ∧ J n ρ σ) ?_ n ⟨Stab.refl _, ρ, σ, I, h0⟩
  rintro n s' ⟨st, ρ, σ, I, hJ⟩
  refine wpAny_mono (turn n ρ σ hJ s' I) (fun b s₁ ⟨st', σ₁, I₁, q⟩ => ?_) fun _ _ z => z.elim
  cases b with
  | true =>
    simp only [if_true] at q ⊢
    refine wpAny_mono (q s₁ I₁) (fun f s₂ ⟨st'', fl, ρ₂, σ₂, I₂, r, q⟩ => ?_) fun _ _ z => z.elim
    have stt := (st.trans st').trans st''
    cases fl with
    | next => simp only [RelF] at r; subst r; obtain ⟨m, hm, hj⟩ := q; exact ⟨m, hm, stt, ρ₂, σ₂, I₂, hj⟩
    | cont => simp only [RelF] at r; subst r; obtain ⟨m, hm, hj⟩ := q; exact ⟨m, hm, stt, ρ₂, σ₂, I₂, hj⟩
    | brk => simp only [RelF] at r; subst r; exact ⟨stt, .next, ρ₂, σ₂, I₂, rfl, q⟩
    | ret v => simp only [RelF] at r; obtain ⟨x, rfl, rx⟩ := r; exact ⟨stt, .ret v, ρ₂, σ₂, I₂, ⟨x, rfl, rx⟩, q⟩
  | false =>
    simp only [Bool.false_eq_true, if_false] at q ⊢
    exact wpAny_mono (q s₁ I₁) (fun f s₂ p => p.from (st.trans st')) fun _ _ z => z.elim
end
/-- one more hidden object -/
def Cx.push (c : Cx) (g : Addr × O) : Cx := { c with gs := g :: c.gs }
theorem Cx.ok.push {c : Cx} (ok : c.ok) (g : Addr × O) : (c.push g).ok := ⟨ok.fn, ok.gl, ok.bi, ok.handled, ok.units⟩

section
variable {c : Cx} {ρ : Rho} {σ : Sg} {s : Shared} {Q : QS}

theorem Cx.st.toPush {g : Addr × O} (I : Inv c.B (g :: (c.env.locals, .frame ρ) :: c.gs) σ s) : (c.push g).st ρ σ s := Inv.swap I
theorem Cx.st.ofPush {g : Addr × O} (I : (c.push g).st ρ σ s) : Inv c.B (g :: (c.env.locals, .frame ρ) :: c.gs) σ s := Inv.swap I

/-- what a source of n items gives, by an iterator of its own hidden under gs; T: what must stand while it runs -/
structure Source (c : Cx) (n : Nat) (item : Nat → V → Prop) (it : Addr) (ob : Nat → Obj → Prop) (T : Heap → Sg → Prop) : Prop where
  next : ∀ i s ρ σ (Q : Option Value → Shared → Prop), i < n → T s.heap σ → Inv c.B ((it, .pred (ob i)) :: (c.env.locals, .frame ρ) :: c.gs) σ s →
    (∀ x v s', item i v → Rel s'.heap v x → Stab s.heap s'.heap → Inv c.B ((it, .pred (ob (i + 1))) :: (c.env.locals, .frame ρ) :: c.gs) σ s' → Q (some x) s') → wpAny (model c.B.prog c.B.w) c.A (pyNext (.ref it)) Q NoE s
  done : ∀ s ρ σ (Q : Option Value → Shared → Prop), T s.heap σ → Inv c.B ((it, .pred (ob n)) :: (c.env.locals, .frame ρ) :: c.gs) σ s →
    (∀ s', Stab s.heap s'.heap → Inv c.B ((c.env.locals, .frame ρ) :: c.gs) σ s' → Q none s') → wpAny (model c.B.prog c.B.w) c.A (pyNext (.ref it)) Q NoE s
  quiet : ∀ i o, ob i o → ∀ k, o.cls = .type k → ["enumerate", "zip", "dict_itemiterator", "dict_reverseitemiterator", "odict_iterator", "itertools.zip_longest", "itertools.pairwise"].contains k = false

theorem owned_quiet {M : Model} {A : Around} {E : Value → Shared → Prop} {s : Shared} {t : Expr} {it : Addr} {v : Value} {o : Obj} {Q : Unit → Shared → Prop} (ho : s.heap.get? it = some o)
    (hq : ∀ k, o.cls = .type k → ["enumerate", "zip", "dict_itemiterator", "dict_reverseitemiterator", "odict_iterator", "itertools.zip_longest", "itertools.pairwise"].contains k = false) (h : Q () s) : wpAny M A (letOwnedTupleGo t (.ref it) v) Q E s := by
  have go : wpAny M A (do
      let (.ref r, .ref a) := (Value.ref it, v) | return
      let o ← load r
      match o.cls, o.data with
      | .type n, .fields vs =>
        if ["enumerate", "zip", "dict_itemiterator", "dict_reverseitemiterator", "odict_iterator", "itertools.zip_longest", "itertools.pairwise"].contains n && vs[0]? == some (rawInt a) then
          rule "for.unpacks-the-owned-tuple"
          updateField r 0 .none
      | _, _ => pure ()) Q E s := by
    cases v <;> try exact wpAny_pure h
    dsimp only
    refine wpAny_bind (wpAny_load ho ?_)
    split
    · rename_i n vs e1 e2
      rw [hq n e1]
      exact wpAny_pure h
    · exact wpAny_pure h
  unfold letOwnedTupleGo
  split
  · exact go
  · exact go
  · exact wpAny_pure h

theorem forLoopGo {prog : Program} {w : World} {A : Around} {s : Shared} {R : Result → Shared → Prop} {target : Expr} {it : Value} {body orelse : List Stmt} {env : Env} (I : Nat → Shared → Prop)
    (turn : ∀ n s, I n s → wpAny (model prog w) A (pyNext it) (fun r s₁ => match r with
      | none => wpAny (model prog w) A (execs orelse env) (fun f s₃ => R (.ok f) s₃) NoE s₁
      | some v => wpAny (model prog w) A (letOwnedTupleGo target it v) (fun _ s₁' => wpAny (model prog w) A (assign target env v) (fun _ s₂ => wpAny (model prog w) A (execs body env) (fun f s₃ => match f with
          | .next | .cont => ∃ m, m < n ∧ I m s₃
          | .brk => R (.ok .next) s₃
          | .ret v => R (.ok (.ret v)) s₃) NoE s₂) NoE s₁') NoE s₁) NoE s)
    (n : Nat) (h : I n s) : codeAny (model prog w) A (.forLoop target it body orelse env) R s := by
  refine codeAny_loop' rfl I (fun n s hI => ?_) n h
  show wpAny _ _ ((forTurn target it body orelse env).onRaise (fun x => do noteFrame x env; theTreesLotGoes x)) _ _ s
  refine wpAny_noted ?_
  simp only [forTurn]
  refine wpAny_bind (wpAny_standAt (wpAny_bind (wpAny_onRaise (wpAny_mono (turn n s hI) (fun r s₁ h₁ => ?_) fun _ _ h' => h'.elim))))
  cases r with
  | none => exact wpAny_pure (.inr ⟨rfl, codeAny_block (wpAny_mono h₁ (fun _ _ z => z) fun _ _ z => z.elim)⟩)
  | some v =>
    refine wpAny_bind (wpAny_mono h₁ (fun _ s₁' h₁' => ?_) fun _ _ z => z.elim)
    refine wpAny_bind (wpAny_mono h₁' (fun _ s₂ h₂ => wpAny_bind (wpAny_mono h₂ (fun f s₃ h₃ => ?_) fun _ _ h' => h'.elim)) fun _ _ h' => h'.elim)
    cases f with
    | next => exact wpAny_pure (.inl ⟨rfl, h₃⟩)
    | cont => exact wpAny_pure (.inl ⟨rfl, h₃⟩)
    | brk => exact wpAny_pure h₃
    | ret v => exact wpAny_pure h₃

def turnQ (Q : QS) (J : Rho → Sg → Prop) : QS := fun fl ρ' σ' => match fl with
  | .next | .cont => J ρ' σ'
  | .brk => Q .next ρ' σ'
  | .ret v => Q (.ret v) ρ' σ'

theorem forLoop {n : Nat} {item : Nat → V → Prop} {it : Addr} {ob : Nat → Obj → Prop} {T : Heap → Sg → Prop} (S : Source c n item it ob T) {t : Expr} {body : List Stmt} {h : Heap}
    (J : Nat → Rho → Sg → Prop) (h0 : J 0 ρ σ) (hT : ∀ i ρ σ h', J i ρ σ → Stab s.heap h' → T h' σ) (hst : Stab h s.heap) (I : Inv c.B ((it, .pred (ob 0)) :: (c.env.locals, .frame ρ) :: c.gs) σ s)
    (turn : ∀ g i v ρ σ, i < n → item i v → J i ρ σ → WA (c.push g) t v ρ σ fun ρ₁ σ₁ => WSS (c.push g) body ρ₁ σ₁ (turnQ Q (J (i + 1))))
    (fin : ∀ ρ σ, J n ρ σ → Q .next ρ σ) :
    codeAny (model c.B.prog c.B.w) c.A (.forLoop t (.ref it) body [] c.env) (fun r s' => match r with | .ok f => PostS c h Q f s' | .error e => cameBackBy (model c.B.prog c.B.w) c.A c.env NoE e s') s := by
  refine forLoopGo (fun k s' => Stab s.heap s'.heap ∧ ∃ i ρ σ, k = n - i ∧ i ≤ n ∧ J i ρ σ ∧ Inv c.B ((it, .pred (ob i)) :: (c.env.locals, .frame ρ) :: c.gs) σ s') ?_ n ⟨Stab.refl _, 0, ρ, σ, rfl, Nat.zero_le _, h0, I⟩
  rintro k s' ⟨st, i, ρ, σ, rfl, hi, hJ, I⟩
  by_cases hlt : i < n
  · refine wpAny_mono (S.next i s' ρ σ (fun r s₁ => ∃ x, r = some x ∧ Stab s'.heap s₁.heap ∧ (∃ o, s₁.heap.get? it = some o ∧ ob (i + 1) o) ∧ wpAny (model c.B.prog c.B.w) c.A (assign t c.env x) (PostA (c.push (it, .pred (ob (i + 1)))) s'.heap fun ρ₁ σ₁ => WSS (c.push (it, .pred (ob (i + 1)))) body ρ₁ σ₁ (turnQ Q (J (i + 1)))) NoE s₁) hlt (hT _ _ _ _ hJ st) I
      fun x v s₁ hv rx st₁ I₁ => ⟨x, rfl, st₁, ?_, wpAny_mono (turn (it, .pred (ob (i + 1))) i v ρ σ hlt hv hJ s₁ x (Cx.st.toPush I₁) rx) (fun _ _ p => p.from st₁) fun _ _ z => z⟩) (fun r s₁ hr => ?_) fun _ _ z => z.elim
    · obtain ⟨o, ho, hp, _⟩ := (I₁.hid _ (.head _)).1; exact ⟨o, ho, hp⟩
    · obtain ⟨x, rfl, st₁, ⟨o, ho, hob⟩, hr⟩ := hr
      refine owned_quiet ho (S.quiet _ _ hob) ?_
      refine wpAny_mono hr (fun _ s₂ ⟨st₂, ρ₁, σ₁, I₂, q⟩ => ?_) fun _ _ z => z.elim
      refine wpAny_mono (q s₂ I₂) (fun f s₃ ⟨st₃, fl, ρ₃, σ₃, I₃, r, q⟩ => ?_) fun _ _ z => z.elim
      have stt := (st.trans st₂).trans st₃
      have I₃' := Cx.st.ofPush I₃
      cases fl with
      | next => simp only [RelF] at r; subst r; exact ⟨n - (i + 1), by lia, stt, i + 1, ρ₃, σ₃, rfl, hlt, q, I₃'⟩
      | cont => simp only [RelF] at r; subst r; exact ⟨n - (i + 1), by lia, stt, i + 1, ρ₃, σ₃, rfl, hlt, q, I₃'⟩
      | brk => simp only [RelF] at r; subst r; exact ⟨hst.trans stt, .next, ρ₃, σ₃, I₃'.pop, rfl, q⟩
      | ret v => simp only [RelF] at r; obtain ⟨x, rfl, rx⟩ := r; exact ⟨hst.trans stt, .ret v, ρ₃, σ₃, I₃'.pop, ⟨x, rfl, rx⟩, q⟩
  · have e : i = n := by lia
    subst e
    refine wpAny_mono (S.done s' ρ σ (fun r s₁ => r = none ∧ Stab s'.heap s₁.heap ∧ c.st ρ σ s₁) (hT _ _ _ _ hJ st) I fun s₁ st₁ I₁ => ⟨rfl, st₁, I₁⟩) (fun r s₁ hr => ?_) fun _ _ z => z.elim
    obtain ⟨rfl, st₁, I₁⟩ := hr
    exact wpAny_execs_nil ⟨(hst.trans st).trans st₁, .next, ρ, σ, I₁, rfl, fin ρ σ hJ⟩

/-! ### the sources -/
def obList (l : Addr) (i : Nat) (o : Obj) : Prop := o.cls = .type "list_iterator" ∧ o.data = .fields #[.ref l, .int i 0]
theorem Source.list (ok : c.ok) (l : Addr) (vs : List V) (it : Addr) : Source c vs.length (fun i v => vs[i]? = some v) it (obList l) (fun _ σ => σ l = some (.list vs)) where
  next := fun i s ρ σ Q hi hT I hQ => by
    obtain ⟨o, ho, ⟨hc, hd⟩, _⟩ := (I.hid _ (.head _)).1
    obtain ⟨xs, n, hl, rs⟩ := (I.objs l _ hT).1
    obtain ⟨x, hx, rx⟩ := rs.get (i := i) (v := vs[i]) (by simp [hi])
    refine wpAny_pyNext_list_item ⟨o, ho, hc, hd⟩ hl.isList (x := x) (by simpa using hx) fun h' hit' hs' => ?_
    have st : Stab s.heap h' := stab_of_ext (I.hid _ (.head _)).1 hs'.extBut
    obtain ⟨o', ho', hc', hd'⟩ := hit'
    refine hQ x vs[i] _ (by simp [hi]) (rx.stab st) st ?_
    exact Inv.mutHid (tk := s.toks) (o' := .pred (obList l (i + 1))) I hs'.extBut ⟨o', ho', ⟨hc', by simpa using hd'⟩, by rw [hc']; simp⟩
  done := fun s ρ σ Q hT I hQ => by
    obtain ⟨o, ho, ⟨hc, hd⟩, _⟩ := (I.hid _ (.head _)).1
    obtain ⟨xs, n, hl, rs⟩ := (I.objs l _ hT).1
    have e := rs.length
    refine wpAny_pyNext_list_end ok.handled ⟨o, ho, hc, hd⟩ hl.isList (by simp [e]) fun h' he => ?_
    exact hQ _ (stab_of_ext (I.hid _ (.head _)).1 he) (Inv.dropHid (tk := s.toks) I he)
  quiet := fun i o ⟨hc, _⟩ k e => by rw [hc] at e; cases e; decide

def obTup (t : Addr) (i : Nat) (o : Obj) : Prop := o.cls = .type "tuple_iterator" ∧ o.data = .fields #[.ref t, .int i 0]
theorem Source.tup (ok : c.ok) (t : Addr) (xs : Array Value) (vs : List V) (it : Addr) : Source c vs.length (fun i v => vs[i]? = some v) it (obTup t) (fun h _ => IsTup h t xs ∧ Rels h vs xs.toList) where
  next := fun i s ρ σ Q hi ⟨ht, rs⟩ I hQ => by
    obtain ⟨o, ho, ⟨hc, hd⟩, _⟩ := (I.hid _ (.head _)).1
    obtain ⟨x, hx, rx⟩ := rs.get (i := i) (v := vs[i]) (by simp [hi])
    refine wpAny_pyNext_tuple_item ⟨o, ho, hc, hd⟩ ht (x := x) (by simpa using hx) fun h' hit' hs' => ?_
    have st : Stab s.heap h' := stab_of_ext (I.hid _ (.head _)).1 hs'.extBut
    obtain ⟨o', ho', hc', hd'⟩ := hit'
    refine hQ x vs[i] _ (by simp [hi]) (rx.stab st) st ?_
    exact Inv.mutHid (tk := s.toks) (o' := .pred (obTup t (i + 1))) I hs'.extBut ⟨o', ho', ⟨hc', by simpa using hd'⟩, by rw [hc']; simp⟩
  done := fun s ρ σ Q ⟨ht, rs⟩ I hQ => by
    obtain ⟨o, ho, ⟨hc, hd⟩, _⟩ := (I.hid _ (.head _)).1
    have e := rs.length
    refine wpAny_pyNext_tuple_end ok.handled ⟨o, ho, hc, hd⟩ ht (by simp [e]) fun h' he => ?_
    exact hQ _ (stab_of_ext (I.hid _ (.head _)).1 he) (Inv.dropHid (tk := s.toks) I he)
  quiet := fun i o ⟨hc, _⟩ k e => by rw [hc] at e; cases e; decide

def obRange (a st : Int) (n : Nat) (i : Nat) (o : Obj) : Prop := o = { cls := .type "range_iterator", dict := none, data := .fields #[rawInt (a + (i : Nat) * st), rawInt ((n : Int) - (i : Nat)), rawInt st], slots := #[] }
theorem Source.range (ok : c.ok) (a st : Int) (n : Nat) (it : Addr) : Source c n (fun i v => v = .int (a + i * st)) it (obRange a st n) (fun _ _ => True) where
  next := fun i s ρ σ Q hi _ I hQ => by
    obtain ⟨o, ho, rfl, _⟩ := (I.hid _ (.head _)).1
    refine wpAny_pyNext_range_item ho (by lia) fun h' hit' hs' => ?_
    have stb : Stab s.heap h' := stab_of_ext (I.hid _ (.head _)).1 hs'.extBut
    refine hQ _ (.int (a + i * st)) _ rfl (by simp [Rel]) stb ?_
    have e1 : a + ((i + 1 : Nat) : Int) * st = a + (i : Int) * st + st := by push_cast; rw [Int.add_mul, Int.one_mul, Int.add_assoc]
    have e2 : (n : Int) - ((i + 1 : Nat) : Int) = (n : Int) - (i : Int) - 1 := by push_cast; lia
    exact Inv.mutHid (tk := s.toks + 1) (o' := .pred (obRange a st n (i + 1))) I hs'.extBut ⟨_, hit', by unfold obRange; rw [e1, e2], by simp⟩
  done := fun s ρ σ Q _ I hQ => by
    obtain ⟨o, ho, rfl, _⟩ := (I.hid _ (.head _)).1
    refine wpAny_pyNext_range_end ok.handled ho (by lia) fun h' he => ?_
    exact hQ _ (stab_of_ext (I.hid _ (.head _)).1 he) (Inv.dropHid (tk := s.toks) I he)
  quiet := fun i o hc k e => by rw [hc] at e; cases e; decide

/-! ### for -/
theorem WS.forList {t iter : Expr} {body : List Stmt} {pos : Pos} (ok : c.ok) (hh : WE c iter ρ σ fun v σ₁ => ∃ l vs, v = .ref l ∧ σ₁ l = some (.list vs) ∧ ∃ J : Nat → Rho → Sg → Prop, J 0 ρ σ₁ ∧ (∀ i ρ σ, J i ρ σ → σ l = some (.list vs)) ∧
      (∀ g i v ρ σ, i < vs.length → vs[i]? = some v → J i ρ σ → WA (c.push g) t v ρ σ fun ρ₁ σ₁ => WSS (c.push g) body ρ₁ σ₁ (turnQ Q (J (i + 1)))) ∧ ∀ ρ σ, J vs.length ρ σ → Q .next ρ σ)
    (hs : ∀ x, foldedSetIterable iter c.env x = pure x := by k_dflt (intro _; rfl)) : WS c (.For t iter body [] pos) ρ σ Q := fun s I =>
  wpAny_For (wpAny_mono (hh s I) (fun x s₁ hxx => by
    obtain ⟨st, v, σ₁, I₁, r, l, vs, e, hl, J, h0, hT, turn, fin⟩ := hxx
    subst e; simp only [Rel] at r; subst r
    obtain ⟨xs, n, ho, rs⟩ := I₁.obj hl
    refine wpAny_pyIter_list ho.isList ?_
    have kk : ∀ b o, s₁.heap.get? b = some o → (s₁.heap.push { cls := .type "list_iterator", data := .fields #[.ref l, .int 0 0] }).get? b = some o := fun b o e => Heap.get?_push_of_some _ e
    exact forLoop (Source.list ok l vs s₁.heap.objs.size) J h0 (fun i ρ σ h' hJ _ => hT i ρ σ hJ) (st.trans (stab_of_keep kk))
      (Inv.push (tk := s₁.toks) (o := .pred (obList l 0)) I₁ (Nat.le_refl _) kk ⟨_, Heap.get?_push_size _ rfl, ⟨rfl, rfl⟩, by simp⟩) turn fin) fun _ _ z => z) hs
theorem WS.forTup {t iter : Expr} {body : List Stmt} {pos : Pos} (ok : c.ok) (hh : WE c iter ρ σ fun v σ₁ => ∃ vs, v = .tup vs ∧ ∃ J : Nat → Rho → Sg → Prop, J 0 ρ σ₁ ∧
      (∀ g i v ρ σ, i < vs.length → vs[i]? = some v → J i ρ σ → WA (c.push g) t v ρ σ fun ρ₁ σ₁ => WSS (c.push g) body ρ₁ σ₁ (turnQ Q (J (i + 1)))) ∧ ∀ ρ σ, J vs.length ρ σ → Q .next ρ σ)
    (hs : ∀ x, foldedSetIterable iter c.env x = pure x := by k_dflt (intro _; rfl)) : WS c (.For t iter body [] pos) ρ σ Q := fun s I =>
  wpAny_For (wpAny_mono (hh s I) (fun x s₁ hxx => by
    obtain ⟨st, v, σ₁, I₁, r, vs, e, J, h0, turn, fin⟩ := hxx
    subst e; simp only [Rel] at r
    obtain ⟨a, xs, rfl, ht, rs⟩ := r
    refine wpAny_pyIter_tuple ht ?_
    have kk : ∀ b o, s₁.heap.get? b = some o → (s₁.heap.push { cls := .type "tuple_iterator", data := .fields #[.ref a, .int 0 0] }).get? b = some o := fun b o e => Heap.get?_push_of_some _ e
    have sk := stab_of_keep kk
    exact forLoop (Source.tup ok a xs vs s₁.heap.objs.size) J h0 (fun i ρ σ h' hJ st' => ⟨st' _ _ (sk _ _ ht), (rs.stab sk).stab st'⟩) (st.trans sk)
      (Inv.push (tk := s₁.toks) (o := .pred (obTup a 0)) I₁ (Nat.le_refl _) kk ⟨_, Heap.get?_push_size _ rfl, ⟨rfl, rfl⟩, by simp⟩) turn fin) fun _ _ z => z) hs

/-- a range made in hand: V has no word for it, so the whole call stands in the rule -/
def IsRangeV (h : Heap) (x : Value) (a b st : Int) : Prop := ∃ r t u v, x = .ref r ∧ IsRange h r a b st t u v
def WRange (c : Cx) (e : Expr) (ρ : Rho) (σ : Sg) (Q : Int → Int → Int → Sg → Prop) : Prop := ∀ s, c.st ρ σ s → wpAny (model c.B.prog c.B.w) c.A (eval e c.env) (fun x s' => Stab s.heap s'.heap ∧ ∃ a b st σ', c.st ρ σ' s' ∧ IsRangeV s'.heap x a b st ∧ Q a b st σ') NoE s
def rangeN (a b st : Int) : Nat := (Builtin.Range.rangeSize a b st).toNat
theorem rangeSize_nonneg (a b st : Int) : 0 ≤ Builtin.Range.rangeSize a b st := by
  unfold Builtin.Range.rangeSize
  split <;> split <;> first | lia | (have := Int.ediv_nonneg (a := b - a - 1) (b := st) (by lia) (by lia); lia) | (have := Int.ediv_nonneg (a := a - b - 1) (b := -st) (by lia) (by lia); lia)
theorem WS.forRange {t iter : Expr} {body : List Stmt} {pos : Pos} (ok : c.ok) (hh : WRange c iter ρ σ fun a b st σ₁ => Builtin.Range.small a b st = true ∧ ∃ J : Nat → Rho → Sg → Prop, J 0 ρ σ₁ ∧
      (∀ g i ρ σ, i < rangeN a b st → J i ρ σ → WA (c.push g) t (.int (a + i * st)) ρ σ fun ρ₁ σ₁ => WSS (c.push g) body ρ₁ σ₁ (turnQ Q (J (i + 1)))) ∧ ∀ ρ σ, J (rangeN a b st) ρ σ → Q .next ρ σ)
    (hs : ∀ x, foldedSetIterable iter c.env x = pure x := by k_dflt (intro _; rfl)) : WS c (.For t iter body [] pos) ρ σ Q := fun s I =>
  wpAny_For (wpAny_mono (hh s I) (fun x s₁ hxx => by
    obtain ⟨st, a, b, sp, σ₁, I₁, ⟨r, t1, t2, t3, e, hr⟩, hsm, J, h0, turn, fin⟩ := hxx
    subst e
    refine wpAny_pyIter_range hr hsm ?_
    have kk : ∀ b' o, s₁.heap.get? b' = some o → (s₁.heap.push { cls := .type "range_iterator", data := .fields #[rawInt a, rawInt (Builtin.Range.rangeSize a b sp), rawInt sp] }).get? b' = some o := fun b o e => Heap.get?_push_of_some _ e
    have sk := stab_of_keep kk
    refine forLoop (Source.range ok a sp (rangeN a b sp) s₁.heap.objs.size) J h0 (fun _ _ _ _ _ _ => trivial) (st.trans sk)
      (Inv.push (tk := s₁.toks) (o := .pred (obRange a sp (rangeN a b sp) 0)) I₁ (Nat.le_refl _) kk ⟨_, Heap.get?_push_size _ rfl, ?_, by simp⟩) (fun g i v ρ σ hi e hJ => e ▸ turn g i ρ σ hi hJ) fin
    unfold obRange rangeN
    rw [Int.toNat_of_nonneg (rangeSize_nonneg a b sp)]
    simp) fun _ _ z => z) hs
end
def keepV (K : Frag) : Value → Bool
  | .ref a => keepIn K (.ref a)
  | .builtin _ => true
  | .type _ => true
  | _ => false
theorem keepsV {M : Model} {K : Frag} {f : Value} (hk : keepV K f = true) (h : Heap) (X : K.In h) : ∃ k, (k = Keeper.frame ∨ k = Keeper.machine ∨ k = Keeper.boundFrame) ∧ Looks M h (keeperOf f) k := by
  cases f <;> simp only [keepV] at hk
  case ref a => exact keeps_K hk h X
  case builtin i => exact ⟨.machine, .inr (.inl rfl), Looks.of_pure rfl⟩
  case type i => exact ⟨.machine, .inr (.inl rfl), Looks.of_pure rfl⟩
  all_goals cases hk

section
variable {c : Cx} {ρ : Rho} {σ : Sg} {s : Shared} {Q : V → Sg → Prop}

theorem starEach_plain {args : List Expr} {env : Env} (hst : starEach args env = args.map fun e => (false, eval e env)) (pos : Pos) : (backTo pos (starEach args env)).any (·.1) = false := by
  rw [hst]
  induction args with
  | nil => rfl
  | cons e es ih =>
    have ih' := ih
    simp only [List.map_cons, backTo, List.any_cons, List.any_map, List.map_map] at *
    simp only [Bool.false_or, Function.comp_def]
    rw [List.any_eq_false]
    intro x _
    simp

theorem callWithV {pos : Pos} {f : Value} {first : List Value} {args : List Expr} {fv : List V} (I : c.st ρ σ s) (hk : keepV c.B.K f = true) (hst : starEach args c.env = args.map fun e => (false, eval e c.env)) (rf : Rels s.heap fv first)
    (hh : WL c pos args ρ σ fun vs σ₂ => WC c f (fv ++ vs) ρ σ₂ Q) : wpAny (model c.B.prog c.B.w) c.A (callWith pos f first (backTo pos (starEach args c.env)) []) (PostE c ρ s.heap Q) NoE s := by
  have hp := starEach_plain hst pos
  refine callWith_of (P := fun h => c.B.K.In h) (by rw [hp]; rfl) (fun h X => keepsV hk h X) ?_
  have key : wpAny (model c.B.prog c.B.w) c.A (spliced (backTo pos (starEach args c.env))) (fun vs s₁ => c.B.K.In s₁.heap ∧ wpAny (model c.B.prog c.B.w) c.A (call f (first ++ vs) []) (PostE c ρ s.heap Q) NoE s₁) NoE s :=
    wpAny_mono (hh s I) (fun xs s₁ ⟨st, vs, σ₁, I₁, rs, q⟩ => ⟨I₁.X, wpAny_mono (q s₁ (first ++ xs) I₁ ((rf.stab st).append rs)) (fun _ _ p => p.from st) fun _ _ z => z⟩) fun _ _ z => z
  cases args with
  | nil =>
    have e : backTo pos (starEach [] c.env) = [] := rfl
    rw [e] at key ⊢
    refine evalArgs_nil3 ?_
    have : wpAny (model c.B.prog c.B.w) c.A (pure [] : Sem (List Value)) (fun vs s₁ => c.B.K.In s₁.heap ∧ wpAny (model c.B.prog c.B.w) c.A (call f (first ++ vs) []) (PostE c ρ s.heap Q) NoE s₁) NoE s := key
    refine ⟨I.X, ?_⟩
    intro Γ p hΓ
    have h2 := this Γ p hΓ
    exact h2.2 Γ p hΓ
  | cons e es =>
    have e1 : backTo pos (starEach (e :: es) c.env) = (false, eval e c.env) :: backTo pos (es.map fun e => (false, eval e c.env)) := by rw [hst]; rfl
    rw [e1] at key ⊢
    exact evalArgs_plain key

/-- a call of a name (a def, a class, a built-in) -/
theorem WE.call {func : Expr} {args : List Expr} {pos : Pos} (hh : WE c func ρ σ fun v σ₁ => ∃ y, v = .raw y ∧ keepV c.B.K y = true ∧ WL c pos args ρ σ₁ fun vs σ₂ => WC c y vs ρ σ₂ Q)
    (hst : starEach args c.env = args.map fun e => (false, eval e c.env) := by k_dflt rfl)
    (he : eval (.Call func args [] pos) c.env = (do callWith pos (← eval func c.env) [] (backTo pos (starEach args c.env)) (backToKw pos (keywordEach [] c.env))) := by k_dflt rfl) : WE c (.Call func args [] pos) ρ σ Q := fun s I =>
  Call_ (wpAny_mono (hh s I) (fun x s₁ hxx => by
    obtain ⟨st, v, σ₁, I₁, r, y, e, hk, k⟩ := hxx
    subst e; simp only [Rel] at r; subst r
    exact wpAny_mono (callWithV I₁ hk hst (fv := []) (by simp [Rels]) k) (fun _ _ p => p.from st) fun _ _ z => z) fun _ _ z => z) he

/-- what a method's name means on a value -/
def WMeth (c : Cx) (name : Str) (v : V) (ρ : Rho) (σ : Sg) (Q : Value → Prop) : Prop := ∀ s x pl (R : Value × List Value → Shared → Prop), c.st ρ σ s → Rel s.heap v x → (∀ y, Q y → keepV c.B.K y = true → R (y, [x]) s) → wpAny (model c.B.prog c.B.w) c.A (getMethod x name pl) R NoE s
theorem WE.meth {o : Expr} {name : Str} {args : List Expr} {apos pos : Pos} {pl : Sem Bool} (hh : WE c o ρ σ fun v σ₁ => WMeth c name v ρ σ₁ fun y => WL c pos args ρ σ₁ fun vs σ₂ => WC c y (v :: vs) ρ σ₂ Q)
    (hst : starEach args c.env = args.map fun e => (false, eval e c.env) := by k_dflt rfl)
    (he : eval (.Call (.Attribute o name apos) args [] pos) c.env = (do
      let ov ← eval o c.env
      standAt apos.atName
      let (f, first) ← holding [ov] (getMethod ov name pl)
      callWith pos f first (backTo pos (starEach args c.env)) []) := by k_dflt rfl) : WE c (.Call (.Attribute o name apos) args [] pos) ρ σ Q := fun s I =>
  MethodCall_ (wpAny_mono (hh s I) (fun x s₁ ⟨st, v, σ₁, I₁, r, k⟩ => k s₁ x pl _ I₁ r fun y hy hk =>
    wpAny_mono (callWithV I₁ hk hst (fv := [v]) (Rels.one r) hy) (fun _ _ p => p.from st) fun _ _ z => z) fun _ _ z => z) he

theorem WMeth.inst {name : Str} {a C d f : Addr} {fs : List (Str × V)} {Q : Value → Prop} (h1 : σ a = some (.inst C d)) (h2 : σ d = some (.sdict fs)) (hg : plainGet c.B.K C name = true) (hf : findIn c.B.K (.ref C) name = some (some (.ref f)))
    (ht : isFn c.B.K (.ref f) = true) (hk : keepV c.B.K (.ref f) = true) (hn : dget fs name = none) (hQ : Q (.ref f)) : WMeth c name (.ref a) ρ σ Q := fun s x pl R I r k => by
  simp only [Rel] at r; subst r
  obtain ⟨od, kvs, hi, hod, hx, _, hnd, hl, rs⟩ := instAt I h1 h2
  refine method_fn I.X hi (plainGet_of hg).1 (plainGet_of hg).2 hf (beq_iff_eq.mp ht) ?_ (k _ hQ hk)
  show (lookIn name od).map _ = _
  rw [hl]
  rcases dget_rel (k := name) rs with ⟨_, e⟩ | ⟨v, y, e, _⟩
  · rw [e]; rfl
  · rw [hn] at e; cases e
theorem WMeth.listM {name : Str} {id : String} {a : Addr} {l : List V} {Q : Value → Prop} (h1 : σ a = some (.list l)) (slot : Slot "list" name id) (hty : typeOf (.builtin id) = pure (.type "method_descriptor")) (hQ : Q (.builtin id)) : WMeth c name (.ref a) ρ σ Q := fun s x pl R I r k => by
  simp only [Rel] at r; subst r
  obtain ⟨xs, n, ho, rs⟩ := I.obj h1
  exact getMethod_builtin ho.isList.typeIs PySem.F.plainAttrs_list slot hty (fun b e => by cases e; exact ⟨_, ho, rfl⟩) (k _ hQ rfl)
theorem WMeth.idictM {name : Str} {id : String} {a : Addr} {l : List (Int × V)} {Q : Value → Prop} (h1 : σ a = some (.idict l)) (slot : Slot "dict" name id) (hty : typeOf (.builtin id) = pure (.type "method_descriptor")) (hQ : Q (.builtin id)) : WMeth c name (.ref a) ρ σ Q := fun s x pl R I r k => by
  simp only [Rel] at r; subst r
  obtain ⟨kvs, hd, rs⟩ := I.obj h1
  exact getMethod_builtin hd.typeIs PySem.F.plainAttrs_dict slot hty hd.mapOf.noDict (k _ hQ rfl)
theorem WMeth.sdictM {name : Str} {id : String} {a : Addr} {l : List (Str × V)} {Q : Value → Prop} (h1 : σ a = some (.sdict l)) (slot : Slot "dict" name id) (hty : typeOf (.builtin id) = pure (.type "method_descriptor")) (hQ : Q (.builtin id)) : WMeth c name (.ref a) ρ σ Q := fun s x pl R I r k => by
  simp only [Rel] at r; subst r
  obtain ⟨kvs, hd, rs⟩ := I.obj h1
  exact getMethod_builtin hd.typeIs PySem.F.plainAttrs_dict slot hty hd.mapOf.noDict (k _ hQ rfl)
theorem WMeth.tdictM {name : Str} {id : String} {a : Addr} {l : List (List Int × V)} {Q : Value → Prop} (h1 : σ a = some (.tdict l)) (slot : Slot "dict" name id) (hty : typeOf (.builtin id) = pure (.type "method_descriptor")) (hQ : Q (.builtin id)) : WMeth c name (.ref a) ρ σ Q := fun s x pl R I r k => by
  simp only [Rel] at r; subst r
  obtain ⟨kvs, hd, rs⟩ := I.obj h1
  exact getMethod_builtin hd.typeIs PySem.F.plainAttrs_dict slot hty (dictOfH_noDict hd) (k _ hQ rfl)

/-! ## built-ins -/
theorem WC.len_list {a : Addr} {l : List V} (h1 : σ a = some (.list l)) (hl : l.length ≤ 1000000) (hQ : Q (.int l.length) σ) : WC c (.builtin "len") [.ref a] ρ σ Q := fun s xs I rs => by
  match xs, rs with
  | [x], rs =>
    simp only [Rels, Rel] at rs; obtain ⟨rfl, _⟩ := rs
    obtain ⟨ys, n, ho, rs⟩ := I.obj h1
    have e := rs.length
    refine call_len_list ho.isList (by simp; lia) ⟨Stab.refl _, _, σ, I.toks _, ?_, hQ⟩
    simp only [Rel]; exact ⟨_, by rw [e]; simp; rfl⟩
  | [], rs => simp [Rels] at rs
  | _ :: _ :: _, rs => simp [Rels] at rs
theorem WC.abs {i : Int} (hQ : Q (.int (if i < 0 then -i else i)) σ) : WC c (.builtin "abs") [.int i] ρ σ Q := fun s xs I rs => by
  match xs, rs with
  | [x], rs =>
    simp only [Rels, Rel] at rs; obtain ⟨⟨t, rfl⟩, _⟩ := rs
    exact call_abs_int fun u tk => ⟨Stab.refl _, _, σ, I.toks _, by simp [Rel], hQ⟩
  | [], rs => simp [Rels] at rs
  | _ :: _ :: _, rs => simp [Rels] at rs
theorem WC.intInt {i : Int} (hQ : Q (.int i) σ) : WC c (.type "int") [.int i] ρ σ Q := fun s xs I rs => by
  match xs, rs with
  | [x], rs =>
    simp only [Rels, Rel] at rs; obtain ⟨⟨t, rfl⟩, _⟩ := rs
    exact call_int_int ⟨Stab.refl _, .int i, σ, I, by simp [Rel], hQ⟩
  | [], rs => simp [Rels] at rs
  | _ :: _ :: _, rs => simp [Rels] at rs
theorem WC.list_list {a : Addr} {l : List V} (h1 : σ a = some (.list l)) (hl : l.length ≤ 1000000) (hQ : ∀ b, σ b = none → Q (.ref b) (upd σ b (.list l))) : WC c (.type "list") [.ref a] ρ σ Q := fun s xs I rs => by
  match xs, rs with
  | [x], rs =>
    simp only [Rels, Rel] at rs; obtain ⟨rfl, _⟩ := rs
    obtain ⟨ys, n, ho, rs⟩ := I.obj h1
    have e := rs.length
    refine call_list_seq (hsz := by rw [List.size_toArray, ← e, sizeLine_eq]; lia) a (.inl rfl) ho rfl rfl fun h' c' hk hD => ?_
    have st := stab_of_keep hk
    exact ⟨st, .ref _, _, Inv.alloc (o := .list l) (tk := s.toks) I (Nat.le_refl _) hk ⟨ys, c', hD, rs.stab st⟩, by simp [Rel], hQ _ (Inv.fresh I (Nat.le_refl _))⟩
  | [], rs => simp [Rels] at rs
  | _ :: _ :: _, rs => simp [Rels] at rs
theorem WC.append {a : Addr} {l : List V} {v : V} (h1 : σ a = some (.list l)) (hl : l.length ≤ 1000000) (hQ : Q .none (upd σ a (.list (l ++ [v])))) : WC c (.builtin "list.append") [.ref a, v] ρ σ Q := fun s xs I rs => by
  match xs, rs with
  | [x, y], rs =>
    simp only [Rels, Rel] at rs; obtain ⟨rfl, ry, _⟩ := rs
    obtain ⟨ys, n, ho, rs⟩ := I.obj h1
    have e := rs.length
    refine append_at (its := ys.toArray) (n := n) ho (fun h' hs hD => ?_) (by rw [List.size_toArray, ← e, sizeLine_eq]; lia)
    have st := I.stabMut h1 hs.extBut
    exact ⟨st, .none, _, Inv.mut (o' := .list (l ++ [v])) (tk := s.toks) I h1 hs.extBut ⟨ys ++ [y], n + 1, by unfold IsL; rw [hD]; simp, (rs.stab st).append (Rels.one (ry.stab st))⟩, by simp [Rel], hQ⟩
  | [], rs => simp [Rels] at rs
  | [_], rs => simp [Rels] at rs
  | _ :: _ :: _ :: _, rs => simp [Rels] at rs
theorem WC.pop {a : Addr} {l : List V} {v : V} (h1 : σ a = some (.list (l ++ [v]))) (hl : l.length ≤ 1000000) (hQ : Q v (upd σ a (.list l))) : WC c (.builtin "list.pop") [.ref a] ρ σ Q := fun s xs I rs => by
  match xs, rs with
  | [x], rs =>
    simp only [Rels, Rel] at rs; obtain ⟨rfl, _⟩ := rs
    obtain ⟨ys, n, ho, rs⟩ := I.obj h1
    have e := rs.length
    simp at e
    obtain ⟨y, hy, ry⟩ := rs.get (i := l.length) (v := v) (by simp)
    have hy' : ys.toArray[ys.toArray.size - 1]? = some y := by simp; rw [← e]; simpa using hy
    refine call_meets PySem.F.slot_list_pop ⟨_, ho, rfl⟩ PySem.F.entry_list_pop (PySem.F.args_list_pop_1 _) (MeetsSeq.list_pop_last a ys.toArray n y hy' (by rw [List.size_toArray, ← e, sizeLine_eq]; lia)) ⟨ho, ?_⟩
    have hx : Heap.ExtBut a s.heap (s.heap.update a (Obj.mapSeq fun xs => xs.eraseIdxIfInBounds (ys.toArray.size - 1))) := (Heap.SameBut.update ..).extBut
    have st := I.stabMut h1 hx
    have hself := Heap.get?_update_self (f := Obj.mapSeq fun xs => xs.eraseIdxIfInBounds (ys.toArray.size - 1)) ho (by rfl)
    have hys : ys.toArray.eraseIdxIfInBounds (ys.toArray.size - 1) = (ys.take l.length).toArray := by
      have h3 : ys.length - 1 = l.length := by lia
      apply Array.toList_inj.mp
      simp [Array.eraseIdxIfInBounds]
      rw [if_pos (by lia)]
      simp [List.dropLast_eq_take, h3]
    refine ⟨st, v, _, Inv.mut (s := s) (o' := .list l) (tk := s.toks) I h1 hx ⟨ys.take l.length, n + 1, ?_, ?_⟩, ry.stab st, hQ⟩
    · unfold IsL; rw [hself]; simp only [Obj.mapSeq, hys]; simp [← e]
    · have := (rs.take l.length).stab st; simpa using this
  | [], rs => simp [Rels] at rs
  | _ :: _ :: _, rs => simp [Rels] at rs

theorem WC.get_sdict {a : Addr} {l : List (Str × V)} {k : Str} {d : V} (h1 : σ a = some (.sdict l)) (hQ : Q ((dget l k).getD d) σ) : WC c (.builtin "dict.get") [.ref a, .str k, d] ρ σ Q := fun s xs I rs => by
  match xs, rs with
  | [x, y, z], rs =>
    simp only [Rels, Rel] at rs; obtain ⟨rfl, ⟨t, rfl⟩, rz, _⟩ := rs
    obtain ⟨kvs, hd, rs⟩ := I.obj h1
    refine call_meetsIn PySem.F.slot_dict_get hd.typeIs PySem.F.entry_dict_get (PySem.F.args_dict_get_3 _ _ _) (meets_dict_get_default (strKind c.B.prog c.B.w) (k := k) a (strKind_is _ _ k t) (I.lo h1) z) ⟨_, hd.mapOf, ?_⟩
    rcases dget_rel (k := k) rs with ⟨e, e2⟩ | ⟨v, u, e, e2, rr⟩
    · rw [e2]; rw [e] at hQ; exact ⟨Stab.refl _, _, σ, I.toks _, by simpa using rz, hQ⟩
    · rw [e2]; rw [e] at hQ; exact ⟨Stab.refl _, _, σ, I.toks _, by simpa using rr, hQ⟩
  | [], rs => simp [Rels] at rs
  | [_], rs => simp [Rels] at rs
  | [_, _], rs => simp [Rels] at rs
  | _ :: _ :: _ :: _ :: _, rs => simp [Rels] at rs
theorem WC.get_tdict {a : Addr} {l : List (List Int × V)} {k : List Int} {d : V} (hu : c.A.units + 1 < cLine) (h1 : σ a = some (.tdict l)) (hQ : Q ((dget l k).getD d) σ) : WC c (.builtin "dict.get") [.ref a, .tup (k.map V.int), d] ρ σ Q := fun s xs I rs => by
  match xs, rs with
  | [x, y, z], rs =>
    simp only [Rels] at rs; obtain ⟨rx, ry, rz, _⟩ := rs
    simp only [Rel] at rx; subst rx
    obtain ⟨b, rfl, hb⟩ := isTupleKey_of (prog := c.B.prog) (w := c.B.w) ry
    obtain ⟨kvs, hd, rs⟩ := I.obj h1
    refine call_meetsIn PySem.F.slot_dict_get hd.typeIs PySem.F.entry_dict_get (PySem.F.args_dict_get_3 _ _ _) (meetsH_dict_get_default (tupleKind (intKind c.B.prog c.B.w)) a b (I.lo h1) z) ⟨tupleKind_room_in1 hu, k, kvs, hb, hd, ?_⟩
    rcases dget_relH (k := k) rs with ⟨e, e2⟩ | ⟨v, u, e, e2, rr⟩
    · rw [e2]; rw [e] at hQ; exact ⟨Stab.refl _, _, σ, I.toks _, by simpa using rz, hQ⟩
    · rw [e2]; rw [e] at hQ; exact ⟨Stab.refl _, _, σ, I.toks _, by simpa using rr, hQ⟩
  | [], rs => simp [Rels] at rs
  | [_], rs => simp [Rels] at rs
  | [_, _], rs => simp [Rels] at rs
  | _ :: _ :: _ :: _ :: _, rs => simp [Rels] at rs
theorem WC.setdefault {a : Addr} {l : List (Int × V)} {k : Int} {d : V} (h1 : σ a = some (.idict l)) (hl : l.length ≤ 1000000) (hQ : match dget l k with | some v => Q v σ | none => Q d (upd σ a (.idict (dput l k d)))) : WC c (.builtin "dict.setdefault") [.ref a, .int k, d] ρ σ Q := fun s xs I rs => by
  match xs, rs with
  | [x, y, z], rs =>
    simp only [Rels, Rel] at rs; obtain ⟨rfl, ⟨t, rfl⟩, rz, _⟩ := rs
    obtain ⟨kvs, hd, rs⟩ := I.obj h1
    have e := rs.length
    refine call_meetsIn PySem.F.slot_dict_setdefault hd.typeIs PySem.F.entry_dict_setdefault (PySem.F.args_dict_setdefault_3 _ _ _) (kt_meets_setdefault (intKind c.B.prog c.B.w) (k := k) a (intKind_is _ _ k t) (I.lo h1) z) ⟨kvs, hd, by rw [← e, sizeLine_eq]; lia, ?_, ?_⟩
    · intro v hv
      rcases dget_rel (k := k) rs with ⟨e, e2⟩ | ⟨v', u, e, e2, rr⟩
      · rw [e2] at hv; cases hv
      · rw [e2] at hv; cases hv; rw [e] at hQ; exact ⟨Stab.refl _, _, σ, I.toks _, rr, hQ⟩
    · intro hv h' hd' hs
      rcases dget_rel (k := k) rs with ⟨e, e2⟩ | ⟨v', u, e, e2, rr⟩
      · rw [e] at hQ
        have st := I.stabMut h1 hs.extBut
        exact ⟨st, d, _, Inv.mut (o' := .idict (dput l k d)) I h1 hs.extBut ⟨_, hd', (dput_rel rz rs).mono fun _ _ q => ⟨q.1, q.2.stab st⟩⟩, rz.stab st, hQ⟩
      · rw [e2] at hv; cases hv
  | [], rs => simp [Rels] at rs
  | [_], rs => simp [Rels] at rs
  | [_, _], rs => simp [Rels] at rs
  | _ :: _ :: _ :: _ :: _, rs => simp [Rels] at rs
end
inductive PostC (B : Base) (gs : List (Addr × O)) (h : Heap) (Q : V → Sg → Prop) (r : Result) (s' : Shared) : Prop
  | mk (st : Stab h s'.heap) (x : Value) (v : V) (σ' : Sg) (e : r = .ok (.ret x)) (I : Inv B gs σ' s') (rx : Rel s'.heap v x) (q : Q v σ')
/-- what a call of f with vs does, from σ, wherever it stands (n frames of room) -/
def Spec (B : Base) (f : Value) (n : Nat) (vs : List V) (σ : Sg) (Q : V → Sg → Prop) : Prop := ∀ A gs s xs, Room A n → Inv B gs σ s → Rels s.heap vs xs → codeAny (model B.prog B.w) A (.call f ⟨xs, []⟩) (PostC B gs s.heap Q) s

theorem Room.mono {A : Around} {n m : Nat} (r : Room A n) (h : m ≤ n) : Room A m := ⟨r.handled, by have := r.depth; lia, by have := r.units; lia⟩
theorem Spec.more {B : Base} {f : Value} {n m : Nat} {vs : List V} {σ : Sg} {Q : V → Sg → Prop} (sp : Spec B f n vs σ Q) (h : n ≤ m) : Spec B f m vs σ Q := fun A gs s xs r I rs => sp A gs s xs (r.mono h) I rs

theorem WC.spec {c : Cx} {ρ : Rho} {σ : Sg} {f : Value} {n : Nat} {vs : List V} {Q : V → Sg → Prop} (r : Room c.A n) (sp : Spec c.B f n vs σ Q) : WC c f vs ρ σ Q := fun s xs I rs =>
  wpAny_call (codeAny_mono (sp c.A _ s xs r I rs) fun r s' ⟨st, x, v, σ', e, I', rx, q⟩ => by subst e; exact ⟨st, v, σ', I', rx, q⟩)

def rho0 (names : List Str) (vs : List V) : Rho := fun x => (names.zip vs).reverse.lookup x
theorem rho0_rel {h : Heap} : ∀ {names : List Str} {vs : List V} {xs : List Value}, Rels h vs xs → ∀ x v, rho0 names vs x = some v → ∃ y, (names.zip xs).reverse.lookup x = some y ∧ Rel h v y
  | [], _, _, _, x, v, e => by simp [rho0] at e
  | _ :: _, [], [], _, x, v, e => by simp [rho0] at e
  | _ :: _, [], _ :: _, r, _, _, _ => by simp [Rels] at r
  | _ :: _, _ :: _, [], r, _, _, _ => by simp [Rels] at r
  | n :: ns, v :: vs, y :: ys, r, x, w, e => by
    simp only [Rels] at r
    have ih := rho0_rel (names := ns) r.2 x w
    simp only [rho0, List.zip_cons_cons, List.reverse_cons, List.lookup_append, List.lookup_cons, List.lookup_nil] at e ih ⊢
    have key : ∀ {vs : List V} {ys : List Value}, Rels h vs ys → (ns.zip vs).reverse.lookup x = none → (ns.zip ys).reverse.lookup x = none := by
      intro vs ys r' hn
      rw [List.lookup_eq_none_iff] at hn ⊢
      intro p hp
      rw [List.mem_reverse] at hp
      have : ∀ {ns : List Str} {vs : List V} {ys : List Value}, Rels h vs ys → ∀ p ∈ ns.zip ys, ∃ q ∈ ns.zip vs, q.1 = p.1 := by
        intro ns
        induction ns with
        | nil => intro vs ys r p hp; simp at hp
        | cons n ns ih =>
          intro vs ys r p hp
          match vs, ys, r with
          | [], [], _ => simp at hp
          | _ :: _, [], r => simp [Rels] at r
          | [], _ :: _, r => simp [Rels] at r
          | v :: vs, y :: ys, r =>
            simp only [Rels] at r
            simp only [List.zip_cons_cons, List.mem_cons] at hp
            rcases hp with rfl | hp
            · exact ⟨(n, v), by simp, rfl⟩
            · obtain ⟨q, hq, e⟩ := ih r.2 p hp; exact ⟨q, by simp [hq], e⟩
      obtain ⟨q, hq, e⟩ := this r' p hp
      have := hn q (by rw [List.mem_reverse]; exact hq)
      rwa [e] at this
    cases hl : (ns.zip vs).reverse.lookup x with
    | some u =>
      rw [hl] at e
      simp only [Option.some_or, Option.some.injEq] at e
      subst e
      obtain ⟨y', e1, e2⟩ := ih hl
      exact ⟨y', by rw [e1]; rfl, e2⟩
    | none =>
      rw [hl] at e
      rw [key r.2 hl]
      simp only [Option.none_or] at e ⊢
      by_cases hx : (x == n) = true
      · simp only [hx] at e ⊢; cases e; exact ⟨y, rfl, r.1⟩
      · simp only [hx] at e; cases e

theorem Room.deeper {A : Around} {n : Nat} (r : Room A (n + 1)) (env : Env) : Room (A.deeper env) n := ⟨r.handled, by have := r.depth; show A.depth + 1 + n < _; lia, by have := r.units; show A.units + 3 + 4 * n + 100 < _; lia⟩
theorem Room.ok {c : Cx} {n : Nat} (r : Room c.A n) (hk : c.env.scope.kind = .function) (hg : c.env.globals = mainGlobals) (hb : c.env.builtins = builtinsNs) : c.ok := ⟨hk, hg, hb, r.handled, by have := r.units; lia⟩

/-- the call of a def: its body in a fresh frame -/
theorem Spec.def {B : Base} {f : Addr} {n : Nat} {vs extraV : List V} {extra : List Value} {σ : Sg} {Q : V → Sg → Prop} {oc : Value} {od : Option Addr} {osl : Array (Option Value)} {fd : FuncData} {body : List Stmt} {names : List Str}
    (hK : B.K.lookup f = some ⟨oc, od, .func fd, osl⟩) (hcode : codeIn B.K fd.code fd.qualname = true) (hbody : fd.body = .stmts body)
    (hbind : ∀ s xs, B.K.In s.heap → xs.length = vs.length → BindsTo s fd ⟨xs, []⟩ (names.zip (xs ++ extra))) (hex : ∀ h, Rels h extraV extra)
    (hcell : ∀ x ∈ fd.scope.names, x.2 ≠ .cell) (hloc : ∀ x ∈ names, fd.scope.names.lookup x = some .local)
    (hco : fd.scope.isCoroutine = false) (hgen : fd.scope.isGenerator = false) (hk : fd.scope.kind = .function) (hgl : fd.globals = mainGlobals) (hbi : fd.builtins = builtinsNs)
    (hh : ∀ A gs L, Room A n → σ L = none → WSS ⟨B, A, gs, callEnv fd L f⟩ body (rho0 names (vs ++ extraV)) σ fun fl _ σ' => Q fl.val σ') : Spec B (.ref f) (n + 1) vs σ Q := fun A gs s xs r I rs => by
  have hlen : xs.length = vs.length := rs.length.symm
  refine codeAny_call_def (fd := fd) (body := body) (binds := names.zip (xs ++ extra)) (by have := r.depth; lia) (I.X _ _ hK) rfl (I.T.nolimit) (codeRec_of I.X hcode) hbody (hbind s xs I.X hlen) hcell ?_ ?_ hco hgen hk
  · intro x hx
    exact hloc _ (List.of_mem_zip hx).1
  · intro h₀ hns hkp
    have st := stab_of_keep hkp
    have rs' : Rels h₀ (vs ++ extraV) (xs ++ extra) := (rs.stab st).append (hex _)
    have I' : Inv B ((s.heap.objs.size, .frame (rho0 names (vs ++ extraV))) :: gs) σ { s with heap := h₀, toks := s.toks + (names.zip (xs ++ extra)).length } :=
      Inv.push I (Nat.le_refl _) hkp ⟨_, hns, rho0_rel rs'⟩
    refine wpAny_mono (hh (A.deeper (callEnv fd s.heap.objs.size f)) gs s.heap.objs.size (r.deeper _) (I.fresh (Nat.le_refl _)) _ I') (fun fl s' ⟨st', fv, ρ', σ', I'', rf, q⟩ => ?_) fun _ _ z => z.elim
    refine ⟨st.trans st', _, fv.val, σ', rfl, I''.pop, ?_, q⟩
    cases fv with
    | next => simp only [RelF] at rf; subst rf; simp [Fl.val, Rel]
    | brk => simp only [RelF] at rf; subst rf; simp [Fl.val, Rel]
    | cont => simp only [RelF] at rf; subst rf; simp [Fl.val, Rel]
    | ret v => simp only [RelF] at rf; obtain ⟨x, rfl, rx⟩ := rf; exact rx

/-- the call of a class -/
theorem WC.cls {c : Cx} {ρ : Rho} {σ : Sg} {C fI : Addr} {n : Nat} {vs : List V} {Q : V → Sg → Prop} (r : Room c.A (n + 1)) (hm : makesIn c.B.K C = true) (hi : findIn c.B.K (.ref C) "__init__" = some (some (.ref fI))) (hf : typeIn c.B.K (.ref fI) = some (.type "function"))
    (sp : ∀ a d, σ a = none → σ d = none → a ≠ d → Spec c.B (.ref fI) n (.ref a :: vs) (upd (upd σ d (.sdict [])) a (.inst C d)) fun v σ' => v = .none ∧ Q (.ref a) σ') : WC c (.ref C) vs ρ σ Q := fun s xs I rs => by
  obtain ⟨h, g, dr, t, os⟩ := s
  refine wpAny_call ?_
  have k1 : ∀ b o, h.get? b = some o → (h.push emptyDict).get? b = some o := fun b o e => Heap.get?_push_of_some _ e
  have k2 : ∀ b o, (h.push emptyDict).get? b = some o → ((h.push emptyDict).push (instObj C h.objs.size)).get? b = some o := fun b o e => Heap.get?_push_of_some _ e
  have I0 : Inv c.B ((c.env.locals, .frame ρ) :: c.gs) σ ⟨h, g, dr, t, os⟩ := I
  have I1 := Inv.alloc (o := .sdict []) (tk := t) I0 (Nat.le_refl _) k1 ⟨[], .new _, trivial⟩
  have I2 := Inv.alloc (a := h.objs.size + 1) (o := .inst C h.objs.size) (tk := t) I1 (by show (h.push emptyDict).objs.size ≤ _; rw [Heap.size_push]; exact Nat.le_refl _) k2 (by
    show ((h.push emptyDict).push (instObj C h.objs.size)).get? (h.objs.size + 1) = _
    have := Heap.get?_push_size (h.push emptyDict) (o := instObj C h.objs.size) rfl
    rw [Heap.size_push] at this
    exact this)
  have st := stab_of_keep fun b o e => k2 b o (k1 b o e)
  have rr : Room (c.A.under (.builtin "type.__call__" ⟨.ref C :: xs, []⟩)) n := ⟨r.handled, by
    have := r.depth
    show c.A.depth + 1 + n < _
    lia, by
    have := r.units
    show c.A.units + 1 + 4 * n + 100 < _
    lia⟩
  refine make_core (init := .ref fI) (makes_of I0.X hm) (looks_findIn I0.X hi) (fun self => bind_fn I0.X self hf) (.inl rfl) ?_
  refine codeAny_mono (sp (h.objs.size + 1) h.objs.size (I0.fresh (Nat.le_succ _)) (I0.fresh (Nat.le_refl _)) (Nat.ne_of_gt (Nat.lt_succ_self _)) _ _ _ (.ref (h.objs.size + 1) :: xs) rr I2 (by
    simp only [Rels]; exact ⟨by simp [Rel], rs.stab st⟩)) fun r s' ⟨st', x, v, σ', e, I', rx, hv, q⟩ => ?_
  subst e; subst hv
  simp only [Rel] at rx
  exact ⟨rx, st.trans st', _, σ', I', by simp [Rel], q⟩

/-! ## ranges -/
section
variable {c : Cx} {ρ : Rho} {σ : Sg} {Q : Int → Int → Int → Sg → Prop}
theorem rangeStep {c : Cx} {ρ : Rho} {σ : Sg} {s : Shared} (I : c.st ρ σ s) (o : Obj) (tk : Nat) : Stab s.heap (s.heap.push o) ∧ c.st ρ σ { s with heap := s.heap.push o, toks := tk } := by
  have k1 : ∀ b ob, s.heap.get? b = some ob → (s.heap.push o).get? b = some ob := fun b o e => Heap.get?_push_of_some _ e
  exact ⟨stab_of_keep k1, Inv.keep I k1 (by simp)⟩

theorem WRange.one {fe e : Expr} {pos : Pos} (hf : WE c fe ρ σ fun v σ₁ => v = .raw (.type "range") ∧ WE c e ρ σ₁ fun w σ₂ => ∃ i, w = .int i ∧ Q 0 i 1 σ₂)
    (hst : starEach [e] c.env = [(false, eval e c.env)] := by k_dflt rfl)
    (he : eval (.Call fe [e] [] pos) c.env = (do callWith pos (← eval fe c.env) [] (backTo pos (starEach [e] c.env)) (backToKw pos (keywordEach [] c.env))) := by k_dflt rfl) : WRange c (.Call fe [e] [] pos) ρ σ Q := fun s I =>
  Call_ (wpAny_mono (hf s I) (fun x s₁ hxx => by
    obtain ⟨st, v, σ₁, I₁, r, e', k⟩ := hxx
    subst e'; simp only [Rel] at r; subst r
    have e1 : backTo pos (starEach [e] c.env) = [(false, eval e c.env)] := by rw [hst]; rfl
    refine callWith_of (P := fun _ => True) (by rw [e1]; rfl) (fun h _ => ⟨.machine, .inr (.inl rfl), Looks.of_pure rfl⟩) ?_
    rw [e1]
    refine evalArgs_plain (Calls.spliced_cons (wpAny_mono (k s₁ I₁) (fun y s₂ ⟨st', w, σ₂, I₂, r', i, e2, q⟩ => Calls.spliced_nil ⟨trivial, ?_⟩) fun _ _ z => z))
    subst e2; simp only [Rel] at r'; obtain ⟨t, rfl⟩ := r'
    refine call_range_1 ?_
    have := rangeStep I₂ { cls := .type "range", data := .fields #[.int 0 s₂.toks, .int i t, .int 1 (s₂.toks + 1)] } (s₂.toks + 1 + 1)
    exact ⟨(st.trans st').trans this.1, 0, i, 1, σ₂, this.2, ⟨_, _, _, _, rfl, IsRange.new _ _ _ _ _ _ _⟩, q⟩) fun _ _ z => z) he
theorem WRange.two {fe e₁ e₂ : Expr} {pos : Pos} (hf : WE c fe ρ σ fun v σ₁ => v = .raw (.type "range") ∧ WE c e₁ ρ σ₁ fun w σ₂ => ∃ i, w = .int i ∧ WE c e₂ ρ σ₂ fun u σ₃ => ∃ j, u = .int j ∧ Q i j 1 σ₃)
    (hst : starEach [e₁, e₂] c.env = [(false, eval e₁ c.env), (false, eval e₂ c.env)] := by k_dflt rfl)
    (he : eval (.Call fe [e₁, e₂] [] pos) c.env = (do callWith pos (← eval fe c.env) [] (backTo pos (starEach [e₁, e₂] c.env)) (backToKw pos (keywordEach [] c.env))) := by k_dflt rfl) : WRange c (.Call fe [e₁, e₂] [] pos) ρ σ Q := fun s I =>
  Call_ (wpAny_mono (hf s I) (fun x s₁ hxx => by
    obtain ⟨st, v, σ₁, I₁, r, e', k⟩ := hxx
    subst e'; simp only [Rel] at r; subst r
    have e1 : backTo pos (starEach [e₁, e₂] c.env) = [(false, eval e₁ c.env), (false, eval e₂ c.env)] := by rw [hst]; rfl
    refine callWith_of (P := fun _ => True) (by rw [e1]; rfl) (fun h _ => ⟨.machine, .inr (.inl rfl), Looks.of_pure rfl⟩) ?_
    rw [e1]
    refine evalArgs_plain (Calls.spliced_cons (wpAny_mono (k s₁ I₁) (fun y s₂ ⟨st', w, σ₂, I₂, r', i, e2, k⟩ => Calls.spliced_cons (wpAny_mono (k s₂ I₂) (fun z s₃ ⟨st'', u, σ₃, I₃, r'', j, e3, q⟩ => Calls.spliced_nil ⟨trivial, ?_⟩) fun _ _ z => z)) fun _ _ z => z))
    subst e2; simp only [Rel] at r'; obtain ⟨t, rfl⟩ := r'
    subst e3; simp only [Rel] at r''; obtain ⟨t', rfl⟩ := r''
    refine call_range_2 ?_
    have := rangeStep I₃ { cls := .type "range", data := .fields #[.int i t, .int j t', .int 1 s₃.toks] } (s₃.toks + 1)
    exact ⟨((st.trans st').trans st'').trans this.1, i, j, 1, σ₃, this.2, ⟨_, _, _, _, rfl, IsRange.new _ _ _ _ _ _ _⟩, q⟩) fun _ _ z => z) he
end
def namesOf (fd : FuncData) : List Str := fd.params.args.map (·.arg)
def bodyOf (fd : FuncData) : List Stmt := match fd.body with
  | .stmts b => b
  | _ => []
structure FnOK (K : Frag) (f : Addr) (fd : FuncData) : Prop where
  look : ∃ oc od osl, K.lookup f = some ⟨oc, od, .func fd, osl⟩
  code : codeIn K fd.code fd.qualname = true
  body : fd.body = .stmts (bodyOf fd)
  bind : ∀ xs : List Value, xs.length = (namesOf fd).length → bindArgs fd ⟨xs, []⟩ = pure ((namesOf fd).zip xs)
  cell : (fd.scope.names.all fun x => decide (x.2 ≠ .cell)) = true
  loc : ((namesOf fd).all fun x => decide (fd.scope.names.lookup x = some .local)) = true
  co : fd.scope.isCoroutine = false
  gen : fd.scope.isGenerator = false
  kind : fd.scope.kind = .function
  gl : fd.globals = mainGlobals
  bi : fd.builtins = builtinsNs

theorem Spec.fn {B : Base} {f : Addr} {n : Nat} {vs : List V} {σ : Sg} {Q : V → Sg → Prop} {fd : FuncData} (F : FnOK B.K f fd) (hl : vs.length = (namesOf fd).length)
    (hh : ∀ A gs L, Room A n → σ L = none → WSS ⟨B, A, gs, callEnv fd L f⟩ (bodyOf fd) (rho0 (namesOf fd) vs) σ fun fl _ σ' => Q fl.val σ') : Spec B (.ref f) (n + 1) vs σ Q := by
  obtain ⟨oc, od, osl, hK⟩ := F.look
  refine Spec.def (extra := []) (extraV := []) (names := namesOf fd) hK F.code F.body (fun s xs _ e => .of_eq ?_) (fun _ => by simp [Rels]) (fun x hx => of_decide_eq_true (List.all_eq_true.mp F.cell x hx)) (fun x hx => of_decide_eq_true (List.all_eq_true.mp F.loc x hx)) F.co F.gen F.kind F.gl F.bi ?_
  · rw [List.append_nil]; exact F.bind xs (e.trans hl)
  · intro A gs L r h
    rw [List.append_nil]
    exact hh A gs L r h

theorem FnOK.okc {B : Base} {f : Addr} {fd : FuncData} (F : FnOK B.K f fd) {A : Around} {gs : List (Addr × O)} {L : Addr} {n : Nat} (r : Room A n) : Cx.ok ⟨B, A, gs, callEnv fd L f⟩ := r.ok (c := ⟨B, A, gs, callEnv fd L f⟩) F.kind F.gl F.bi

theorem bind1 {fd : FuncData} (hn : (namesOf fd).length = 1) (h : ∀ a, bindArgs fd ⟨[a], []⟩ = pure ((namesOf fd).zip [a])) : ∀ xs : List Value, xs.length = (namesOf fd).length → bindArgs fd ⟨xs, []⟩ = pure ((namesOf fd).zip xs)
  | [a], _ => h a
  | [], e => by rw [hn] at e; cases e
  | _ :: _ :: _, e => by rw [hn] at e; simp at e
theorem bind0 {fd : FuncData} (hn : (namesOf fd).length = 0) (h : bindArgs fd ⟨[], []⟩ = pure ((namesOf fd).zip [])) : ∀ xs : List Value, xs.length = (namesOf fd).length → bindArgs fd ⟨xs, []⟩ = pure ((namesOf fd).zip xs)
  | [], _ => h
  | _ :: _, e => by rw [hn] at e; simp at e
theorem bind2 {fd : FuncData} (hn : (namesOf fd).length = 2) (h : ∀ a b, bindArgs fd ⟨[a, b], []⟩ = pure ((namesOf fd).zip [a, b])) : ∀ xs : List Value, xs.length = (namesOf fd).length → bindArgs fd ⟨xs, []⟩ = pure ((namesOf fd).zip xs)
  | [a, b], _ => h a b
  | [], e => by rw [hn] at e; cases e
  | [_], e => by rw [hn] at e; simp at e
  | _ :: _ :: _ :: _, e => by rw [hn] at e; simp at e
theorem bind3 {fd : FuncData} (hn : (namesOf fd).length = 3) (h : ∀ a b c, bindArgs fd ⟨[a, b, c], []⟩ = pure ((namesOf fd).zip [a, b, c])) : ∀ xs : List Value, xs.length = (namesOf fd).length → bindArgs fd ⟨xs, []⟩ = pure ((namesOf fd).zip xs)
  | [a, b, c], _ => h a b c
  | [], e => by rw [hn] at e; cases e
  | [_], e => by rw [hn] at e; simp at e
  | [_, _], e => by rw [hn] at e; simp at e
  | _ :: _ :: _ :: _ :: _, e => by rw [hn] at e; simp at e
theorem bind4 {fd : FuncData} (hn : (namesOf fd).length = 4) (h : ∀ a b c d, bindArgs fd ⟨[a, b, c, d], []⟩ = pure ((namesOf fd).zip [a, b, c, d])) : ∀ xs : List Value, xs.length = (namesOf fd).length → bindArgs fd ⟨xs, []⟩ = pure ((namesOf fd).zip xs)
  | [a, b, c, d], _ => h a b c d
  | [], e => by rw [hn] at e; cases e
  | [_], e => by rw [hn] at e; simp at e
  | [_, _], e => by rw [hn] at e; simp at e
  | [_, _, _], e => by rw [hn] at e; simp at e
  | _ :: _ :: _ :: _ :: _ :: _, e => by rw [hn] at e; simp at e

section
variable {c : Cx} {ρ : Rho} {σ : Sg}
theorem WE.globI {x : Str} {pos : Pos} {i : Int} {Q : V → Sg → Prop} (ok : c.ok) (hy : ∃ t, nsIn c.B.K mainGlobals x = some (some (.int i t))) (hQ : Q (.int i) σ)
    (hl : c.env.kindOf x = some .globalImplicit := by k_dflt rfl) (hd : (x == ("__debug__" : Str)) = false := by k_dflt decide) : WE c (.Name x pos) ρ σ Q :=
  let ⟨t, h⟩ := hy; .glob ok h (fun _ => by simp [Rel]) hQ hl hd
theorem WE.globR {x : Str} {pos : Pos} {y : Value} {Q : V → Sg → Prop} (ok : c.ok) (hy : nsIn c.B.K mainGlobals x = some (some y)) (hQ : Q (.raw y) σ)
    (hl : c.env.kindOf x = some .globalImplicit := by k_dflt rfl) (hd : (x == ("__debug__" : Str)) = false := by k_dflt decide) : WE c (.Name x pos) ρ σ Q := .glob ok hy (fun _ => by simp [Rel]) hQ hl hd
theorem thenS_next {rest : List Stmt} {Q : QS} (h : WSS c rest ρ σ Q) : thenS c rest Q .next ρ σ := h
theorem thenS_ret {rest : List Stmt} {Q : QS} {v : V} (h : Q (.ret v) ρ σ) : thenS c rest Q (.ret v) ρ σ := h
theorem iteB {p : Prop} [Decidable p] {X Y : Prop} (h1 : p → X) (h2 : ¬ p → Y) : if decide p = true then X else Y := by
  by_cases h : p
  · simp only [h, decide_true, if_true]; exact h1 h
  · simp only [h, decide_false, Bool.false_eq_true, if_false]; exact h2 h
theorem iteNB {p : Prop} [Decidable p] {X Y : Prop} (h1 : ¬ p → X) (h2 : p → Y) : if (!decide p) = true then X else Y := by
  by_cases h : p
  · simp only [h, decide_true, Bool.not_true, Bool.false_eq_true, if_false]; exact h2 h
  · simp only [h, decide_false, Bool.not_false, if_true]; exact h1 h
theorem iteV {b : Bool} {X Y : Prop} (h1 : b = true → X) (h2 : b = false → Y) : if b = true then X else Y := by
  cases b with
  | true => simp only [if_true]; exact h1 rfl
  | false => simp only [Bool.false_eq_true, if_false]; exact h2 rfl
theorem iteT {X Y : Prop} (h : X) : if true = true then X else Y := by simpa using h
theorem iteF {X Y : Prop} (h : Y) : if false = true then X else Y := by simpa using h
end
section
variable {c : Cx} {ρ : Rho} {σ : Sg}
theorem WE.callR {f : Value} {func : Expr} {args : List Expr} {pos : Pos} {Q : V → Sg → Prop} (hf : ∀ Q' : V → Sg → Prop, Q' (.raw f) σ → WE c func ρ σ Q') (hk : keepV c.B.K f = true) (hh : WL c pos args ρ σ fun vs σ₂ => WC c f vs ρ σ₂ Q)
    (hst : starEach args c.env = args.map fun e => (false, eval e c.env) := by k_dflt rfl)
    (he : eval (.Call func args [] pos) c.env = (do callWith pos (← eval func c.env) [] (backTo pos (starEach args c.env)) (backToKw pos (keywordEach [] c.env))) := by k_dflt rfl) : WE c (.Call func args [] pos) ρ σ Q :=
  WE.call (hf _ ⟨f, rfl, hk, hh⟩) hst he
theorem rho0_hit {n : Str} {ns : List Str} {v : V} {vs : List V} (h : n ∉ ns) : rho0 (n :: ns) (v :: vs) n = some v := by
  simp only [rho0, List.zip_cons_cons, List.reverse_cons, List.lookup_append, List.lookup_cons, List.lookup_nil]
  have : (ns.zip vs).reverse.lookup n = none := by
    rw [List.lookup_eq_none_iff]
    intro p hp
    rw [List.mem_reverse] at hp
    have := (List.of_mem_zip (a := p.1) (b := p.2) hp).1
    simp
    rintro rfl
    exact h this
  rw [this]; simp
theorem rho0_miss {n x : Str} {ns : List Str} {v : V} {vs : List V} (h : x ≠ n) : rho0 (n :: ns) (v :: vs) x = rho0 ns vs x := by
  simp only [rho0, List.zip_cons_cons, List.reverse_cons, List.lookup_append, List.lookup_cons, List.lookup_nil]
  have : (x == n) = false := by simpa using h
  rw [this]; simp
def whileQ (Q : QS) (J : Nat → Rho → Sg → Prop) (n : Nat) : QS := fun fl ρ' σ' => match fl with
  | .next | .cont => ∃ m, m < n ∧ J m ρ' σ'
  | .brk => Q .next ρ' σ'
  | .ret v => Q (.ret v) ρ' σ'
theorem WS.loop {Q : QS} {t : Expr} {body orelse : List Stmt} {pos : Pos} (J : Nat → Rho → Sg → Prop) (n : Nat) (h0 : J n ρ σ)
    (turn : ∀ n ρ σ, J n ρ σ → WT c t ρ σ fun b σ₁ => if b then WSS c body ρ σ₁ (whileQ Q J n) else WSS c orelse ρ σ₁ Q) : WS c (.While t body orelse pos) ρ σ Q := WS.whileS J n h0 turn
theorem whileQ_next {Q : QS} {J : Nat → Rho → Sg → Prop} {n : Nat} (m : Nat) (h : m < n) (hJ : J m ρ σ) : whileQ Q J n .next ρ σ := ⟨m, h, hJ⟩
theorem whileQ_ret {Q : QS} {J : Nat → Rho → Sg → Prop} {n : Nat} {v : V} (h : Q (.ret v) ρ σ) : whileQ Q J n (.ret v) ρ σ := h
theorem turnQ_next {Q : QS} {J : Rho → Sg → Prop} (hJ : J ρ σ) : turnQ Q J .next ρ σ := hJ
theorem ne_ob {σ : Sg} {a b : Addr} {o o' : O} (h1 : σ a = some o) (h2 : σ b = some o') (h : o ≠ o') : a ≠ b := by
  rintro rfl; rw [h1] at h2; exact h (Option.some.inj h2)
theorem ne_fr {σ : Sg} {a b : Addr} {o : O} (h1 : σ a = none) (h2 : σ b = some o) : a ≠ b := by
  rintro rfl; rw [h1] at h2; cases h2
theorem ne_fr' {σ : Sg} {a b : Addr} {o : O} (h1 : σ a = some o) (h2 : σ b = none) : a ≠ b := fun e => ne_fr h2 h1 e.symm
theorem upd_at {σ : Sg} {a b : Addr} {o : O} {r : Option O} (h : b ≠ a) (hr : σ b = r) : upd σ a o b = r := (upd_ne _ _ h).trans hr
theorem W2.eqI {a b : Int} {Q : V → Sg → Prop} (hu : c.A.units + 70 < cLine) (hQ : Q (.bool (decide (a = b))) σ) : W2 c (compareOp .Eq) (.int a) (.int b) ρ σ Q := by
  refine W2.eq hu rfl rfl ?_
  have : (@decide (V.int a = V.int b) (Classical.propDecidable _)) = decide (a = b) := by simp
  rw [this]; exact hQ
theorem W2.neI {a b : Int} {Q : V → Sg → Prop} (hu : c.A.units + 70 < cLine) (hQ : Q (.bool (decide (a ≠ b))) σ) : W2 c (compareOp .NotEq) (.int a) (.int b) ρ σ Q := by
  refine W2.ne hu rfl rfl ?_
  have : ∀ i : Decidable (V.int a ≠ V.int b), @decide _ i = decide (a ≠ b) := fun i => by by_cases h : a = b <;> simp [h]
  rw [this]; exact hQ
/-- a cell -/
abbrev Cell := Int × Int
def enc (x : Cell) : V := .tup [.int x.1, .int x.2]
theorem enc_inj {x y : Cell} : enc x = enc y ↔ x = y := by
  constructor
  · intro h; simp only [enc, V.tup.injEq, List.cons.injEq, V.int.injEq, and_true] at h; exact Prod.ext h.1 h.2
  · rintro rfl; rfl
theorem W2.eqC {x y : Cell} {Q : V → Sg → Prop} (hu : c.A.units + 70 < cLine) (hQ : Q (.bool (decide (x = y))) σ) : W2 c (compareOp .Eq) (enc x) (enc y) ρ σ Q := by
  refine W2.eq hu rfl rfl ?_
  have : (@decide (enc x = enc y) (Classical.propDecidable _)) = decide (x = y) := by simp [enc_inj]
  rw [this]; exact hQ
theorem W2.neC {x y : Cell} {Q : V → Sg → Prop} (hu : c.A.units + 70 < cLine) (hQ : Q (.bool (decide (x ≠ y))) σ) : W2 c (compareOp .NotEq) (enc x) (enc y) ρ σ Q := by
  refine W2.ne hu rfl rfl ?_
  have : ∀ i : Decidable (enc x ≠ enc y), @decide _ i = decide (x ≠ y) := fun i => by by_cases h : x = y <;> simp [h, enc_inj]
  rw [this]; exact hQ
theorem WSub.cell0 {x : Cell} {Q : V → Sg → Prop} (hQ : Q (.int x.1) σ) : WSub c (enc x) (.int 0) ρ σ Q := WSub.tup (by decide) (by decide) rfl hQ
theorem WSub.cell1 {x : Cell} {Q : V → Sg → Prop} (hQ : Q (.int x.2) σ) : WSub c (enc x) (.int 1) ρ σ Q := WSub.tup (by decide) (by decide) rfl hQ
theorem WSub.cells {a : Addr} {H : List Cell} {k : Int} {x : Cell} {Q : V → Sg → Prop} (h1 : σ a = some (.list (H.map enc))) (h0 : 0 ≤ k) (hu : H[k.toNat]? = some x) (hz : H.length ≤ 1000000) (hQ : Q (enc x) σ) : WSub c (.ref a) (.int k) ρ σ Q :=
  WSub.list h1 h0 (by have := (List.getElem?_eq_some_iff.mp hu).1; lia) (by simp [hu]) hQ
theorem units_of {A : Around} {n : Nat} (r : Room A n) : A.units + 70 < cLine := by have := r.units; lia
structure MethOK (K : Frag) (C : Addr) (name : Str) (f : Addr) : Prop where
  get : plainGet K C name = true
  find : findIn K (.ref C) name = some (some (.ref f))
  isf : isFn K (.ref f) = true
  keep : keepV K (.ref f) = true
theorem WMeth.instM {name : Str} {a C d f : Addr} {fs : List (Str × V)} {Q : Value → Prop} (h1 : σ a = some (.inst C d)) (h2 : σ d = some (.sdict fs)) (M : MethOK c.B.K C name f) (hn : dget fs name = none) (hQ : Q (.ref f)) : WMeth c name (.ref a) ρ σ Q :=
  WMeth.inst h1 h2 M.get M.find M.isf M.keep hn hQ
theorem dput_nil {K : Type} [DecidableEq K] {k : K} {v : V} : dput ([] : List (K × V)) k v = [(k, v)] := rfl
theorem dput_miss {K : Type} [DecidableEq K] {k k' : K} {v w : V} {l l' : List (K × V)} (h : k' ≠ k) (hl : dput l k v = l') : dput ((k', w) :: l) k v = (k', w) :: l' := by
  subst hl
  unfold dput
  simp only [List.any_cons, h, decide_false, Bool.false_or]
  split <;> simp [h]
theorem W2u.setAttr' {a C d : Addr} {fs fs' : List (Str × V)} {attr : Str} {u : V} {Q : Sg → Prop} (h1 : σ a = some (.inst C d)) (h2 : σ d = some (.sdict fs)) (hf : setOK c.B.K C attr = true) (hz : fs.length ≤ 1000) (hp : dput fs attr u = fs')
    (hQ : Q (upd σ d (.sdict fs'))) : W2u c (fun x y => PySem.setAttr x attr y) (.ref a) u ρ σ Q := W2u.setAttr h1 h2 hf hz (hp ▸ hQ)
theorem fr_upd {σ : Sg} {a b : Addr} {o : O} (h : upd σ a o b = none) : b ≠ a ∧ σ b = none := by
  have : b ≠ a := by rintro rfl; rw [upd_same] at h; cases h
  rw [upd_ne _ _ this] at h; exact ⟨this, h⟩
theorem WC.specA {B : Base} {A : Around} {gs : List (Addr × O)} {env : Env} {f : Value} {n m : Nat} {vs : List V} {Q : V → Sg → Prop} (r : Room A n) (sp : Spec B f m vs σ Q) (h : m ≤ n := by omega) : WC ⟨B, A, gs, env⟩ f vs ρ σ Q := WC.spec r (sp.more h)
theorem isInt {i : Int} {P : Int → Prop} (h : P i) : ∃ j, V.int i = .int j ∧ P j := ⟨i, rfl, h⟩
theorem upd_self {σ : Sg} {a : Addr} {o : O} (h : σ a = some o) : upd σ a o = σ := by
  funext b; by_cases e : b = a
  · subst e; simp [upd, h]
  · simp [upd, e]
/-- all but ex kept -/
def Kp (ex : List Addr) (σ σ' : Sg) : Prop := ∀ b o, σ b = some o → b ∉ ex → σ' b = some o
theorem Kp.refl (ex : List Addr) (σ : Sg) : Kp ex σ σ := fun _ _ h _ => h
theorem Kp.upd {ex : List Addr} {σ σ' : Sg} {a : Addr} {o : O} (k : Kp ex σ σ') (h : a ∈ ex ∨ σ a = none) : Kp ex σ (upd σ' a o) := fun b o' hb hx => by
  have : b ≠ a := by
    rintro rfl
    rcases h with h | h
    · exact hx h
    · rw [h] at hb; cases hb
  rw [upd_ne _ _ this]; exact k b o' hb hx
theorem Kp.trans {ex : List Addr} {σ σ' σ'' : Sg} (k : Kp ex σ σ') (k' : Kp ex σ' σ'') : Kp ex σ σ'' := fun b o h hx => k' b o (k b o h hx) hx
theorem Kp.weak {ex ex' : List Addr} {σ σ' : Sg} (k : Kp ex σ σ') (h : ∀ x ∈ ex, x ∈ ex') : Kp ex' σ σ' := fun b o hb hx => k b o hb fun q => hx (h b q)
def selfs (n k : Nat) : List Cell := (List.range k).map fun i => ((0 : Int), ((n + i : Nat) : Int))
theorem selfs_length (n k : Nat) : (selfs n k).length = k := by simp [selfs]
theorem selfs_succ (n k : Nat) : selfs n (k + 1) = selfs n k ++ [((0 : Int), ((n + k : Nat) : Int))] := by simp [selfs, List.range_succ]
theorem isBool {b : Bool} {P : Bool → Prop} (h : P b) : ∃ b', V.bool b = .bool b' ∧ P b' := ⟨b, rfl, h⟩
theorem WE.loc1 {x : Str} {pos : Pos} {v : V} {Q : V → Sg → Prop} (hl : c.env.kindOf x = some .local) (ok : c.ok) (hv : ρ x = some v) (hQ : Q v σ)
    (hd : (x == ("__debug__" : Str)) = false := by k_dflt decide) : WE c (.Name x pos) ρ σ Q := WE.loc ok hv hQ hl hd
theorem dget_nil {K : Type} [DecidableEq K] {k : K} : dget ([] : List (K × V)) k = none := rfl
theorem dget_hit {K : Type} [DecidableEq K] {k : K} {v : V} {l : List (K × V)} : dget ((k, v) :: l) k = some v := by simp [dget]
theorem dget_miss {K : Type} [DecidableEq K] {k k' : K} {v : V} {l : List (K × V)} (h : k' ≠ k) : dget ((k', v) :: l) k = dget l k := by simp [dget, h]
end
theorem updR_skip {ρ : Rho} {x y : Str} {v : V} {r : Option V} (h : y ≠ x) (hr : ρ y = r) : updR ρ x v y = r := (updR_ne ρ v h).trans hr
theorem rho0_skip {n x : Str} {ns : List Str} {v : V} {vs : List V} {r : Option V} (h : x ≠ n) (hr : rho0 ns vs x = r) : rho0 (n :: ns) (v :: vs) x = r := (rho0_miss h).trans hr
theorem dget_skip {K : Type} [DecidableEq K] {k k' : K} {v : V} {l : List (K × V)} {r : Option V} (h : k' ≠ k) (hr : dget l k = r) : dget ((k', v) :: l) k = r := (dget_miss h).trans hr
theorem okL {v : V} {B C : Prop} (h : C) : (v = v ∨ B) ∧ C := ⟨.inl rfl, h⟩
theorem okR {i : Int} {A C : Prop} (h : C) : (A ∨ ∃ j, V.int i = .int j) ∧ C := ⟨.inr ⟨_, rfl⟩, h⟩
theorem le_and {n : Nat} {C : Prop} (a : n ≤ 1000000) (h : C) : n ≤ 1000000 ∧ C := ⟨a, h⟩
theorem raw_and {x : Value} {C : Prop} (h : C) : V.raw x = V.raw x ∧ C := ⟨rfl, h⟩
section
variable {B : Base} {gs : List (Addr × O)} {σ : Sg} {s : Shared} {a : Addr} {o : O}
theorem Inv.perm {gs' : List (Addr × O)} (I : Inv B gs σ s) (h : gs.Perm gs') : Inv B gs' σ s :=
  ⟨I.base, I.size, I.objs, fun p hp => I.hid p (h.symm.subset hp), (h.map (·.1)).nodup_iff.mp I.nd, I.sh⟩
theorem Inv.add (I : Inv B gs σ s) (r : ORel B.prog B.w s.heap a o) (hb : B.h₀.objs.size ≤ a) (hg : a ∉ gs.map (·.1)) : Inv B gs (upd σ a o) s := by
  refine ⟨I.base, I.size, fun b ob e => ?_, fun p hp => ⟨(I.hid p hp).1, (I.hid p hp).2.1, ?_⟩, I.nd, I.sh⟩
  · by_cases h : b = a
    · subst h; rw [upd_same] at e; cases e; exact ⟨r, hb⟩
    · rw [upd_ne _ _ h] at e; exact I.objs b ob e
  · have h : p.1 ≠ a := by rintro rfl; exact hg (List.mem_map_of_mem hp)
    rw [upd_ne _ _ h]; exact (I.hid p hp).2.2
theorem Inv.unhide (I : Inv B ((a, o) :: gs) σ s) : Inv B gs (upd σ a o) s := by
  have H := I.hid _ (.head _)
  have nd := I.nd
  simp only [List.map_cons, List.nodup_cons] at nd
  exact I.pop.add H.1 H.2.1 nd.1
end

section
variable {c : Cx} {ρ : Rho} {σ : Sg}
/-! ## cells -/
theorem WE.cellv {x : Str} {pos : Pos} {a b : Addr} {Q : V → Sg → Prop} (hl : c.env.kindOf x = some .cell) (ok : c.ok) (hc : c.env.cells.lookup x = some a) (hv : σ a = some (.cell (some b))) (hQ : Q (.ref b) σ)
    (hd : (x == ("__debug__" : Str)) = false := by k_dflt decide) : WE c (.Name x pos) ρ σ Q := fun s I => by
  obtain ⟨o, ho, hd'⟩ := I.obj hv
  exact wpAny_Name (wpAny_loadName_cell ok.fn hl hc ⟨o, ho, hd'⟩ ⟨Stab.refl _, .ref b, σ, I, by simp [Rel], hQ⟩) hd
theorem WA.cellv {x : Str} {pos : Pos} {a b : Addr} {v₀ : Option Addr} {Q : Rho → Sg → Prop} (hl : c.env.kindOf x = some .cell) (ok : c.ok) (hc : c.env.cells.lookup x = some a) (hv : σ a = some (.cell v₀)) (hQ : Q ρ (upd σ a (.cell (some b)))) :
    WA c (.Name x pos) (.ref b) ρ σ Q := fun s y I r => by
  simp only [Rel] at r; subst r
  obtain ⟨o, ho, hd'⟩ := I.obj hv
  refine wpAny_assign_Name (wpAny_storeName_cell ok.fn hl hc ⟨o, ho, hd'⟩ fun h' hc' hs => ?_)
  have st := I.stabMut hv hs.extBut
  exact ⟨st, ρ, _, Inv.mut (s := s) (o' := .cell (some b)) (tk := s.toks) I hv hs.extBut hc', hQ⟩

def updCells (σ : Sg) : List (Str × Addr) → Sg
  | [] => σ
  | p :: cs => upd (updCells σ cs) p.2 (.cell none)
structure FnOKC (K : Frag) (f : Addr) (fd : FuncData) : Prop where
  look : ∃ oc od osl, K.lookup f = some ⟨oc, od, .func fd, osl⟩
  code : codeIn K fd.code fd.qualname = true
  body : fd.body = .stmts (bodyOf fd)
  bind : ∀ xs : List Value, xs.length = (namesOf fd).length → bindArgs fd ⟨xs, []⟩ = pure ((namesOf fd).zip xs)
  clo : fd.closure = []
  cs : ∀ L p, p ∈ cellsFrom L fd.scope.names [] → (cellsFrom L fd.scope.names []).lookup p.1 = some p.2
  loc : ((namesOf fd).all fun x => decide (fd.scope.names.lookup x = some .local)) = true
  co : fd.scope.isCoroutine = false
  gen : fd.scope.isGenerator = false
  kind : fd.scope.kind = .function
  gl : fd.globals = mainGlobals
  bi : fd.builtins = builtinsNs

theorem bindL_local {k : Str → Option NameKind} : ∀ {binds : List (Str × Value)} {m : Str → Option Value}, (∀ p ∈ binds, k p.1 = some .local) → ∀ x, bindL k binds m x = (binds.reverse.lookup x).or (m x)
  | [], m, _, x => by simp [bindL]
  | (n, v) :: r, m, h, x => by
    unfold bindL
    rw [if_pos (h (n, v) (.head _)), bindL_local fun p hp => h p (.tail _ hp)]
    simp only [List.reverse_cons, List.lookup_append, List.lookup_cons, List.lookup_nil]
    cases (r.reverse.lookup x) with
    | some _ => rfl
    | none =>
      by_cases e : x = n
      · subst e; simp
      · have : (x == n) = false := by simpa using e
        simp [e, this]
theorem bindC_local {k : Str → Option NameKind} : ∀ {binds : List (Str × Value)} {m : Str → Option Value}, (∀ p ∈ binds, k p.1 = some .local) → bindC k binds m = m
  | [], m, _ => rfl
  | (n, v) :: r, m, h => by unfold bindC; rw [if_pos (h (n, v) (.head _)), bindC_local fun p hp => h p (.tail _ hp)]

theorem Inv.cells {B : Base} {gs : List (Addr × O)} {σ : Sg} {s : Shared} : ∀ {cs : List (Str × Addr)}, Inv B gs σ s → (∀ p ∈ cs, s.heap.IsCell p.2 none ∧ B.h₀.objs.size ≤ p.2 ∧ p.2 ∉ gs.map (·.1)) → Inv B gs (updCells σ cs) s
  | [], I, _ => I
  | p :: cs, I, h => by
    unfold updCells
    exact (Inv.cells I fun q hq => h q (.tail _ hq)).add (o := .cell none) (h p (.head _)).1 (h p (.head _)).2.1 (h p (.head _)).2.2

theorem Spec.fnC {B : Base} {f : Addr} {n : Nat} {vs : List V} {σ : Sg} {Q : V → Sg → Prop} {fd : FuncData} (F : FnOKC B.K f fd) (hl : vs.length = (namesOf fd).length)
    (hh : ∀ A gs L, Room A n → σ L = none → (∀ b, L ≤ b → σ b = none) → WSS ⟨B, A, gs, callEnvC fd L f⟩ (bodyOf fd) (rho0 (namesOf fd) vs) (updCells σ (cellsFrom (L + 1) fd.scope.names [])) fun fl _ σ' => Q fl.val σ') : Spec B (.ref f) (n + 1) vs σ Q := fun A gs s xs r I rs => by
  obtain ⟨oc, od, osl, hK⟩ := F.look
  have hlen : xs.length = vs.length := rs.length.symm
  have hloc : ∀ x ∈ (namesOf fd).zip xs, fd.scope.names.lookup x.1 = some .local := fun x hx => of_decide_eq_true (List.all_eq_true.mp F.loc x.1 (List.of_mem_zip hx).1)
  have hd : A.depth < recursionLimit := Nat.lt_of_le_of_lt (Nat.le_add_right _ _) r.depth
  refine codeAny_call_cells (fd := fd) (body := bodyOf fd) (binds := (namesOf fd).zip xs) hd (I.X _ _ hK) rfl (I.T.nolimit) (codeRec_of I.X F.code) F.body (F.bind xs (hlen.trans hl)) F.clo (fun x hx => .inl (hloc x hx)) ?_ F.co F.gen F.kind
  intro s₁ x
  have hk : ∀ p ∈ (namesOf fd).zip xs, (callEnvC fd s.heap.objs.size f).kindOf p.1 = some .local := hloc
  rw [bindC_local hk] at x
  obtain ⟨h₁, tk, e1⟩ := x.toInCall.same
  have kp := x.toInCall.keep
  have st := stab_of_keep kp
  have hns := x.toInCall.ns
  have rs' : Rels s₁.heap vs xs := rs.stab st
  subst e1
  have I' : Inv B ((s.heap.objs.size, .frame (rho0 (namesOf fd) vs)) :: gs) σ { s with heap := h₁, toks := tk } := by
    refine Inv.push I (Nat.le_refl _) kp ⟨_, hns, fun y v e => ?_⟩
    obtain ⟨z, e1, e2⟩ := rho0_rel rs' y v e
    exact ⟨z, by rw [bindL_local hk, e1]; rfl, e2⟩
  have I'' := Inv.cells (cs := cellsFrom (s.heap.objs.size + 1) fd.scope.names []) I' (by
    intro p hp
    have hlt : s.heap.objs.size < p.2 := x.above p.1 p.2 hp
    have hcell : h₁.IsCell p.2 none := x.cell p.1 p.2 (F.cs _ p hp)
    refine ⟨hcell, Nat.le_trans I.size (Nat.le_of_lt hlt), fun q => ?_⟩
    simp only [List.map_cons, List.mem_cons] at q
    rcases q with q | q
    · exact Nat.ne_of_gt hlt q
    · obtain ⟨g, hg, e⟩ := List.mem_map.mp q
      have := (I.hid g hg).1.lt
      rw [e] at this
      exact absurd (Nat.lt_trans hlt this) (Nat.lt_irrefl _))
  refine wpAny_mono (hh (A.deeper (callEnvC fd s.heap.objs.size f)) gs s.heap.objs.size (r.deeper _) (I.fresh (Nat.le_refl _)) (fun b hb => I.fresh hb) _ I'') (fun fl s' ⟨st', fv, ρ', σ', I'', rf, q⟩ => ?_) fun _ _ z => z.elim
  refine ⟨st.trans st', _, fv.val, σ', rfl, I''.pop, ?_, q⟩
  cases fv with
  | next => simp only [RelF] at rf; subst rf; simp [Fl.val, Rel]
  | brk => simp only [RelF] at rf; subst rf; simp [Fl.val, Rel]
  | cont => simp only [RelF] at rf; subst rf; simp [Fl.val, Rel]
  | ret v => simp only [RelF] at rf; obtain ⟨x, rfl, rx⟩ := rf; exact rx
end
section
variable {c : Cx} {ρ : Rho} {σ : Sg} {s : Shared}
theorem updR_one (x : Str) (v w : V) : updR (updR (fun _ => none) x v) x w = updR (fun _ => none) x w := by
  funext y; by_cases h : y = x <;> simp [updR, h]

/-- the block of a list comprehension over a list -/
theorem compCore {elt iter : Expr} {x : Str} {px pos : Pos} {scope : Scope} {cl : List (Str × Addr)} {l it acc C : Addr} {vs : List V} {ρC : Rho} {h : Heap} {R : Result → Shared → Prop} (ok : c.ok) (hk : scope.kind = .function)
    (hx : scope.names.lookup x = some .local) (hz : vs.length ≤ 1000000) (J : Nat → List V → Sg → Prop) (h0 : J 0 [] σ) (hT : ∀ i out σ, J i out σ → σ l = some (.list vs))
    (turn : ∀ gs i v out σ, i < vs.length → vs[i]? = some v → out.length = i → J i out σ → WE ⟨c.B, c.A, gs, compEnvC scope cl C c.env⟩ elt (updR (fun _ => none) x v) σ fun u σ' => J (i + 1) (out ++ [u]) σ')
    (hρ : ρC = fun _ => none) (st : Stab h s.heap) (I : Inv c.B ((C, .frame ρC) :: (acc, .list []) :: (it, .pred (obList l 0)) :: (c.env.locals, .frame ρ) :: c.gs) σ s)
    (fin : ∀ out σ' ρC s', out.length = vs.length → J vs.length out σ' → Stab h s'.heap → Inv c.B ((C, .frame ρC) :: (acc, .list out) :: (c.env.locals, .frame ρ) :: c.gs) σ' s' → R (.ok .next) s') :
    codeAny (model c.B.prog c.B.w) c.A (.compLoop (.ListComp elt [⟨.Name x px, iter, [], 0⟩] scope pos) 0 (.ref it) (.ref acc) (compEnvC scope cl C c.env)) R s := by
  have kind : ∀ gs, Cx.ok ⟨c.B, c.A, gs, compEnvC scope cl C c.env⟩ := fun gs => ⟨by show (relabel scope c.env).kind = _; exact hk, ok.gl, ok.bi, ok.handled, ok.units⟩
  refine codeAny_compLoop_list (fun k s' => Stab h s'.heap ∧ ∃ i out σ ρC, k = vs.length - i ∧ i ≤ vs.length ∧ out.length = i ∧ J i out σ ∧ (ρC = (fun _ => none) ∨ ∃ v, ρC = updR (fun _ => none) x v) ∧
    Inv c.B ((C, .frame ρC) :: (acc, .list out) :: (it, .pred (obList l i)) :: (c.env.locals, .frame ρ) :: c.gs) σ s') ?_ vs.length ⟨st, 0, [], σ, ρC, rfl, Nat.zero_le _, rfl, h0, .inl hρ, I⟩
  clear I st h0 hρ
  rintro k s ⟨st, i, out, σ, ρC, rfl, hi, ho, hJ, hρ, I⟩
  have p1 : (((C, O.frame ρC) :: (acc, .list out) :: (it, .pred (obList l i)) :: (c.env.locals, .frame ρ) :: c.gs).Perm ((it, .pred (obList l i)) :: (C, .frame ρC) :: (acc, .list out) :: (c.env.locals, .frame ρ) :: c.gs)) :=
    ((List.Perm.swap _ _ _).cons _).trans (List.Perm.swap _ _ _)
  have S := Source.list (c := ⟨c.B, c.A, (acc, .list out) :: (c.env.locals, .frame ρ) :: c.gs, compEnvC scope cl C c.env⟩) (kind _) l vs it
  by_cases hlt : i < vs.length
  · refine wpAny_mono (S.next i s ρC σ (fun r s₁ => ∃ y v, r = some y ∧ vs[i]? = some v ∧ Rel s₁.heap v y ∧ Stab s.heap s₁.heap ∧ Inv c.B ((it, .pred (obList l (i + 1))) :: (C, .frame ρC) :: (acc, .list out) :: (c.env.locals, .frame ρ) :: c.gs) σ s₁) hlt (hT _ _ _ hJ) (I.perm p1)
      fun y v s₁ hv rx st₁ I₁ => ⟨y, v, rfl, hv, rx, st₁, I₁⟩) (fun r s₁ hr => ?_) fun _ _ z => z.elim
    obtain ⟨y, v, rfl, hv, ry, st₁, I₁⟩ := hr
    dsimp only
    have I₁' : Cx.st ⟨c.B, c.A, (it, .pred (obList l (i + 1))) :: (acc, .list out) :: (c.env.locals, .frame ρ) :: c.gs, compEnvC scope cl C c.env⟩ ρC σ s₁ := I₁.swap
    refine wpAny_mono (WA.name (c := ⟨c.B, c.A, (it, .pred (obList l (i + 1))) :: (acc, .list out) :: (c.env.locals, .frame ρ) :: c.gs, compEnvC scope cl C c.env⟩) (x := x) (pos := px) (v := v) (Q := fun ρ' σ' => ρ' = updR ρC x v ∧ σ' = σ) (kind _) ⟨rfl, rfl⟩ (lookup_relabel_local hx) s₁ y I₁' ry) (fun _ s₂ ⟨st₂, ρ₂, σ₂, I₂, e1, e2⟩ => ?_) fun _ _ z => z.elim
    subst e1; subst e2
    have eρ : updR ρC x v = updR (fun _ => none) x v := by
      rcases hρ with rfl | ⟨w, rfl⟩
      · rfl
      · exact updR_one x w v
    rw [eρ] at I₂
    refine wpAny_mono (turn ((it, .pred (obList l (i + 1))) :: (acc, .list out) :: (c.env.locals, .frame ρ) :: c.gs) i v out σ₂ hlt hv ho hJ s₂ I₂) (fun z s₃ ⟨st₃, u, σ₃, I₃, rz, q⟩ => ?_) fun _ _ z => z.elim
    have p2 : (((C, O.frame (updR (fun _ => none) x v)) :: (it, .pred (obList l (i + 1))) :: (acc, .list out) :: (c.env.locals, .frame ρ) :: c.gs).Perm ((acc, .list out) :: (C, .frame (updR (fun _ => none) x v)) :: (it, .pred (obList l (i + 1))) :: (c.env.locals, .frame ρ) :: c.gs)) :=
      ((List.Perm.swap _ _ _).cons _).trans (List.Perm.swap _ _ _)
    have I₃' := Inv.perm I₃ p2
    obtain ⟨ys, n, hl, rs⟩ := (I₃'.hid _ (.head _)).1
    have e := rs.length
    have hl' : s₃.heap.get? acc = some (W.listOf ys.toArray n) := hl
    refine append_at (its := ys.toArray) (n := n) hl' (fun h' hs hD => ?_) (by rw [List.size_toArray, ← e, sizeLine_eq]; lia)
    have st₄ : Stab s₃.heap h' := stab_of_ext (I₃'.hid _ (.head _)).1 hs.extBut
    have I₄ := Inv.mutHid (o' := .list (out ++ [u])) (tk := s₃.toks) I₃' hs.extBut ⟨ys ++ [z], n + 1, by unfold IsL; rw [hD]; simp, (rs.stab st₄).append (Rels.one (rz.stab st₄))⟩
    exact ⟨vs.length - (i + 1), by lia, ((st.trans st₁).trans (st₂.trans st₃)).trans st₄, i + 1, out ++ [u], σ₃, _, rfl, hlt, by simp [ho], q, .inr ⟨v, rfl⟩, Inv.swap I₄⟩
  · have e : i = vs.length := by lia
    subst e
    refine wpAny_mono (S.done s ρC σ (fun r s₁ => r = none ∧ Stab s.heap s₁.heap ∧ Inv c.B ((C, .frame ρC) :: (acc, .list out) :: (c.env.locals, .frame ρ) :: c.gs) σ s₁) (hT _ _ _ hJ) (I.perm p1) fun s₁ st₁ I₁ => ⟨rfl, st₁, I₁⟩) (fun r s₁ hr => ?_) fun _ _ z => z.elim
    obtain ⟨rfl, st₁, I₁⟩ := hr
    exact fin out σ ρC s₁ ho hJ (st.trans st₁) I₁

/-- the list's iterator, the list and the frame of a comprehension laid -/
theorem compLay {elt iter : Expr} {x : Str} {px pos : Pos} {scope : Scope} {cl : List (Str × Addr)} {l : Addr} {vs : List V} {h : Heap} {R : Value → Addr → Result → Shared → Prop} (ok : c.ok) (hk : scope.kind = .function)
    (hcell : ∀ y ∈ scope.names, y.2 ≠ .cell) (hx : scope.names.lookup x = some .local) (hz : vs.length ≤ 1000000) (hl : σ l = some (.list vs)) (J : Nat → List V → Sg → Prop) (h0 : J 0 [] σ) (hT : ∀ i out σ, J i out σ → σ l = some (.list vs))
    (turn : ∀ C gs i v out σ, i < vs.length → vs[i]? = some v → out.length = i → J i out σ → WE ⟨c.B, c.A, gs, compEnvC scope cl C c.env⟩ elt (updR (fun _ => none) x v) σ fun u σ' => J (i + 1) (out ++ [u]) σ')
    (st : Stab h s.heap) (I : c.st ρ σ s)
    (fin : ∀ C acc out σ' ρC s', out.length = vs.length → J vs.length out σ' → Stab h s'.heap → Inv c.B ((C, .frame ρC) :: (acc, .list out) :: (c.env.locals, .frame ρ) :: c.gs) σ' s' → R (.ref acc) C (.ok .next) s') {E : Value → Shared → Prop} :
    wpAny (model c.B.prog c.B.w) c.A (pyIter (.ref l)) (fun it s₂ => wpAny (model c.B.prog c.B.w) c.A (newList []) (fun acc s₃ =>
      wpAny (model c.B.prog c.B.w) c.A (newFunctionEnv scope c.env.globals cl [] c.env.qual none .none (some c.env)) (fun cenv s₄ =>
        codeAny (model c.B.prog c.B.w) c.A (.compStart (.ListComp elt [⟨.Name x px, iter, [], 0⟩] scope pos) 0 it acc { cenv with scope := relabel scope c.env }) (R acc cenv.locals) s₄) E s₃) E s₂) E s := by
  obtain ⟨xs, n, ho, rs⟩ := I.obj hl
  refine wpAny_pyIter_list ho.isList ?_
  have k1 : ∀ b o, s.heap.get? b = some o → (s.heap.push { cls := .type "list_iterator", data := .fields #[.ref l, .int 0 0] }).get? b = some o := fun b o e => Heap.get?_push_of_some _ e
  have I1 := Inv.push (tk := s.toks) (o := .pred (obList l 0)) I (Nat.le_refl _) k1 ⟨_, Heap.get?_push_size _ rfl, ⟨rfl, rfl⟩, by simp⟩
  generalize hs1 : ({ s with heap := s.heap.push { cls := .type "list_iterator", data := .fields #[.ref l, .int 0 0] } } : Shared) = s1
  have I1 : Inv c.B ((s.heap.objs.size, .pred (obList l 0)) :: (c.env.locals, .frame ρ) :: c.gs) σ s1 := hs1 ▸ I1
  have st1 : Stab s.heap s1.heap := by rw [← hs1]; exact stab_of_keep k1
  have hit : s1.heap.IsListIter s.heap.objs.size l 0 := by rw [← hs1]; exact ⟨_, Heap.get?_push_size _ rfl, rfl, rfl⟩
  clear hs1 k1
  refine wpAny_newObj_type ?_
  have k2 : ∀ b o, s1.heap.get? b = some o → (s1.heap.push { cls := .type "list", dict := none, data := .seq ([] : List Value).toArray }).get? b = some o := fun b o e => Heap.get?_push_of_some _ e
  have I2 := Inv.push (tk := s1.toks) (o := .list []) I1 (Nat.le_refl _) k2 ⟨[], 0, IsL.new _ _, by simp [Rels]⟩
  generalize hs2 : ({ s1 with heap := s1.heap.push { cls := .type "list", dict := none, data := .seq ([] : List Value).toArray } } : Shared) = s2
  have I2 : Inv c.B ((s1.heap.objs.size, .list []) :: (s.heap.objs.size, .pred (obList l 0)) :: (c.env.locals, .frame ρ) :: c.gs) σ s2 := hs2 ▸ I2
  have st2 : Stab s1.heap s2.heap := by rw [← hs2]; exact stab_of_keep k2
  have hit2 : s2.heap.IsListIter s.heap.objs.size l 0 := by
    obtain ⟨o, a1, a2, a3⟩ := hit
    exact ⟨o, by rw [← hs2]; exact k2 _ _ a1, a2, a3⟩
  clear hs2 k2
  refine wpAny_newFunctionEnv hcell (by intro y hy; simp at hy) (fun h₁ hns₁ hsb₁ => ?_) hk
  have k3 : ∀ b o, s2.heap.get? b = some o → h₁.get? b = some o := fun b o e => hsb₁.extBut b o (Nat.ne_of_lt (Heap.lt_size e)) (Heap.get?_push_of_some _ e)
  have I3 := Inv.push (tk := s2.toks + ([] : List (Str × Value)).length) (o := .frame (fun _ => none)) I2 (Nat.le_refl _) k3 ⟨_, hns₁, fun y v e => by cases e⟩
  have st3 : Stab s2.heap h₁ := stab_of_keep k3
  have hit3 : h₁.IsListIter s.heap.objs.size l 0 := by
    obtain ⟨o, a1, a2, a3⟩ := hit2
    exact ⟨o, k3 _ _ a1, a2, a3⟩
  have loop := compCore (c := c) (elt := elt) (iter := iter) (px := px) (pos := pos) (cl := cl) (R := R (.ref s1.heap.objs.size) s2.heap.objs.size) ok hk hx hz J h0 hT (turn s2.heap.objs.size) rfl ((st.trans st1).trans (st2.trans st3)) I3 (fun out σ' ρC s' a b c d => fin _ _ out σ' ρC s' a b c d)
  exact codeAny_compStart_list loop (wpAny_pyIter_listiter hit3 loop)

theorem WE.comp {elt iter : Expr} {x : Str} {px pos : Pos} {scope : Scope} {cl : List (Str × Addr)} {Q : V → Sg → Prop} (ok : c.ok) (hclos : closureFor scope c.env = pure cl) (hcell : ∀ y ∈ scope.names, y.2 ≠ .cell) (hk : scope.kind = .function)
    (hnames : ∀ y ∈ scope.names, y.2 = .local → scope.names.lookup y.1 = some .local) (hx : scope.names.lookup x = some .local)
    (hh : WE c iter ρ σ fun v σ₁ => ∃ l vs, v = .ref l ∧ σ₁ l = some (.list vs) ∧ vs.length ≤ 1000000 ∧ ∃ J : Nat → List V → Sg → Prop, J 0 [] σ₁ ∧ (∀ i out σ, J i out σ → σ l = some (.list vs)) ∧
      (∀ C gs i v out σ, i < vs.length → vs[i]? = some v → out.length = i → J i out σ → WE ⟨c.B, c.A, gs, compEnvC scope cl C c.env⟩ elt (updR (fun _ => none) x v) σ fun u σ' => J (i + 1) (out ++ [u]) σ') ∧
      ∀ out σ', out.length = vs.length → J vs.length out σ' → ∀ a, σ' a = none → Q (.ref a) (upd σ' a (.list out)))
    (hs : ∀ x, foldedSetIterable iter c.env x = pure x := by k_dflt (intro _; rfl)) : WE c (.ListComp elt [⟨.Name x px, iter, [], 0⟩] scope pos) ρ σ Q := fun s I => by
  rw [eval_ListComp]
  refine wpAny_comprehension_free (use := none) rfl hs hclos hk hnames (wpAny_mono (hh s I) (fun xv s₁ ⟨st, v, σ₁, I₁, r, l, vs, e, hl, hz, J, h0, hT, turn, fin⟩ => ?_) fun _ _ z => z)
  subst e; simp only [Rel] at r; subst r
  refine compLay (R := fun acc C => compPost (model c.B.prog c.B.w) c.A NoE none (PostE c ρ s.heap Q) acc C) ok hk hcell hx hz hl J h0 hT turn st I₁ ?_
  intro C acc out σ' ρC s' ho hJ st' I'
  obtain ⟨m, hn, _⟩ := (I'.hid _ (.head _)).1
  refine ⟨m, hn, fun h' hs' => ?_⟩
  have st'' : Stab s'.heap h' := stab_of_ext (I'.hid _ (.head _)).1 hs'.extBut
  have I'' := Inv.dropHid (tk := s'.toks) I' hs'.extBut
  exact ⟨st'.trans st'', .ref acc, _, Inv.unhide I'', by simp [Rel], fin out σ' ho hJ acc (I''.hid _ (.head _)).2.2⟩

end
theorem plain_contains_iter : plainId "proto.contains_iter" = true := by decide +kernel
theorem entry_contains_iter : entryFor table "proto.contains_iter" = some Builtin.«proto.contains_iter» := entryFor_of_fast (by kernel_rfl)
theorem values_no_contains : typeLookup (.type "dict_values") "__contains__" = pure none := by rw [typeLookup_type, builtinLookup_eq_fast]; kernel_rfl

section
variable {prog : Program} {w : World} {A : Around}
open Classical in
theorem contains_loop {R : Result → Shared → Prop} {it d : Addr} {kvs : List (Int × Value)} {l : List (Int × V)} {ep : Nat} {x : Value} {v : V} {s₀ : Shared} (hA : A.handled = none) (hu : A.in1.units + 64 < cLine) (p : v.plain 60 = true) (hp : ∀ q ∈ l, q.2.plain 60 = true)
    (hR : ∀ h', (∀ b o, s₀.heap.get? b = some o → h'.get? b = some o) → R (.ok (.ret (.bool (decide (v ∈ l.map (·.2)))))) { s₀ with heap := h' }) (hlt : s₀.heap.objs.size ≤ it) (hm₀ : s₀.heap.DictAt (intKind prog w) d kvs ep)
    (rs₀ : All2 (fun p q => p.1 = q.1 ∧ Rel s₀.heap p.2 q.2) l kvs) (rx₀ : Rel s₀.heap v x) :
    ∀ (k i : Nat) (h : Heap), kvs.length - i = k → i ≤ kvs.length → (∀ b o, s₀.heap.get? b = some o → h.get? b = some o) → h.IsValIter it d i kvs.length ep → (∀ q ∈ l.take i, v ≠ q.2) →
      codeAny (model prog w) A (.builtin "proto.contains_iter" ⟨[.ref it, x], []⟩) R { s₀ with heap := h } := by
  have hat : ∀ {h : Heap}, (∀ b o, s₀.heap.get? b = some o → h.get? b = some o) → h.DictAt (intKind prog w) d kvs ep := fun keep => by
    obtain ⟨o, es, ho, r⟩ := hm₀
    exact ⟨o, es, keep _ _ ho, r⟩
  intro k
  induction k with
  | zero =>
    intro i h hk hi keep hit hno
    have hin : i = kvs.length := by lia
    have hl := rs₀.length
    refine codeAny_builtin entry_contains_iter ?_
    rw [Around.under_plainId plain_contains_iter _]
    show wpAny _ A.in1 (pyNext (.ref it) >>= _) _ _ _
    refine wpAny_bind (wpAny_pyNext_values_end (knd := intKind prog w) hA hit (hat keep) (by rw [hin]; simp) fun h' hx => ?_)
    refine wpAny_bind (wpAny_rule (wpAny_pure ?_))
    have e : decide (v ∈ l.map (·.2)) = false := by
      rw [hin, ← hl, List.take_of_length_le (Nat.le_refl _)] at hno
      simp only [decide_eq_false_iff_not, List.mem_map, not_exists, not_and]
      exact fun q hq e => hno q hq e.symm
    have := hR h' (fun b o e => hx b o (Nat.ne_of_lt (Nat.lt_of_lt_of_le (Heap.lt_size e) hlt)) (keep b o e))
    rw [e] at this
    exact this
  | succ k ih =>
    intro i h hk hi keep hit hno
    have hl := rs₀.length
    have hlt' : i < kvs.length := by lia
    obtain ⟨kk, y, hky⟩ : ∃ kk y, kvs[i]? = some (kk, y) := ⟨_, _, List.getElem?_eq_getElem hlt'⟩
    obtain ⟨u, hu1, hu2⟩ : ∃ u : V, l[i]? = some (kk, u) ∧ Rel s₀.heap u y := by
      have key : ∀ {l : List (Int × V)} {kvs : List (Int × Value)}, All2 (fun p q => p.1 = q.1 ∧ Rel s₀.heap p.2 q.2) l kvs → ∀ (i : Nat) (kk : Int) (y : Value), kvs[i]? = some (kk, y) → ∃ u : V, l[i]? = some (kk, u) ∧ Rel s₀.heap u y := by
        intro l
        induction l with
        | nil => intro kvs r i kk y e; cases kvs with
          | nil => simp at e
          | cons _ _ => exact r.elim
        | cons a l ih => intro kvs r i kk y e; cases kvs with
          | nil => exact r.elim
          | cons b kvs => cases i with
            | zero => simp at e; subst e; obtain ⟨⟨e1, e2⟩, _⟩ := r; exact ⟨a.2, by simp; exact Prod.ext e1 rfl, e2⟩
            | succ i => obtain ⟨u, h1, h2⟩ := ih r.2 i kk y (by simpa using e); exact ⟨u, by simpa using h1, h2⟩
      exact key rs₀ i kk y hky
    refine codeAny_builtin entry_contains_iter ?_
    rw [Around.under_plainId plain_contains_iter _]
    show wpAny _ A.in1 (pyNext (.ref it) >>= _) _ _ _
    refine wpAny_bind (wpAny_pyNext_values_item (knd := intKind prog w) hit (hat keep) hky fun h' hit' hs => ?_)
    have keep' : ∀ b o, s₀.heap.get? b = some o → h'.get? b = some o := fun b o e => hs.extBut b o (Nat.ne_of_lt (Nat.lt_of_lt_of_le (Heap.lt_size e) hlt)) (keep b o e)
    have st := stab_of_keep keep'
    have pu : u.plain 60 = true := hp (kk, u) (List.mem_of_getElem? hu1)
    obtain ⟨as, ra⟩ := V.reads 60 (hu2.stab st) pu
    obtain ⟨bs, rb⟩ := V.reads 60 (rx₀.stab st) p
    have la := V.lay 60 u pu
    have lb := V.lay 60 v p
    refine wpAny_bind ?_
    refine SeqAt.eqAt_reads _ _ A.in1 { s₀ with heap := h' } _ _ _ _ ra rb la.1 lb.1 (by lia) prog w _ _ ?_
    rw [V.eqv_decide pu p inferInstance]
    by_cases e : u = v
    · simp only [e, decide_true, if_true]
      refine wpAny_bind (wpAny_rule (wpAny_pure ?_))
      have := hR h' keep'
      rw [show decide (v ∈ l.map (·.2)) = true from by
        simp only [decide_eq_true_eq, List.mem_map]; exact ⟨(kk, u), List.mem_of_getElem? hu1, e⟩] at this
      exact this
    · simp only [e, decide_false, Bool.false_eq_true, if_false]
      refine wpAny_pure ⟨plainId_quiet plain_contains_iter _, ih (i + 1) h' (by lia) hlt' keep' hit' fun q hq => ?_⟩
      rw [List.take_add_one, hu1] at hq
      rcases List.mem_append.mp hq with hq | hq
      · exact hno q hq
      · simp at hq; subst hq; exact fun e' => e e'.symm
end

section
variable {c : Cx} {ρ : Rho} {σ : Sg} {s : Shared}
theorem Cx.st.keepF {h' : Heap} {tk : Nat} (I : c.st ρ σ s) (k : ∀ b o, s.heap.get? b = some o → h'.get? b = some o) : c.st ρ σ { s with heap := h', toks := tk } := by
  have st := stab_of_keep k
  have hL : c.env.locals < h'.objs.size := by obtain ⟨m, hn, _⟩ := I.frame; exact (hn.keeps k).lt
  exact ⟨fun b o e => k _ _ (I.base b o e), Nat.le_of_lt (Nat.lt_of_le_of_lt (I.hid _ (.head _)).2.1 hL), fun a o e => ⟨(I.objs a o e).1.move (fun _ => k _ _) st, (I.objs a o e).2⟩, fun p hp => ⟨(I.hid p hp).1.move (fun _ => k _ _) st, (I.hid p hp).2⟩, I.nd, Inv.sh' I _ _⟩

def obVals (d : Addr) (o : Obj) : Prop := o.cls = .type "dict_values" ∧ o.data = .fields #[.ref d]
theorem WC.values {a : Addr} {l : List (Int × V)} {Q : V → Sg → Prop} (h1 : σ a = some (.idict l)) (hQ : ∀ b, σ b = none → Q (.ref b) (upd σ b (.pred (obVals a)))) : WC c (.builtin "dict.values") [.ref a] ρ σ Q := fun s xs I rs => by
  match xs, rs with
  | [x], rs =>
    simp only [Rels, Rel] at rs; obtain ⟨rfl, _⟩ := rs
    obtain ⟨kvs, hd, rs⟩ := I.obj h1
    refine call_meetsIn PySem.F.slot_dict_values hd.typeIs PySem.F.entry_dict_values (PySem.F.args_dict_values_1 _) (meets_dict_values (intKind c.B.prog c.B.w) a (I.lo h1)) ⟨⟨kvs, hd⟩, ?_⟩
    have k : ∀ b o, s.heap.get? b = some o → (s.heap.push { cls := .type "dict_values", data := .fields #[.ref a] }).get? b = some o := fun b o e => Heap.get?_push_of_some _ e
    exact ⟨stab_of_keep k, .ref _, _, Inv.alloc (o := .pred (obVals a)) (tk := s.toks) I (Nat.le_refl _) k ⟨_, Heap.get?_push_size _ rfl, ⟨rfl, rfl⟩, by simp⟩, by simp [Rel], hQ _ (Inv.fresh I (Nat.le_refl _))⟩
  | [], rs => simp [Rels] at rs
  | _ :: _ :: _, rs => simp [Rels] at rs

open Classical in
theorem W2.inVals {a d : Addr} {l : List (Int × V)} {v : V} {Q : V → Sg → Prop} (ok : c.ok) (hv : σ a = some (.pred (obVals d))) (h1 : σ d = some (.idict l)) (p : v.plain 60 = true) (hp : ∀ q ∈ l, q.2.plain 60 = true) (hQ : Q (.bool (decide (v ∈ l.map (·.2)))) σ) :
    W2 c (compareOp .In) v (.ref a) ρ σ Q := fun s x y I rx ry => by
  simp only [Rel] at ry; subst ry
  obtain ⟨o, ho, ⟨hc, hd⟩, _⟩ := I.obj hv
  obtain ⟨kvs, ⟨od, es, ep, hod, hx, hdd, hk, hps, hn⟩, rs⟩ := I.obj h1
  have hview : s.heap.IsValuesView a d := ⟨o, ho, hc, hd⟩
  have hat : s.heap.DictAt (intKind c.B.prog c.B.w) d kvs ep := ⟨od, es, hod, hx, hdd, hk, hps, hn⟩
  show wpAny _ _ (do return Value.bool (← PySem.contains (.ref a) x)) _ _ s
  refine wpAny_bind ?_
  unfold PySem.contains
  refine wpAny_holding ?_
  rw [stdlibNamesSay?_ref]
  refine wpAny_bind (wpAny_specialOf hview.typeIs values_no_contains ?_)
  show wpAny _ _ (if ((none : Option Value) == some .none) = true then _ else _) _ _ s
  rw [if_neg (by decide)]
  refine wpAny_bind ?_
  unfold callSpecialUnlessNone?
  refine wpAny_bind (wpAny_specialOf hview.typeIs values_no_contains (wpAny_pure ?_))
  refine wpAny_bind (wpAny_rule ?_)
  refine wpAny_bind (wpAny_tryCatch (wpAny_pyIter_values hview hat ?_))
  have k1 : ∀ b o, s.heap.get? b = some o → (s.heap.push { cls := .type "dict_valueiterator", data := .fields #[.ref d, .int 0 0, .int kvs.length 0, .int ep 0] }).get? b = some o := fun b o e => Heap.get?_push_of_some _ e
  refine wpAny_bind (wpAny_runValue (contains_loop (s₀ := s) (l := l) (v := v) ok.handled (by show c.A.units + 1 + 64 < cLine; have := ok.units; lia) p hp (fun h' keep => ?_) (Nat.le_refl _) hat rs rx kvs.length 0 _ rfl (Nat.zero_le _) k1 ⟨_, Heap.get?_push_size _ rfl, rfl, rfl⟩ (by simp)))
  refine wpAny_pure (wpAny_pure ?_)
  exact ⟨stab_of_keep keep, _, σ, Cx.st.keepF (tk := s.toks) I keep, by simp [Rel], hQ⟩

/-! ## two dicts held against each other -/
open Classical in
noncomputable def sameD (l m : List (Int × V)) : Bool := l.length == m.length && l.all fun p => match dget m p.1 with
  | some v => decide (p.2 = v)
  | none => false
open Classical in
theorem keqHits_of {A : Around} {s : Shared} {lb : List (Int × V)} {kb : List (Int × Value)} (hu : A.units + 64 < cLine) (rb : All2 (fun p q => p.1 = q.1 ∧ Rel s.heap p.2 q.2) lb kb) (pb : ∀ q ∈ lb, q.2.plain 60 = true) :
    ∀ {la : List (Int × V)} {ka : List (Int × Value)}, All2 (fun p q => p.1 = q.1 ∧ Rel s.heap p.2 q.2) la ka → (∀ q ∈ la, q.2.plain 60 = true) →
      KeqHits A s kb ka (la.all fun p => match dget lb p.1 with
        | some v => decide (p.2 = v)
        | none => false)
  | [], [], _, _ => .nil
  | [], _ :: _, r, _ => r.elim
  | _ :: _, [], r, _ => r.elim
  | (k, v) :: la, (k', x) :: ka, r, pa => by
    obtain ⟨⟨e, rx⟩, rs⟩ := r
    simp only at e; subst e
    simp only [List.all_cons]
    rcases dget_rel (k := k) rb with ⟨e1, e2⟩ | ⟨u, y, e1, e2, ry⟩
    · rw [e1]; exact .miss e2
    · rw [e1]
      have pv := pa (k, v) (.head _)
      have pu : u.plain 60 = true := by
        unfold dget at e1
        cases hf : lb.find? (fun p => decide (p.1 = k)) with
        | none => rw [hf] at e1; cases e1
        | some q => rw [hf] at e1; simp at e1; subst e1; exact pb q (List.mem_of_find?_eq_some hf)
      obtain ⟨as, ra⟩ := V.reads 60 rx pv
      obtain ⟨bs, rb'⟩ := V.reads 60 ry pu
      have la' := V.lay 60 v pv
      have lb' := V.lay 60 u pu
      refine .hit e2 ?_ (keqHits_of hu rb pb rs fun q hq => pa q (.tail _ hq))
      dsimp only
      rw [← V.eqv_decide pv pu inferInstance]
      exact SeqAt.eqAt_reads _ _ A s _ _ _ _ ra rb' la'.1 lb'.1 (by lia)
theorem W2.eqDict {a b : Addr} {l m : List (Int × V)} {Q : V → Sg → Prop} (hu : c.A.units + 70 < cLine) (h1 : σ a = some (.idict l)) (h2 : σ b = some (.idict m)) (p : ∀ q ∈ l, q.2.plain 60 = true) (q : ∀ q ∈ m, q.2.plain 60 = true) (hQ : Q (.bool (sameD l m)) σ) :
    W2 c (compareOp .Eq) (.ref a) (.ref b) ρ σ Q := fun s x y I rx ry => by
  simp only [Rel] at rx ry; subst rx; subst ry
  obtain ⟨ka, da, ra⟩ := I.obj h1
  obtain ⟨kb, db, rb⟩ := I.obj h2
  refine keq_eq (I.lo h1) (I.lo h2) da db (by lia) (fun _ => keqHits_of (by show c.A.units + 1 + 64 < cLine; lia) rb q ra p) ?_
  have e : (ka.length == kb.length && (l.all fun p => match dget m p.1 with
        | some v => @decide (p.2 = v) (Classical.propDecidable _)
        | none => false)) = sameD l m := by unfold sameD; rw [ra.length, rb.length]
  rw [e]
  exact ⟨Stab.refl _, _, σ, I, by simp [Rel], hQ⟩

/-- a slice of a list of the base -/
theorem WE.sliceBase {value : Expr} {hi : Expr} {p pos : Pos} {Q : V → Sg → Prop} {a : Addr} {vs : List Value} {ns : List Int} (hl : c.B.h₀.IsList a vs.toArray) (hi' : IntsAre vs ns) (hz : ns.length ≤ 1000)
    (hh : WE c value ρ σ fun v σ₁ => v = .raw (.ref a) ∧ WE c hi ρ σ₁ fun u σ₂ => ∃ k : Nat, u = .int k ∧ ∀ b, σ₂ b = none → Q (.ref b) (upd σ₂ b (.list ((ns.take k).map V.int))))
    (ht : ∀ o r, letTemporaryGo value o r = pure () := by k_dflt (intro _; rfl)) : WE c (.Subscript value (.Slice none (some hi) none p) pos) ρ σ Q := fun s I =>
  wpAny_Subscript_list_slice (wpAny_mono (hh s I) (fun x s₁ ⟨st, v, σ₁, I₁, r, e, k⟩ => evalPart_none_step (evalPart_some_step (wpAny_mono (k s₁ I₁) (fun z s₃ hxx => by
    obtain ⟨st', u, σ₃, I₃, ru, j, e2, q⟩ := hxx
    subst e; simp only [Rel] at r; subst r
    subst e2; simp only [Rel] at ru; obtain ⟨t, rfl⟩ := ru
    have hl3 : s₃.heap.IsList a vs.toArray := by
      obtain ⟨o, ho, hc, n, hd⟩ := hl
      exact ⟨o, I₃.base _ _ ho, hc, n, hd⟩
    have e : vs.length = ns.length := hi'.length
    refine ⟨a, vs.toArray, none, some (j : Int), rfl, hl3, by rw [List.size_toArray, sizeLine_eq]; lia, .none, .int _ t, ?_⟩
    have kk : ∀ b o, s₃.heap.get? b = some o → ((s₃.heap.push { cls := .type "slice", data := .fields #[.none, .int (j : Int) t, .none] }).push { cls := .type "list", data := .seq (slicePick vs.toArray none (some (j : Int)) none) }).get? b = some o := fun b o e => Heap.get?_push_of_some _ (Heap.get?_push_of_some _ e)
    have st2 := stab_of_keep kk
    have rs : Rels s₃.heap (ns.map V.int) vs := by
      have key : ∀ {vs : List Value} {ns : List Int}, IntsAre vs ns → Rels s₃.heap (ns.map V.int) vs := by
        intro vs ns h
        induction h with
        | nil => simp [Rels]
        | cons _ _ _ ih => simp only [List.map_cons, Rels]; exact ⟨by simp [Rel], ih⟩
      exact key hi'
    refine ⟨(st.trans st').trans st2, .ref _, _, Inv.alloc (o := .list ((ns.take j).map V.int)) (tk := s₃.toks) (a := s₃.heap.objs.size + 1) I₃ (Nat.le_succ _) kk ⟨(slicePick vs.toArray none (some (j : Int)) none).toList, 0, ?_, ?_⟩, by simp [Rel], q _ (Inv.fresh I₃ (Nat.le_succ _))⟩
    · have := IsL.new (s₃.heap.push { cls := .type "slice", data := .fields #[.none, .int (j : Int) t, .none] }) (slicePick vs.toArray none (some (j : Int)) none)
      rw [Heap.size_push] at this
      simpa using this
    · refine Rels.stab st2 ?_
      rw [slicePick_upto', List.map_take]
      simpa using rs.take j) fun _ _ z => z)) ) fun _ _ z => z) ht
end
section
variable {prog : Program} {w : World} {A : Around} {E : Value → Shared → Prop} {s : Shared} {env : Env}
theorem sub_slice_any {value : Expr} {lower upper : Option Expr} {p pos : Pos} {T id : String} {Q : Value → Shared → Prop} (hl : typeLookup (.type T) "__getitem__" = pure (some (.builtin id)))
    (h : wpAny (model prog w) A (eval value env) (fun o s₁ => wpAny (model prog w) A (eval (.Slice lower upper none p) env) (fun i s₂ => s₂.TypeIs o T ∧ wpAny (model prog w) A (getItem o i) Q E s₂) E s₁) E s) :
    wpAny (model prog w) A (eval (.Subscript value (.Slice lower upper none p) pos) env) Q E s := by
  rw [eval_Subscript]
  refine wpAny_bind (wpAny_mono h (fun o s₁ h₁ => wpAny_bind (wpAny_holding (wpAny_mono h₁ (fun i s₂ h₂ => wpAny_bind (wpAny_standAt ?_)) fun _ _ x => x)))
    fun _ _ x => x)
  have fin : wpAny (model prog w) A (operate [i, o] (getItem o i)) (fun r s₃ => wpAny (model prog w) A (letTemporaryGo value o r >>= fun _ => pure r) Q E s₃) E s₂ :=
    wpAny_operating (wpAny_mono h₂.2 (fun r s₃ h₃ => wpAny_bind (wpAny_letTemporaryGo (wpAny_pure h₃))) fun _ _ x => x)
  first
    | (refine wpAny_bind ?_
       rw [getitemInPython_of_ne h₂.1.not_modules]
       refine wpAny_bind (wpAny_specialOf h₂.1 hl ?_)
       first
         | exact wpAny_pure (wpAny_bind fin)
         | exact wpAny_bind (wpAny_pure (wpAny_bind fin))
         | exact wpAny_bind fin)
    | (refine wpAny_bind (wpAny_specialOf h₂.1 hl ?_)
       first
         | exact wpAny_bind (wpAny_pure (wpAny_bind fin))
         | exact wpAny_bind fin)
theorem list_slice_any {value : Expr} {lower upper : Option Expr} {p pos : Pos} {Q : Value → Shared → Prop}
    (h : wpAny (model prog w) A (eval value env) (fun o s₁ => wpAny (model prog w) A (evalPart lower env) (fun vl s₂ => wpAny (model prog w) A (evalPart upper env) (fun vu s₃ =>
      ∃ l items lo hi, o = .ref l ∧ s₃.heap.IsList l items ∧ items.size ≤ sizeLine ∧ IsPart vl lo ∧ IsPart vu hi ∧
        Q (.ref (s₃.heap.objs.size + 1)) { s₃ with heap := (s₃.heap.push { cls := .type "slice", data := .fields #[vl, vu, .none] }).push { cls := .type "list", data := .seq (slicePick items lo hi none) } }) E s₂) E s₁) E s) :
    wpAny (model prog w) A (eval (.Subscript value (.Slice lower upper none p) pos) env) Q E s := by
  refine sub_slice_any (T := "list") slot_list_getitem.lookup (wpAny_mono h (fun o s₁ h₁ => wpAny_Slice (wpAny_mono h₁ (fun vl s₂ h₂ => wpAny_mono h₂ (fun vu s₃ h₃ => ?_) fun _ _ e => e) fun _ _ e => e)) fun _ _ e => e)
  obtain ⟨l, items, lo, hi, rfl, hl, hsz, pl, pu, hQ⟩ := h₃
  rw [evalPart_none]
  refine wpAny_pure ⟨(hl.push _).typeIs, wpAny_getItem_list_slice (hl.push _) (Heap.IsSliceOf.new ..) pl pu .none (by simp) ?_ hsz⟩
  rw [Heap.size_push]
  exact hQ
end
section
variable {c : Cx} {ρ : Rho} {σ : Sg}
theorem WE.sliceA {value : Expr} {lo hi : Option Expr} {p pos : Pos} {Q : V → Sg → Prop}
    (hh : WE c value ρ σ fun v σ₁ => WPart c lo ρ σ₁ fun i σ₂ => WPart c hi ρ σ₂ fun j σ₃ => ∃ a l r, v = .ref a ∧ σ₃ a = some (.list l) ∧ l.length ≤ 1000000 ∧ cutList l i j = some r ∧ ∀ b, σ₃ b = none → Q (.ref b) (upd σ₃ b (.list r))) : WE c (.Subscript value (.Slice lo hi none p) pos) ρ σ Q := fun s I =>
  list_slice_any (wpAny_mono (hh s I) (fun x s₁ ⟨st, v, σ₁, I₁, r, k⟩ => wpAny_mono (WPart.run I₁ k) (fun y s₂ ⟨st', i, σ₂, pi, I₂, k⟩ => wpAny_mono (WPart.run I₂ k) (fun z s₃ hxx => by
    obtain ⟨st'', j, σ₃, pj, I₃, a, l, r', e, h1, hl, hc, q⟩ := hxx
    subst e; simp only [Rel] at r; subst r
    obtain ⟨xs, n, ho, rs⟩ := I₃.obj h1
    have e := rs.length
    refine ⟨a, xs.toArray, i, j, rfl, ho.isList, by rw [List.size_toArray, ← e, sizeLine_eq]; lia, pi, pj, ?_⟩
    have kk : ∀ b o, s₃.heap.get? b = some o → ((s₃.heap.push { cls := .type "slice", data := .fields #[y, z, .none] }).push { cls := .type "list", data := .seq (slicePick xs.toArray i j none) }).get? b = some o := fun b o e => Heap.get?_push_of_some _ (Heap.get?_push_of_some _ e)
    have st2 := stab_of_keep kk
    refine ⟨((st.trans st').trans st'').trans st2, .ref _, _, Inv.alloc (o := .list r') (tk := s₃.toks) (a := s₃.heap.objs.size + 1) I₃ (Nat.le_succ _) kk ⟨(slicePick xs.toArray i j none).toList, 0, ?_, (cut_rel rs hc).stab st2⟩, by simp [Rel], q _ (Inv.fresh I₃ (Nat.le_succ _))⟩
    have := IsL.new (s₃.heap.push { cls := .type "slice", data := .fields #[y, z, .none] }) (slicePick xs.toArray i j none)
    rw [Heap.size_push] at this
    simpa using this) fun _ _ z => z) fun _ _ z => z) fun _ _ z => z)
theorem WPart.no {Q : Option Int → Sg → Prop} (h : Q none σ) : WPart c none ρ σ Q := h
theorem WPart.yes {e : Expr} {Q : Option Int → Sg → Prop} (h : WE c e ρ σ fun v σ₁ => ∃ i, v = .int i ∧ Q (some i) σ₁) : WPart c (some e) ρ σ Q := h
end
def IsLaw (B : Base) : Prop := B.K = hd.heap_1 B.w.params
noncomputable def fd_fixed_atoms : { fd : FuncData // ∀ P, ∃ oc od osl, (hd.heap_1 P).lookup 60 = some ⟨oc, od, .func fd, osl⟩ } := ⟨_, fun P => ⟨_, _, _, by k_is⟩⟩
theorem ok_fixed_atoms {B : Base} (hB : IsLaw B) : FnOK B.K 60 fd_fixed_atoms.1 where
  look := by rw [hB]; exact fd_fixed_atoms.2 _
  code := by rw [hB]; dsimp only [fd_fixed_atoms]; k_is
  body := rfl
  bind := bind0 (by rfl) (by rfl)
  cell := by decide +kernel
  loc := by decide +kernel
  co := by rfl
  gen := by rfl
  kind := by rfl
  gl := by rfl
  bi := by rfl
noncomputable def fd_fixed_functors : { fd : FuncData // ∀ P, ∃ oc od osl, (hd.heap_1 P).lookup 67 = some ⟨oc, od, .func fd, osl⟩ } := ⟨_, fun P => ⟨_, _, _, by k_is⟩⟩
theorem ok_fixed_functors {B : Base} (hB : IsLaw B) : FnOK B.K 67 fd_fixed_functors.1 where
  look := by rw [hB]; exact fd_fixed_functors.2 _
  code := by rw [hB]; dsimp only [fd_fixed_functors]; k_is
  body := rfl
  bind := bind0 (by rfl) (by rfl)
  cell := by decide +kernel
  loc := by decide +kernel
  co := by rfl
  gen := by rfl
  kind := by rfl
  gl := by rfl
  bi := by rfl
noncomputable def fd_sym_init : { fd : FuncData // ∀ P, ∃ oc od osl, (hd.heap_1 P).lookup 81 = some ⟨oc, od, .func fd, osl⟩ } := ⟨_, fun P => ⟨_, _, _, by k_is⟩⟩
theorem ok_sym_init {B : Base} (hB : IsLaw B) : FnOK B.K 81 fd_sym_init.1 where
  look := by rw [hB]; exact fd_sym_init.2 _
  code := by rw [hB]; dsimp only [fd_sym_init]; k_is
  body := rfl
  bind := bind1 (by rfl) (fun a => by rfl)
  cell := by decide +kernel
  loc := by decide +kernel
  co := by rfl
  gen := by rfl
  kind := by rfl
  gl := by rfl
  bi := by rfl
noncomputable def fd_sym_atom : { fd : FuncData // ∀ P, ∃ oc od osl, (hd.heap_1 P).lookup 88 = some ⟨oc, od, .func fd, osl⟩ } := ⟨_, fun P => ⟨_, _, _, by k_is⟩⟩
theorem ok_sym_atom {B : Base} (hB : IsLaw B) : FnOK B.K 88 fd_sym_atom.1 where
  look := by rw [hB]; exact fd_sym_atom.2 _
  code := by rw [hB]; dsimp only [fd_sym_atom]; k_is
  body := rfl
  bind := bind2 (by rfl) (fun a b => by rfl)
  cell := by decide +kernel
  loc := by decide +kernel
  co := by rfl
  gen := by rfl
  kind := by rfl
  gl := by rfl
  bi := by rfl
noncomputable def fd_sym_functor : { fd : FuncData // ∀ P, ∃ oc od osl, (hd.heap_1 P).lookup 102 = some ⟨oc, od, .func fd, osl⟩ } := ⟨_, fun P => ⟨_, _, _, by k_is⟩⟩
theorem ok_sym_functor {B : Base} (hB : IsLaw B) : FnOK B.K 102 fd_sym_functor.1 where
  look := by rw [hB]; exact fd_sym_functor.2 _
  code := by rw [hB]; dsimp only [fd_sym_functor]; k_is
  body := rfl
  bind := bind3 (by rfl) (fun a b c => by rfl)
  cell := by decide +kernel
  loc := by decide +kernel
  co := by rfl
  gen := by rfl
  kind := by rfl
  gl := by rfl
  bi := by rfl
noncomputable def fd_sym_func : { fd : FuncData // ∀ P, ∃ oc od osl, (hd.heap_1 P).lookup 109 = some ⟨oc, od, .func fd, osl⟩ } := ⟨_, fun P => ⟨_, _, _, by k_is⟩⟩
theorem ok_sym_func {B : Base} (hB : IsLaw B) : FnOK B.K 109 fd_sym_func.1 where
  look := by rw [hB]; exact fd_sym_func.2 _
  code := by rw [hB]; dsimp only [fd_sym_func]; k_is
  body := rfl
  bind := bind3 (by rfl) (fun a b c => by rfl)
  cell := by decide +kernel
  loc := by decide +kernel
  co := by rfl
  gen := by rfl
  kind := by rfl
  gl := by rfl
  bi := by rfl
noncomputable def fd_sym_arity : { fd : FuncData // ∀ P, ∃ oc od osl, (hd.heap_1 P).lookup 123 = some ⟨oc, od, .func fd, osl⟩ } := ⟨_, fun P => ⟨_, _, _, by k_is⟩⟩
theorem ok_sym_arity {B : Base} (hB : IsLaw B) : FnOK B.K 123 fd_sym_arity.1 where
  look := by rw [hB]; exact fd_sym_arity.2 _
  code := by rw [hB]; dsimp only [fd_sym_arity]; k_is
  body := rfl
  bind := bind2 (by rfl) (fun a b => by rfl)
  cell := by decide +kernel
  loc := by decide +kernel
  co := by rfl
  gen := by rfl
  kind := by rfl
  gl := by rfl
  bi := by rfl
noncomputable def fd_push : { fd : FuncData // ∀ P, ∃ oc od osl, (hd.heap_1 P).lookup 201 = some ⟨oc, od, .func fd, osl⟩ } := ⟨_, fun P => ⟨_, _, _, by k_is⟩⟩
theorem ok_push {B : Base} (hB : IsLaw B) : FnOK B.K 201 fd_push.1 where
  look := by rw [hB]; exact fd_push.2 _
  code := by rw [hB]; dsimp only [fd_push]; k_is
  body := rfl
  bind := bind2 (by rfl) (fun a b => by rfl)
  cell := by decide +kernel
  loc := by decide +kernel
  co := by rfl
  gen := by rfl
  kind := by rfl
  gl := by rfl
  bi := by rfl
noncomputable def fd_new_var : { fd : FuncData // ∀ P, ∃ oc od osl, (hd.heap_1 P).lookup 208 = some ⟨oc, od, .func fd, osl⟩ } := ⟨_, fun P => ⟨_, _, _, by k_is⟩⟩
theorem ok_new_var {B : Base} (hB : IsLaw B) : FnOK B.K 208 fd_new_var.1 where
  look := by rw [hB]; exact fd_new_var.2 _
  code := by rw [hB]; dsimp only [fd_new_var]; k_is
  body := rfl
  bind := bind1 (by rfl) (fun a => by rfl)
  cell := by decide +kernel
  loc := by decide +kernel
  co := by rfl
  gen := by rfl
  kind := by rfl
  gl := by rfl
  bi := by rfl
noncomputable def fd_reserve : { fd : FuncData // ∀ P, ∃ oc od osl, (hd.heap_1 P).lookup 215 = some ⟨oc, od, .func fd, osl⟩ } := ⟨_, fun P => ⟨_, _, _, by k_is⟩⟩
theorem ok_reserve {B : Base} (hB : IsLaw B) : FnOK B.K 215 fd_reserve.1 where
  look := by rw [hB]; exact fd_reserve.2 _
  code := by rw [hB]; dsimp only [fd_reserve]; k_is
  body := rfl
  bind := bind2 (by rfl) (fun a b => by rfl)
  cell := by decide +kernel
  loc := by decide +kernel
  co := by rfl
  gen := by rfl
  kind := by rfl
  gl := by rfl
  bi := by rfl
noncomputable def fd_deref : { fd : FuncData // ∀ P, ∃ oc od osl, (hd.heap_1 P).lookup 229 = some ⟨oc, od, .func fd, osl⟩ } := ⟨_, fun P => ⟨_, _, _, by k_is⟩⟩
theorem ok_deref {B : Base} (hB : IsLaw B) : FnOK B.K 229 fd_deref.1 where
  look := by rw [hB]; exact fd_deref.2 _
  code := by rw [hB]; dsimp only [fd_deref]; k_is
  body := rfl
  bind := bind2 (by rfl) (fun a b => by rfl)
  cell := by decide +kernel
  loc := by decide +kernel
  co := by rfl
  gen := by rfl
  kind := by rfl
  gl := by rfl
  bi := by rfl
noncomputable def fd_bind : { fd : FuncData // ∀ P, ∃ oc od osl, (hd.heap_1 P).lookup 243 = some ⟨oc, od, .func fd, osl⟩ } := ⟨_, fun P => ⟨_, _, _, by k_is⟩⟩
theorem ok_bind {B : Base} (hB : IsLaw B) : FnOK B.K 243 fd_bind.1 where
  look := by rw [hB]; exact fd_bind.2 _
  code := by rw [hB]; dsimp only [fd_bind]; k_is
  body := rfl
  bind := bind3 (by rfl) (fun a b c => by rfl)
  cell := by decide +kernel
  loc := by decide +kernel
  co := by rfl
  gen := by rfl
  kind := by rfl
  gl := by rfl
  bi := by rfl
noncomputable def fd_bind_pair : { fd : FuncData // ∀ P, ∃ oc od osl, (hd.heap_1 P).lookup 250 = some ⟨oc, od, .func fd, osl⟩ } := ⟨_, fun P => ⟨_, _, _, by k_is⟩⟩
theorem ok_bind_pair {B : Base} (hB : IsLaw B) : FnOK B.K 250 fd_bind_pair.1 where
  look := by rw [hB]; exact fd_bind_pair.2 _
  code := by rw [hB]; dsimp only [fd_bind_pair]; k_is
  body := rfl
  bind := bind3 (by rfl) (fun a b c => by rfl)
  cell := by decide +kernel
  loc := by decide +kernel
  co := by rfl
  gen := by rfl
  kind := by rfl
  gl := by rfl
  bi := by rfl
noncomputable def fd_globalise : { fd : FuncData // ∀ P, ∃ oc od osl, (hd.heap_1 P).lookup 257 = some ⟨oc, od, .func fd, osl⟩ } := ⟨_, fun P => ⟨_, _, _, by k_is⟩⟩
theorem ok_globalise {B : Base} (hB : IsLaw B) : FnOK B.K 257 fd_globalise.1 where
  look := by rw [hB]; exact fd_globalise.2 _
  code := by rw [hB]; dsimp only [fd_globalise]; k_is
  body := rfl
  bind := bind2 (by rfl) (fun a b => by rfl)
  cell := by decide +kernel
  loc := by decide +kernel
  co := by rfl
  gen := by rfl
  kind := by rfl
  gl := by rfl
  bi := by rfl
noncomputable def fd_is_compound : { fd : FuncData // ∀ P, ∃ oc od osl, (hd.heap_1 P).lookup 285 = some ⟨oc, od, .func fd, osl⟩ } := ⟨_, fun P => ⟨_, _, _, by k_is⟩⟩
theorem ok_is_compound {B : Base} (hB : IsLaw B) : FnOK B.K 285 fd_is_compound.1 where
  look := by rw [hB]; exact fd_is_compound.2 _
  code := by rw [hB]; dsimp only [fd_is_compound]; k_is
  body := rfl
  bind := bind2 (by rfl) (fun a b => by rfl)
  cell := by decide +kernel
  loc := by decide +kernel
  co := by rfl
  gen := by rfl
  kind := by rfl
  gl := by rfl
  bi := by rfl
noncomputable def fd_functor_of : { fd : FuncData // ∀ P, ∃ oc od osl, (hd.heap_1 P).lookup 292 = some ⟨oc, od, .func fd, osl⟩ } := ⟨_, fun P => ⟨_, _, _, by k_is⟩⟩
theorem ok_functor_of {B : Base} (hB : IsLaw B) : FnOK B.K 292 fd_functor_of.1 where
  look := by rw [hB]; exact fd_functor_of.2 _
  code := by rw [hB]; dsimp only [fd_functor_of]; k_is
  body := rfl
  bind := bind2 (by rfl) (fun a b => by rfl)
  cell := by decide +kernel
  loc := by decide +kernel
  co := by rfl
  gen := by rfl
  kind := by rfl
  gl := by rfl
  bi := by rfl
noncomputable def fd_width : { fd : FuncData // ∀ P, ∃ oc od osl, (hd.heap_1 P).lookup 299 = some ⟨oc, od, .func fd, osl⟩ } := ⟨_, fun P => ⟨_, _, _, by k_is⟩⟩
theorem ok_width {B : Base} (hB : IsLaw B) : FnOK B.K 299 fd_width.1 where
  look := by rw [hB]; exact fd_width.2 _
  code := by rw [hB]; dsimp only [fd_width]; k_is
  body := rfl
  bind := bind2 (by rfl) (fun a b => by rfl)
  cell := by decide +kernel
  loc := by decide +kernel
  co := by rfl
  gen := by rfl
  kind := by rfl
  gl := by rfl
  bi := by rfl
noncomputable def fd_base : { fd : FuncData // ∀ P, ∃ oc od osl, (hd.heap_1 P).lookup 306 = some ⟨oc, od, .func fd, osl⟩ } := ⟨_, fun P => ⟨_, _, _, by k_is⟩⟩
theorem ok_base {B : Base} (hB : IsLaw B) : FnOK B.K 306 fd_base.1 where
  look := by rw [hB]; exact fd_base.2 _
  code := by rw [hB]; dsimp only [fd_base]; k_is
  body := rfl
  bind := bind2 (by rfl) (fun a b => by rfl)
  cell := by decide +kernel
  loc := by decide +kernel
  co := by rfl
  gen := by rfl
  kind := by rfl
  gl := by rfl
  bi := by rfl
noncomputable def fd_arg : { fd : FuncData // ∀ P, ∃ oc od osl, (hd.heap_1 P).lookup 313 = some ⟨oc, od, .func fd, osl⟩ } := ⟨_, fun P => ⟨_, _, _, by k_is⟩⟩
theorem ok_arg {B : Base} (hB : IsLaw B) : FnOK B.K 313 fd_arg.1 where
  look := by rw [hB]; exact fd_arg.2 _
  code := by rw [hB]; dsimp only [fd_arg]; k_is
  body := rfl
  bind := bind3 (by rfl) (fun a b c => by rfl)
  cell := by decide +kernel
  loc := by decide +kernel
  co := by rfl
  gen := by rfl
  kind := by rfl
  gl := by rfl
  bi := by rfl
noncomputable def fd_new_block : { fd : FuncData // ∀ P, ∃ oc od osl, (hd.heap_1 P).lookup 320 = some ⟨oc, od, .func fd, osl⟩ } := ⟨_, fun P => ⟨_, _, _, by k_is⟩⟩
theorem ok_new_block {B : Base} (hB : IsLaw B) : FnOK B.K 320 fd_new_block.1 where
  look := by rw [hB]; exact fd_new_block.2 _
  code := by rw [hB]; dsimp only [fd_new_block]; k_is
  body := rfl
  bind := bind2 (by rfl) (fun a b => by rfl)
  cell := by decide +kernel
  loc := by decide +kernel
  co := by rfl
  gen := by rfl
  kind := by rfl
  gl := by rfl
  bi := by rfl
noncomputable def fd_new_struct : { fd : FuncData // ∀ P, ∃ oc od osl, (hd.heap_1 P).lookup 341 = some ⟨oc, od, .func fd, osl⟩ } := ⟨_, fun P => ⟨_, _, _, by k_is⟩⟩
theorem ok_new_struct {B : Base} (hB : IsLaw B) : FnOK B.K 341 fd_new_struct.1 where
  look := by rw [hB]; exact fd_new_struct.2 _
  code := by rw [hB]; dsimp only [fd_new_struct]; k_is
  body := rfl
  bind := bind3 (by rfl) (fun a b c => by rfl)
  cell := by decide +kernel
  loc := by decide +kernel
  co := by rfl
  gen := by rfl
  kind := by rfl
  gl := by rfl
  bi := by rfl
noncomputable def fd_copy : { fd : FuncData // ∀ P, ∃ oc od osl, (hd.heap_1 P).lookup 389 = some ⟨oc, od, .func fd, osl⟩ } := ⟨_, fun P => ⟨_, _, _, by k_is⟩⟩
theorem ok_copy {B : Base} (hB : IsLaw B) : FnOK B.K 389 fd_copy.1 where
  look := by rw [hB]; exact fd_copy.2 _
  code := by rw [hB]; dsimp only [fd_copy]; k_is
  body := rfl
  bind := bind3 (by rfl) (fun a b c => by rfl)
  cell := by decide +kernel
  loc := by decide +kernel
  co := by rfl
  gen := by rfl
  kind := by rfl
  gl := by rfl
  bi := by rfl
noncomputable def fd_pick : { fd : FuncData // ∀ P, ∃ oc od osl, (hd.heap_1 P).lookup 396 = some ⟨oc, od, .func fd, osl⟩ } := ⟨_, fun P => ⟨_, _, _, by k_is⟩⟩
theorem ok_pick {B : Base} (hB : IsLaw B) : FnOK B.K 396 fd_pick.1 where
  look := by rw [hB]; exact fd_pick.2 _
  code := by rw [hB]; dsimp only [fd_pick]; k_is
  body := rfl
  bind := bind2 (by rfl) (fun a b => by rfl)
  cell := by decide +kernel
  loc := by decide +kernel
  co := by rfl
  gen := by rfl
  kind := by rfl
  gl := by rfl
  bi := by rfl
noncomputable def fd_things : { fd : FuncData // ∀ P, ∃ oc od osl, (hd.heap_1 P).lookup 401 = some ⟨oc, od, .func fd, osl⟩ } := ⟨_, fun P => ⟨_, _, _, by k_is⟩⟩
theorem IsLaw.k {B : Base} (h : IsLaw B) : B.K = hd.heap_1 B.w.params := h
def ktab : List (Addr × Str) := [(154, Str.ofString "texts"), (154, Str.ofString "atom_numbers"), (154, Str.ofString "functors"), (154, Str.ofString "functor_numbers"), (380, Str.ofString "symbols"), (380, Str.ofString "max_heap"), (380, Str.ofString "heap"), (380, Str.ofString "stack"), (380, Str.ofString "trail"), (380, Str.ofString "hb"), (380, Str.ofString "bb")]
theorem ks_tab {B : Base} (hB : IsLaw B) : (ktab.all fun p => fieldOK B.K p.1 p.2 && setOK B.K p.1 p.2) = true := by rw [hB.k]; kernel_rfl
theorem fk_of {B : Base} (hB : IsLaw B) {C : Addr} {x : Str} (h : (C, x) ∈ ktab) : fieldOK B.K C x = true := (Bool.and_eq_true_iff.mp (List.all_eq_true.mp (ks_tab hB) _ h)).1
theorem sk_of {B : Base} (hB : IsLaw B) {C : Addr} {x : Str} (h : (C, x) ∈ ktab) : setOK B.K C x = true := (Bool.and_eq_true_iff.mp (List.all_eq_true.mp (ks_tab hB) _ h)).2
theorem mk_sym_atom {B : Base} (hB : IsLaw B) : MethOK B.K 154 (Str.ofString "atom") 88 := ⟨by rw [hB.k]; k_is, by rw [hB.k]; k_is, by rw [hB.k]; k_is, by rw [hB.k]; kernel_rfl⟩
theorem mk_sym_functor {B : Base} (hB : IsLaw B) : MethOK B.K 154 (Str.ofString "functor") 102 := ⟨by rw [hB.k]; k_is, by rw [hB.k]; k_is, by rw [hB.k]; k_is, by rw [hB.k]; kernel_rfl⟩
theorem mk_sym_func {B : Base} (hB : IsLaw B) : MethOK B.K 154 (Str.ofString "func") 109 := ⟨by rw [hB.k]; k_is, by rw [hB.k]; k_is, by rw [hB.k]; k_is, by rw [hB.k]; kernel_rfl⟩
theorem mk_sym_name {B : Base} (hB : IsLaw B) : MethOK B.K 154 (Str.ofString "name") 116 := ⟨by rw [hB.k]; k_is, by rw [hB.k]; k_is, by rw [hB.k]; k_is, by rw [hB.k]; kernel_rfl⟩
theorem mk_sym_arity {B : Base} (hB : IsLaw B) : MethOK B.K 154 (Str.ofString "arity") 123 := ⟨by rw [hB.k]; k_is, by rw [hB.k]; k_is, by rw [hB.k]; k_is, by rw [hB.k]; kernel_rfl⟩
theorem mk_push {B : Base} (hB : IsLaw B) : MethOK B.K 380 (Str.ofString "push") 201 := ⟨by rw [hB.k]; k_is, by rw [hB.k]; k_is, by rw [hB.k]; k_is, by rw [hB.k]; kernel_rfl⟩
theorem mk_new_var {B : Base} (hB : IsLaw B) : MethOK B.K 380 (Str.ofString "new_var") 208 := ⟨by rw [hB.k]; k_is, by rw [hB.k]; k_is, by rw [hB.k]; k_is, by rw [hB.k]; kernel_rfl⟩
theorem mk_reserve {B : Base} (hB : IsLaw B) : MethOK B.K 380 (Str.ofString "reserve") 215 := ⟨by rw [hB.k]; k_is, by rw [hB.k]; k_is, by rw [hB.k]; k_is, by rw [hB.k]; kernel_rfl⟩
theorem mk_deref {B : Base} (hB : IsLaw B) : MethOK B.K 380 (Str.ofString "deref") 229 := ⟨by rw [hB.k]; k_is, by rw [hB.k]; k_is, by rw [hB.k]; k_is, by rw [hB.k]; kernel_rfl⟩
theorem mk_bind {B : Base} (hB : IsLaw B) : MethOK B.K 380 (Str.ofString "bind") 243 := ⟨by rw [hB.k]; k_is, by rw [hB.k]; k_is, by rw [hB.k]; k_is, by rw [hB.k]; kernel_rfl⟩
theorem mk_bind_pair {B : Base} (hB : IsLaw B) : MethOK B.K 380 (Str.ofString "bind_pair") 250 := ⟨by rw [hB.k]; k_is, by rw [hB.k]; k_is, by rw [hB.k]; k_is, by rw [hB.k]; kernel_rfl⟩
theorem mk_globalise {B : Base} (hB : IsLaw B) : MethOK B.K 380 (Str.ofString "globalise") 257 := ⟨by rw [hB.k]; k_is, by rw [hB.k]; k_is, by rw [hB.k]; k_is, by rw [hB.k]; kernel_rfl⟩
theorem mk_is_compound {B : Base} (hB : IsLaw B) : MethOK B.K 380 (Str.ofString "is_compound") 285 := ⟨by rw [hB.k]; k_is, by rw [hB.k]; k_is, by rw [hB.k]; k_is, by rw [hB.k]; kernel_rfl⟩
theorem mk_functor_of {B : Base} (hB : IsLaw B) : MethOK B.K 380 (Str.ofString "functor_of") 292 := ⟨by rw [hB.k]; k_is, by rw [hB.k]; k_is, by rw [hB.k]; k_is, by rw [hB.k]; kernel_rfl⟩
theorem mk_width {B : Base} (hB : IsLaw B) : MethOK B.K 380 (Str.ofString "width") 299 := ⟨by rw [hB.k]; k_is, by rw [hB.k]; k_is, by rw [hB.k]; k_is, by rw [hB.k]; kernel_rfl⟩
theorem mk_base {B : Base} (hB : IsLaw B) : MethOK B.K 380 (Str.ofString "base") 306 := ⟨by rw [hB.k]; k_is, by rw [hB.k]; k_is, by rw [hB.k]; k_is, by rw [hB.k]; kernel_rfl⟩
theorem mk_arg {B : Base} (hB : IsLaw B) : MethOK B.K 380 (Str.ofString "arg") 313 := ⟨by rw [hB.k]; k_is, by rw [hB.k]; k_is, by rw [hB.k]; k_is, by rw [hB.k]; kernel_rfl⟩
theorem mk_new_block {B : Base} (hB : IsLaw B) : MethOK B.K 380 (Str.ofString "new_block") 320 := ⟨by rw [hB.k]; k_is, by rw [hB.k]; k_is, by rw [hB.k]; k_is, by rw [hB.k]; kernel_rfl⟩
theorem mk_new_struct {B : Base} (hB : IsLaw B) : MethOK B.K 380 (Str.ofString "new_struct") 341 := ⟨by rw [hB.k]; k_is, by rw [hB.k]; k_is, by rw [hB.k]; k_is, by rw [hB.k]; kernel_rfl⟩
def mtab : List (Addr × Str × Addr) := [(154, Str.ofString "atom", 88), (154, Str.ofString "functor", 102), (154, Str.ofString "func", 109), (154, Str.ofString "name", 116), (154, Str.ofString "arity", 123), (380, Str.ofString "push", 201), (380, Str.ofString "new_var", 208), (380, Str.ofString "reserve", 215), (380, Str.ofString "deref", 229), (380, Str.ofString "bind", 243), (380, Str.ofString "bind_pair", 250), (380, Str.ofString "globalise", 257), (380, Str.ofString "is_compound", 285), (380, Str.ofString "functor_of", 292), (380, Str.ofString "width", 299), (380, Str.ofString "base", 306), (380, Str.ofString "arg", 313), (380, Str.ofString "new_block", 320), (380, Str.ofString "new_struct", 341)]
theorem mk_all {B : Base} (hB : IsLaw B) : ∀ p ∈ mtab, MethOK B.K p.1 p.2.1 p.2.2 := by
  unfold mtab
  simp only [List.forall_mem_cons]
  exact ⟨mk_sym_atom hB, mk_sym_functor hB, mk_sym_func hB, mk_sym_name hB, mk_sym_arity hB, mk_push hB, mk_new_var hB, mk_reserve hB, mk_deref hB, mk_bind hB, mk_bind_pair hB, mk_globalise hB, mk_is_compound hB, mk_functor_of hB, mk_width hB, mk_base hB, mk_arg hB, mk_new_block hB, mk_new_struct hB, List.forall_mem_nil _⟩
theorem mk_of {B : Base} (hB : IsLaw B) {C a : Addr} {x : Str} (h : (C, x, a) ∈ mtab) : MethOK B.K C x a := mk_all hB _ h
theorem bk_len : bootBuiltins (Str.ofString "len") = some (.builtin "len") := by rfl
theorem bk_abs : bootBuiltins (Str.ofString "abs") = some (.builtin "abs") := by rfl
theorem bk_int : bootBuiltins (Str.ofString "int") = some (.type "int") := by rfl
theorem bk_list : bootBuiltins (Str.ofString "list") = some (.type "list") := by rfl
theorem bk_range : bootBuiltins (Str.ofString "range") = some (.type "range") := by rfl
local macro_rules | `(tactic| walk_at "lk") => `(tactic| k_dflt (first
  | assumption
  | exact updR_same _ _ _
  | (refine updR_skip (by k_dflt decide) ?_; walk_at "lk")
  | exact rho0_hit (by k_dflt decide)
  | (refine rho0_skip (by k_dflt decide) ?_; walk_at "lk")))
local macro_rules | `(tactic| walk_at "okt") => `(tactic| k_dflt (first | assumption | exact Cx.ok.push (by walk_at "okt") _))
local macro_rules | `(tactic| walk_at "ne") => `(tactic| k_dflt (first | assumption | exact Ne.symm (by assumption) | exact ne_ob (by assumption) (by assumption) (by nofun) | exact ne_fr (by assumption) (by assumption) | exact ne_fr' (by assumption) (by assumption)))
local macro_rules | `(tactic| walk_at "ob") => `(tactic| k_dflt (first | assumption | exact upd_same _ _ _ | (refine upd_at (by walk_at "ne") ?_; walk_at "ob")))
local macro_rules | `(tactic| walk_at "k") => `(tactic| k_dflt (dsimp only [Cx.push]; rw [IsLaw.k (by assumption)]; k_is))
local macro_rules | `(tactic| walk_at "kg") => `(tactic| k_dflt (dsimp only [Cx.push]; rw [IsLaw.k (by assumption)]; exact ⟨_, by k_is⟩))
local macro_rules | `(tactic| walk_at "kk") => `(tactic| k_dflt (dsimp only [Cx.push]; rw [IsLaw.k (by assumption)]; kernel_rfl))
local macro_rules | `(tactic| walk_at "un") => `(tactic| k_dflt (first | assumption | exact Cx.ok.units (by walk_at "okt")))
local macro_rules | `(tactic| walk_at "sz") => `(tactic| k_dflt (first | assumption | omega | (simp only [List.length_append, List.length_cons, List.length_nil, List.length_map, List.length_set, selfs_length]; omega) | (simp; omega) | simp))
local macro_rules | `(tactic| walk_at "dg") => `(tactic| k_dflt (first | exact dget_hit | (refine dget_skip (by k_dflt decide) ?_; walk_at "dg") | exact dget_nil))
local macro_rules | `(tactic| walk_at "dp") => `(tactic| k_dflt (first | exact dput_nil | exact dput_miss (by k_dflt decide) (by walk_at "dp")))
local macro_rules | `(tactic| walk_at "e") => `(tactic| with_reducible first
  | refine WSS.nil ?_
  | (show thenS _ _ _ _ _ _; first | refine thenS_next ?_ | refine thenS_ret ?_)
  | (show turnQ _ _ _ _ _; first | refine turnQ_next ?_)
  | refine whileQ_ret ?_
  | (show WS _ _ _ _ _; first | refine WS.assign ?_ | refine WS.ifS ?_ | refine WS.ret ?_ | refine WS.ret0 ?_ | refine WS.expr ?_ | refine WS.augName (by walk_at "okt") (by walk_at "lk") ?_ | refine WS.augSub ?_)
  | (show WE _ _ _ _ _; first | refine WE.loc1 (by k_dflt rfl) (by walk_at "okt") (by walk_at "lk") ?_ | refine WE.cellv (by k_dflt rfl) (by walk_at "okt") (by k_dflt rfl) (by walk_at "ob") ?_ | refine WE.globI (by walk_at "okt") (by walk_at "kg") ?_ | refine WE.globR (by walk_at "okt") (by walk_at "k") ?_ | refine WE.blt (by walk_at "okt") (by walk_at "k") (by walk_at "bk") (by k_dflt decide) ?_ | refine WE.cint ?_ | refine WE.cstr ?_ | refine WE.cbool ?_ | refine WE.bin ?_ | refine WE.cmp ?_ | refine WE.un ?_ | refine WE.ite ?_ | refine WE.attr ?_ | refine WE.sliceA ?_ | refine WE.sub ?_ | refine WE.tup ?_ | refine WE.list ?_ | refine WE.or2 ?_ | refine WE.meth ?_ | refine WE.callR (f := Value.builtin _) (fun Q' h => WE.blt (by walk_at "okt") (by walk_at "k") (by walk_at "bk") (by k_dflt decide) h) (by k_dflt rfl) ?_ | refine WE.callR (f := Value.type _) (fun Q' h => WE.blt (by walk_at "okt") (by walk_at "k") (by walk_at "bk") (by k_dflt decide) h) (by k_dflt rfl) ?_ | refine WE.callR (fun Q' h => WE.globR (by walk_at "okt") (by walk_at "k") h) (by walk_at "kk") ?_)
  | refine WPart.no ?_ | refine WPart.yes ?_
  | (show WT _ _ _ _ _; first | refine WT.cmp ?_ | refine WT.not ?_ | refine WT.and2 ?_ | refine WT.or2 ?_ | refine WT.or3 ?_ | refine WT.val ?_)
  | refine WL.nil ?_ | refine WL.cons ?_
  | (show WA _ _ _ _ _ _; first | refine WA.name (by walk_at "okt") ?_ | refine WA.cellv (by k_dflt rfl) (by walk_at "okt") (by k_dflt rfl) (by walk_at "ob") ?_ | refine WA.sub ?_ | refine WA.attr ?_ | k_dflt refine WA.tup2 (by walk_at "okt") ?_)
  | refine W1.neg ?_ | refine W1.attr (by walk_at "ob") (by walk_at "ob") (by k_dflt walk_at "ks") (by walk_at "dg") (by k_dflt rfl) ?_
  | (show W2 _ _ _ _ _ _ _; first | refine W2.add ?_ | refine W2.sub ?_ | refine W2.iadd ?_ | refine W2.lt ?_ | refine W2.gt ?_ | refine W2.ge ?_ | refine W2.eqI (by walk_at "un") ?_ | refine W2.eqC (by walk_at "un") ?_ | refine W2.neI (by walk_at "un") ?_ | refine W2.neC (by walk_at "un") ?_ | refine W2.inI (by walk_at "ob") ?_ | refine W2.notInI (by walk_at "ob") ?_)
  | refine W2u.setAttr' (by walk_at "ob") (by walk_at "ob") (by k_dflt walk_at "ks") (by k_dflt simp) (by walk_at "dp") ?_
  | (show WSub _ _ _ _ _ _; first | refine WSub.cell0 ?_ | refine WSub.cell1 ?_ | refine WSub.tup (by k_dflt decide) (by k_dflt decide) (by k_dflt rfl) ?_ | refine WSub.list (by walk_at "ob") (by k_dflt decide) (by k_dflt decide) (by k_dflt rfl) ?_)
  | (show WMeth _ _ _ _ _ _; first | refine WMeth.listM (by walk_at "ob") PySem.F.slot_list_append PySem.F.type_list_append ?_ | refine WMeth.listM (by walk_at "ob") PySem.F.slot_list_pop PySem.F.type_list_pop ?_ | refine WMeth.sdictM (by walk_at "ob") PySem.F.slot_dict_get PySem.F.type_dict_get ?_ | refine WMeth.tdictM (by walk_at "ob") PySem.F.slot_dict_get PySem.F.type_dict_get ?_ | refine WMeth.idictM (by walk_at "ob") PySem.F.slot_dict_setdefault PySem.F.type_dict_setdefault ?_ | refine WMeth.idictM (by walk_at "ob") PySem.F.slot_dict_values PySem.F.type_dict_values ?_ | refine WMeth.instM (by walk_at "ob") (by walk_at "ob") (by k_dflt walk_at "mk") (by walk_at "dg") ?_)
  | (show WC _ _ _ _ _ _; first | refine WC.len_list (by walk_at "ob") (by walk_at "sz") ?_ | refine WC.append (by walk_at "ob") (by walk_at "sz") ?_ | refine WC.values (by walk_at "ob") ?_ | refine WC.abs ?_ | refine WC.intInt ?_ | refine WC.list_list (by walk_at "ob") (by walk_at "sz") ?_)
  | refine WSet.list (by walk_at "ob") (by k_dflt decide) (by k_dflt decide) (by k_dflt (simp; done)) ?_
  | refine okL ?_ | refine okR ?_ | refine le_and (by walk_at "sz") ?_ | refine raw_and ?_ | refine iteF ?_ | refine iteT ?_ | refine isBool ?_ | refine isInt ?_)
local macro_rules | `(tactic| walk_at "m") => `(tactic| first | (with_reducible refine WSS.cons ?_) | walk_at "e")
local macro_rules | `(tactic| walk_at "mem") => `(tactic| (with_reducible (first | exact List.mem_cons_self | (refine List.mem_cons_of_mem _ ?_; walk_at "mem"))))
local macro_rules | `(tactic| walk_at "ks") => `(tactic| (dsimp only [Cx.push]; first | (with_reducible refine fk_of (by assumption) ?_; unfold ktab; walk_at "mem") | (with_reducible refine sk_of (by assumption) ?_; unfold ktab; walk_at "mem")))
local macro_rules | `(tactic| walk_at "mk") => `(tactic| (dsimp only [Cx.push]; with_reducible exact mk_of (by assumption) (by unfold mtab; walk_at "mem")))
local macro_rules | `(tactic| walk_at "bk") => `(tactic| with_reducible first | exact bk_len | exact bk_abs | exact bk_int | exact bk_list | exact bk_tuple | exact bk_range)
structure StA where
  a : Addr
  d : Addr
  b : Addr
  h : Addr
  k : Addr
  t : Addr
def StA.fields (S : StA) : List (Str × V) := [(Str.ofString "symbols", .ref S.b), (Str.ofString "max_heap", .int 100000), (Str.ofString "heap", .ref S.h), (Str.ofString "stack", .ref S.k), (Str.ofString "trail", .ref S.t), (Str.ofString "hb", .int 0), (Str.ofString "bb", .int 0)]
structure StoreAt (S : StA) (H : List V) (σ : Sg) : Prop where
  a : σ S.a = some (.inst 380 S.d)
  d : σ S.d = some (.sdict S.fields)
  h : σ S.h = some (.list H)
theorem c_push {B : Base} (hB : IsLaw B) {S : StA} {H : List V} {σ : Sg} (st : StoreAt S H σ) (x : V) (hz : H.length < 100000) {Q : V → Sg → Prop} (hQ : Q (.int H.length) (upd σ S.h (.list (H ++ [x])))) : Spec B (.ref 201) 1 [.ref S.a, x] σ Q := by
  refine Spec.fn (ok_push hB) rfl fun A gs L r hL => ?_
  have ok := (ok_push hB).okc (gs := gs) (L := L) r
  obtain ⟨h1, h2, h3⟩ := st
  unfold StA.fields at h2
  refine WSS.cons ?_
  repeat walk_at "m"
  refine iteB (fun h => absurd h (by omega)) fun _ => ?_
  repeat walk_at "m"
  exact hQ
/-! ## cells -/
inductive DerN (H : List Cell) : Nat → Cell → Cell → Prop
  | here {x : Cell} : x.1 ≠ 0 → x.1 ≠ 1 → DerN H 0 x x
  | self {x : Cell} : x.1 = 0 → 0 ≤ x.2 → H[x.2.toNat]? = some x → DerN H 0 x x
  | step {n : Nat} {x y z : Cell} : x.1 = 0 → 0 ≤ x.2 → H[x.2.toNat]? = some y → y ≠ x → DerN H n y z → DerN H (n + 1) x z
def Der (H : List Cell) (x y : Cell) : Prop := ∃ n, DerN H n x y
theorem DerN.tag {H : List Cell} {n : Nat} {x y : Cell} (h : DerN H n x y) : y.1 ≠ 1 := by
  induction h with
  | here _ h => exact h
  | self h => rw [h]; decide
  | step _ _ _ _ _ ih => exact ih
abbrev isCmp (x : Cell) : Prop := x.1 = 2 ∨ x.1 = 3

theorem c_new_var {B : Base} (hB : IsLaw B) {S : StA} {H : List V} {σ : Sg} (st : StoreAt S H σ) (hz : H.length < 100000) {Q : V → Sg → Prop} (hQ : Q (.tup [.int 0, .int H.length]) (upd σ S.h (.list (H ++ [.tup [.int 0, .int H.length]])))) : Spec B (.ref 208) 2 [.ref S.a] σ Q := by
  refine Spec.fn (ok_new_var hB) rfl fun A gs L r hL => ?_
  have ok := (ok_new_var hB).okc (gs := gs) (L := L) r
  have st0 := st
  obtain ⟨h1, h2, h3⟩ := st
  unfold StA.fields at h2
  refine WSS.cons ?_
  repeat walk_at "m"
  refine WC.spec r (c_push hB st0 _ hz ?_)
  repeat walk_at "m"
  exact hQ

theorem c_deref {B : Base} (hB : IsLaw B) {S : StA} {H : List Cell} {σ : Sg} (st : StoreAt S (H.map enc) σ) (hz : H.length ≤ 100000) {n : Nat} {x d : Cell} (hd : DerN H n x d) {Q : V → Sg → Prop} (hQ : Q (enc d) σ) : Spec B (.ref 229) 1 [.ref S.a, enc x] σ Q := by
  refine Spec.fn (ok_deref hB) rfl fun A gs L r hL => ?_
  have ok := (ok_deref hB).okc (gs := gs) (L := L) r
  obtain ⟨h1, h2, h3⟩ := st
  unfold StA.fields at h2
  refine WSS.one ?_
  refine WS.loop (fun n ρ σ' => σ' = σ ∧ ρ (Str.ofString "self") = some (.ref S.a) ∧ ∃ x, ρ (Str.ofString "cell") = some (enc x) ∧ DerN H n x d) n ⟨rfl, by walk_at "lk", x, by walk_at "lk", hd⟩ ?_
  rintro n ρ _ ⟨rfl, hs, x, hc, hd⟩
  repeat walk_at "m"
  refine iteB (fun h => ?_) (fun h => ?_)
  · cases hd with
    | here h' => exact absurd h h'
    | self _ h0 hu =>
      repeat walk_at "m"
      refine WSub.cells (by walk_at "ob") h0 hu (by omega) ?_
      repeat walk_at "m"
      refine iteB (fun _ => ?_) (fun h => absurd rfl h)
      repeat walk_at "m"
      exact hQ
    | step _ h0 hu hne hd =>
      repeat walk_at "m"
      refine WSub.cells (by walk_at "ob") h0 hu (by omega) ?_
      repeat walk_at "m"
      refine iteB (fun h => absurd h hne) (fun h => ?_)
      repeat walk_at "m"
      exact whileQ_next _ (Nat.lt_succ_self _) ⟨rfl, by walk_at "lk", _, by walk_at "lk", hd⟩
  · cases hd with
    | self h' => exact absurd h' h
    | step h' => exact absurd h' h
    | here h0 h1 =>
      repeat walk_at "m"
      refine iteB (fun h => absurd h h1) (fun h => ?_)
      repeat walk_at "m"
      exact hQ

theorem c_globalise {B : Base} (hB : IsLaw B) {S : StA} {H : List Cell} {σ : Sg} (st : StoreAt S (H.map enc) σ) (hz : H.length ≤ 100000) {x d : Cell} (hd : Der H x d) {Q : V → Sg → Prop} (hQ : Q (enc d) σ) : Spec B (.ref 257) 2 [.ref S.a, enc x] σ Q := by
  refine Spec.fn (ok_globalise hB) rfl fun A gs L r hL => ?_
  have ok := (ok_globalise hB).okc (gs := gs) (L := L) r
  have st0 := st
  obtain ⟨h1, h2, h3⟩ := st
  unfold StA.fields at h2
  obtain ⟨n, hd⟩ := hd
  refine WSS.cons ?_
  repeat walk_at "m"
  refine WC.spec r (c_deref hB st0 hz hd ?_)
  repeat walk_at "m"
  refine iteB (fun h => absurd h hd.tag) (fun h => ?_)
  repeat walk_at "m"
  exact hQ

theorem c_is_compound {B : Base} (hB : IsLaw B) {a : Addr} {x : Cell} {σ : Sg} {Q : V → Sg → Prop} (hQ : Q (.bool (decide (isCmp x))) σ) : Spec B (.ref 285) 1 [.ref a, enc x] σ Q := by
  refine Spec.fn (ok_is_compound hB) rfl fun A gs L r hL => ?_
  have ok := (ok_is_compound hB).okc (gs := gs) (L := L) r
  refine WSS.cons ?_
  repeat walk_at "m"
  refine iteB (fun h => ?_) (fun h => ?_)
  · rw [show decide (isCmp x) = true from by simp [isCmp, h]] at hQ; exact hQ
  · repeat walk_at "m"
    have : decide (isCmp x) = decide (x.1 = 3) := by simp [isCmp, h]
    rw [this] at hQ; exact hQ

theorem c_base {B : Base} (hB : IsLaw B) {a : Addr} {x : Cell} {σ : Sg} {Q : V → Sg → Prop} (hQ : Q (.int (if x.1 = 3 then x.2 else x.2 + 1)) σ) : Spec B (.ref 306) 1 [.ref a, enc x] σ Q := by
  refine Spec.fn (ok_base hB) rfl fun A gs L r hL => ?_
  have ok := (ok_base hB).okc (gs := gs) (L := L) r
  refine WSS.cons ?_
  repeat walk_at "m"
  refine iteB (fun h => ?_) (fun h => ?_)
  · rw [if_pos h] at hQ
    repeat walk_at "m"
    exact hQ
  · rw [if_neg h] at hQ
    repeat walk_at "m"
    exact hQ

theorem c_bind {B : Base} (hB : IsLaw B) {S : StA} {H : List V} {σ : Sg} (st : StoreAt S H σ) (hz : H.length ≤ 100000) {p : Int} (h0 : 0 ≤ p) (hp : p < H.length) (v : V) {Q : V → Sg → Prop} (hQ : Q .none (upd σ S.h (.list (H.set p.toNat v)))) : Spec B (.ref 243) 1 [.ref S.a, enc (0, p), v] σ Q := by
  refine Spec.fn (ok_bind hB) rfl fun A gs L r hL => ?_
  have ok := (ok_bind hB).okc (gs := gs) (L := L) r
  obtain ⟨h1, h2, h3⟩ := st
  unfold StA.fields at h2
  refine WSS.cons ?_
  repeat walk_at "m"
  refine iteB (fun h => ?_) (fun h => absurd rfl h)
  repeat walk_at "m"
  refine WSet.list (by walk_at "ob") h0 (by omega) (by omega) ?_
  repeat walk_at "m"
  refine iteB (fun h => by simp at h; omega) (fun h => ?_)
  repeat walk_at "m"
  exact hQ

theorem c_bind_pair {B : Base} (hB : IsLaw B) {S : StA} {H : List V} {σ : Sg} (st : StoreAt S H σ) (hz : H.length ≤ 100000) {p q : Int} (h0 : 0 ≤ p) (hpq : p ≤ q) (hp : q < H.length) {Q : V → Sg → Prop} (hQ1 : p = q → Q .none σ) (hQ : p < q → Q .none (upd σ S.h (.list (H.set q.toNat (enc (0, p)))))) : Spec B (.ref 250) 2 [.ref S.a, enc (0, p), enc (0, q)] σ Q := by
  refine Spec.fn (ok_bind_pair hB) rfl fun A gs L r hL => ?_
  have ok := (ok_bind_pair hB).okc (gs := gs) (L := L) r
  have st0 := st
  obtain ⟨h1, h2, h3⟩ := st
  unfold StA.fields at h2
  refine WSS.cons ?_
  repeat walk_at "m"
  refine iteB (fun h => ?_) (fun h => ?_)
  · repeat walk_at "m"
    exact hQ1 (by simpa using congrArg Prod.snd h)
  · have hlt : p < q := by
      rcases Int.lt_or_eq_of_le hpq with h' | h'
      · exact h'
      · subst h'; exact absurd rfl h
    repeat walk_at "m"
    refine iteB (fun h => ?_) (fun h => absurd rfl h)
    repeat walk_at "m"
    refine iteB (fun h => ?_) (fun h => absurd hlt h)
    repeat walk_at "m"
    refine WC.spec r (c_bind hB st0 hz (by omega) hp _ ?_)
    repeat walk_at "m"
    exact hQ hlt
theorem rangeN_zero {k : Int} (h : 0 ≤ k) : rangeN 0 k 1 = k.toNat := by
  unfold rangeN
  rw [rangeSize_one]
  split <;> lia
theorem small_zero {k : Int} (h : 0 ≤ k) (h' : k ≤ 1000000) : Builtin.Range.small 0 k 1 = true := small_one (by lia) (by lia) (by lia) (by lia)

theorem c_reserve {B : Base} (hB : IsLaw B) {S : StA} {H : List Cell} {σ : Sg} (st : StoreAt S (H.map enc) σ) {k : Int} (h0 : 0 ≤ k) (hz : H.length + k ≤ 100000) {Q : V → Sg → Prop} (hQ : Q (.int H.length) (upd σ S.h (.list ((H ++ selfs H.length k.toNat).map enc)))) : Spec B (.ref 215) 1 [.ref S.a, .int k] σ Q := by
  refine Spec.fn (ok_reserve hB) rfl fun A gs L r hL => ?_
  have ok := (ok_reserve hB).okc (gs := gs) (L := L) r
  obtain ⟨h1, h2, h3⟩ := st
  unfold StA.fields at h2
  have hl : (H.map enc).length = H.length := by simp
  refine WSS.cons ?_
  repeat walk_at "m"
  rw [hl]
  refine iteB (fun h => absurd h (by omega)) (fun h => ?_)
  repeat walk_at "m"
  refine WS.forRange ok (WRange.one ?_)
  repeat walk_at "m"
  refine ⟨small_zero h0 (by omega), fun i ρ σ' => i ≤ k.toNat ∧ σ' = upd σ S.h (.list ((H ++ selfs H.length i).map enc)) ∧ ρ (Str.ofString "self") = some (.ref S.a) ∧ ρ (Str.ofString "first") = some (.int H.length), ⟨Nat.zero_le _, ?_, by walk_at "lk", by walk_at "lk"⟩, ?_, ?_⟩
  · simp [selfs, upd_self h3]
  · rintro g i ρ _ hi ⟨hi', rfl, hs, hf⟩
    rw [rangeN_zero h0] at hi
    repeat walk_at "m"
    refine ⟨hi, ?_, by walk_at "lk", by walk_at "lk"⟩
    rw [upd_upd, selfs_succ]
    simp [enc]
  · rw [rangeN_zero h0]
    rintro ρ _ ⟨_, rfl, hs, hf⟩
    repeat walk_at "m"
    exact hQ

/-! ## symbols -/
structure SyA where
  b : Addr
  e : Addr
  tx : Addr
  an : Addr
  fu : Addr
  fn : Addr
def SyA.fields (Y : SyA) : List (Str × V) := [(Str.ofString "texts", .ref Y.tx), (Str.ofString "atom_numbers", .ref Y.an), (Str.ofString "functors", .ref Y.fu), (Str.ofString "functor_numbers", .ref Y.fn)]
structure Sy where
  T : List Str
  M : List (Str × Int)
  F : List Cell
  G : List (List Int × Int)
structure SymAt (Y : SyA) (D : Sy) (σ : Sg) : Prop where
  b : σ Y.b = some (.inst 154 Y.e)
  e : σ Y.e = some (.sdict Y.fields)
  tx : σ Y.tx = some (.list (D.T.map V.str))
  an : σ Y.an = some (.sdict (D.M.map fun p => (p.1, .int p.2)))
  fu : σ Y.fu = some (.list (D.F.map enc))
  fn : σ Y.fn = some (.tdict (D.G.map fun p => (p.1, .int p.2)))
  ne : Y.tx ≠ Y.fu ∧ Y.e ≠ Y.an
theorem SymAt.kp {Y : SyA} {D : Sy} {σ σ' : Sg} (s : SymAt Y D σ) {ex : List Addr} (k : Kp ex σ σ') (h : ∀ a ∈ ex, a ≠ Y.b ∧ a ≠ Y.e ∧ a ≠ Y.tx ∧ a ≠ Y.an ∧ a ≠ Y.fu ∧ a ≠ Y.fn) : SymAt Y D σ' :=
  ⟨k _ _ s.b fun q => (h _ q).1 rfl, k _ _ s.e fun q => (h _ q).2.1 rfl, k _ _ s.tx fun q => (h _ q).2.2.1 rfl, k _ _ s.an fun q => (h _ q).2.2.2.1 rfl, k _ _ s.fu fun q => (h _ q).2.2.2.2.1 rfl, k _ _ s.fn fun q => (h _ q).2.2.2.2.2 rfl, s.ne⟩

theorem c_arity {B : Base} (hB : IsLaw B) {Y : SyA} {D : Sy} {σ : Sg} (sy : SymAt Y D σ) {f : Int} {k : Cell} (h0 : 0 ≤ f) (hk : D.F[f.toNat]? = some k) (hz : D.F.length ≤ 1000) {Q : V → Sg → Prop} (hQ : Q (.int k.2) σ) : Spec B (.ref 123) 1 [.ref Y.b, .int f] σ Q := by
  refine Spec.fn (ok_sym_arity hB) rfl fun A gs L r hL => ?_
  have ok := (ok_sym_arity hB).okc (gs := gs) (L := L) r
  obtain ⟨h1, h2, h3, h4, h5, h6, h7⟩ := sy
  unfold SyA.fields at h2
  refine WSS.cons ?_
  repeat walk_at "m"
  refine WSub.cells (by walk_at "ob") h0 hk (by omega) ?_
  repeat walk_at "m"
  exact hQ

def fnOf (H : List Cell) (x : Cell) : Int := if x.1 = 3 then 0 else ((H[x.2.toNat]?).getD (0, 0)).2
def ar (F : List Cell) (f : Int) : Int := ((F[f.toNat]?).getD (0, 0)).2
def wd (F H : List Cell) (x : Cell) : Int := if x.1 = 3 then 2 else ar F (fnOf H x)
def bs (x : Cell) : Int := if x.1 = 3 then x.2 else x.2 + 1
/-- a compound cell that may be looked into -/
structure CmpOK (F H : List Cell) (x : Cell) : Prop where
  c : isCmp x
  p : 0 ≤ x.2
  f : x.1 = 2 → x.2 < H.length ∧ 0 ≤ fnOf H x ∧ fnOf H x < F.length

theorem c_functor_of {B : Base} (hB : IsLaw B) {S : StA} {F H : List Cell} {σ : Sg} (st : StoreAt S (H.map enc) σ) (hz : H.length ≤ 100000) {x : Cell} (hx : CmpOK F H x) {Q : V → Sg → Prop} (hQ : Q (.int (fnOf H x)) σ) : Spec B (.ref 292) 1 [.ref S.a, enc x] σ Q := by
  refine Spec.fn (ok_functor_of hB) rfl fun A gs L r hL => ?_
  have ok := (ok_functor_of hB).okc (gs := gs) (L := L) r
  obtain ⟨h1, h2, h3⟩ := st
  unfold StA.fields at h2
  refine WSS.cons ?_
  repeat walk_at "m"
  refine iteB (fun h => ?_) (fun h => ?_)
  · obtain ⟨a, b, c⟩ := hx.f h
    have hp := hx.p
    have e : H[x.2.toNat]? = some (H[x.2.toNat]'(by omega)) := List.getElem?_eq_getElem (by omega)
    repeat walk_at "m"
    refine WSub.cells (by walk_at "ob") hx.p e (by omega) ?_
    repeat walk_at "m"
    have : fnOf H x = (H[x.2.toNat]'(by omega)).2 := by unfold fnOf; rw [if_neg (by rw [h]; decide), e]; rfl
    rw [← this]; exact hQ
  · have h3 : x.1 = 3 := by rcases hx.c with h' | h'; exact absurd h' h; exact h'
    repeat walk_at "m"
    refine iteB (fun h => ?_) (fun h => absurd h3 h)
    repeat walk_at "m"
    have : fnOf H x = 0 := by unfold fnOf; rw [if_pos h3]
    rw [← this]; exact hQ

theorem c_width {B : Base} (hB : IsLaw B) {S : StA} {Y : SyA} {D : Sy} {H : List Cell} {σ : Sg} (st : StoreAt S (H.map enc) σ) (sy : SymAt Y D σ) (hb : S.b = Y.b) (hz : H.length ≤ 100000) (hz2 : D.F.length ≤ 1000) {x : Cell} (hx : CmpOK D.F H x) {Q : V → Sg → Prop} (hQ : Q (.int (wd D.F H x)) σ) : Spec B (.ref 299) 2 [.ref S.a, enc x] σ Q := by
  refine Spec.fn (ok_width hB) rfl fun A gs L r hL => ?_
  have ok := (ok_width hB).okc (gs := gs) (L := L) r
  obtain ⟨h1, h2, h3⟩ := st
  unfold StA.fields at h2
  have sy0 := sy
  obtain ⟨g1, g2, g3, g4, g5, g6, g7⟩ := sy
  unfold SyA.fields at g2
  rw [hb] at h2
  refine WSS.cons ?_
  repeat walk_at "m"
  refine iteB (fun h => ?_) (fun h => ?_)
  · repeat walk_at "m"
    have : wd D.F H x = 2 := by unfold wd; rw [if_pos h]
    rw [← this]; exact hQ
  · have h2' : x.1 = 2 := by rcases hx.c with h' | h'; exact h'; exact absurd h' h
    obtain ⟨a, b, c⟩ := hx.f h2'
    have hp := hx.p
    have e : H[x.2.toNat]? = some (H[x.2.toNat]'(by omega)) := List.getElem?_eq_getElem (by omega)
    have e1 : fnOf H x = (H[x.2.toNat]'(by omega)).2 := by unfold fnOf; rw [if_neg h, e]; rfl
    have e2 : D.F[(fnOf H x).toNat]? = some (D.F[(fnOf H x).toNat]'(by omega)) := List.getElem?_eq_getElem (by omega)
    have e3 : wd D.F H x = (D.F[(fnOf H x).toNat]'(by omega)).2 := by unfold wd ar; rw [if_neg h, e2]; rfl
    repeat walk_at "m"
    refine iteB (fun _ => ?_) (fun h => absurd h2' h)
    repeat walk_at "m"
    refine WSub.cells (by walk_at "ob") hx.p e (by omega) ?_
    repeat walk_at "m"
    rw [← e1]
    refine WC.spec r (c_arity hB sy0 b e2 hz2 ?_)
    rw [← e3]; exact hQ

def blk (f : Int) (H : List Cell) (w : Nat) : List Cell := if f = 0 then H ++ selfs H.length 2 else H ++ [((6 : Int), f)] ++ selfs (H.length + 1) w
def mdc (f : Int) (H : List Cell) : Cell := if f = 0 then (3, H.length) else (2, H.length)
theorem selfs_set (H : List Cell) (k : Nat) (x : Cell) : (H ++ selfs H.length (k + 1)).set H.length x = H ++ [x] ++ selfs (H.length + 1) k := by
  have : selfs H.length (k + 1) = (0, (H.length : Int)) :: selfs (H.length + 1) k := by
    simp [selfs, List.range_succ_eq_map, Function.comp_def]
    intro i _; lia
  rw [this]; simp
theorem c_new_block {B : Base} (hB : IsLaw B) {S : StA} {Y : SyA} {D : Sy} {H : List Cell} {σ : Sg} (st : StoreAt S (H.map enc) σ) (sy : SymAt Y D σ) (hb : S.b = Y.b) (hz2 : D.F.length ≤ 1000) {f : Int} (h0 : 0 ≤ f) (hf : f < D.F.length) (ha : 0 ≤ ar D.F f) (hz : H.length + 3 + ar D.F f ≤ 100000)
    {Q : V → Sg → Prop} (hQ : Q (enc (mdc f H)) (upd σ S.h (.list ((blk f H (ar D.F f).toNat).map enc)))) : Spec B (.ref 320) 2 [.ref S.a, .int f] σ Q := by
  refine Spec.fn (ok_new_block hB) rfl fun A gs L r hL => ?_
  have ok := (ok_new_block hB).okc (gs := gs) (L := L) r
  have st0 := st
  obtain ⟨h1, h2, h3⟩ := st
  unfold StA.fields at h2
  have sy0 := sy
  obtain ⟨g1, g2, g3, g4, g5, g6, g7⟩ := sy
  unfold SyA.fields at g2
  rw [hb] at h2
  refine WSS.cons ?_
  repeat walk_at "m"
  refine iteB (fun h => ?_) (fun h => ?_)
  · subst h
    simp only [blk, mdc, if_true] at hQ
    repeat walk_at "m"
    refine WC.spec r (c_reserve hB st0 (by decide) (by omega) ?_)
    repeat walk_at "m"
    exact hQ
  · simp only [blk, mdc, h, if_false] at hQ
    have e2 : D.F[f.toNat]? = some (D.F[f.toNat]'(by omega)) := List.getElem?_eq_getElem (by omega)
    have e3 : ar D.F f = (D.F[f.toNat]'(by omega)).2 := by unfold ar; rw [e2]; rfl
    repeat walk_at "m"
    refine WC.spec r (c_arity hB sy0 h0 e2 hz2 ?_)
    rw [← e3]
    repeat walk_at "m"
    refine WC.spec r (c_reserve hB st0 (by omega) (by omega) ?_)
    repeat walk_at "m"
    refine WSet.list (by walk_at "ob") (by omega) (by omega) (by simp [selfs_length]; omega) ?_
    repeat walk_at "m"
    rw [upd_upd]
    have e4 : (1 + ar D.F f).toNat = (ar D.F f).toNat + 1 := by omega
    have e5 : (((H ++ selfs H.length (1 + ar D.F f).toNat).map enc).set (H.length : Int).toNat (.tup [.int 6, .int f])) = (H ++ [((6 : Int), f)] ++ selfs (H.length + 1) (ar D.F f).toNat).map enc := by
      rw [e4, ← selfs_set, List.map_set]; rfl
    rw [e5]
    exact hQ
theorem StoreAt.kp {S : StA} {H : List V} {σ σ' : Sg} (s : StoreAt S H σ) {ex : List Addr} (k : Kp ex σ σ') (h : ∀ a ∈ ex, a ≠ S.a ∧ a ≠ S.d ∧ a ≠ S.h) : StoreAt S H σ' :=
  ⟨k _ _ s.a fun q => (h _ q).1 rfl, k _ _ s.d fun q => (h _ q).2.1 rfl, k _ _ s.h fun q => (h _ q).2.2 rfl⟩
theorem StoreAt.put {S : StA} {H : List V} {σ : Sg} (s : StoreAt S H σ) {a : Addr} {o : O} (h : σ a = none) : StoreAt S H (upd σ a o) :=
  ⟨upd_at (ne_fr' s.a h) s.a, upd_at (ne_fr' s.d h) s.d, upd_at (ne_fr' s.h h) s.h⟩
theorem SymAt.put {Y : SyA} {D : Sy} {σ : Sg} (s : SymAt Y D σ) {a : Addr} {o : O} (h : σ a = none) : SymAt Y D (upd σ a o) :=
  ⟨upd_at (ne_fr' s.b h) s.b, upd_at (ne_fr' s.e h) s.e, upd_at (ne_fr' s.tx h) s.tx, upd_at (ne_fr' s.an h) s.an, upd_at (ne_fr' s.fu h) s.fu, upd_at (ne_fr' s.fn h) s.fn, s.ne⟩
/-- the store's list is none of the symbols' -/
structure Apart (S : StA) (Y : SyA) : Prop where
  b : S.b = Y.b
  t : S.h ≠ Y.tx
  f : S.h ≠ Y.fu
theorem c_arg {B : Base} (hB : IsLaw B) {S : StA} {F H : List Cell} {σ : Sg} (st : StoreAt S (H.map enc) σ) (hz : H.length ≤ 100000) {x y : Cell} {i : Int} (h0 : 0 ≤ bs x + i - 1) (hy : H[(bs x + i - 1).toNat]? = some y) {Q : V → Sg → Prop} (hQ : Q (enc y) σ) : Spec B (.ref 313) 2 [.ref S.a, enc x, .int i] σ Q := by
  refine Spec.fn (ok_arg hB) rfl fun A gs L r hL => ?_
  have ok := (ok_arg hB).okc (gs := gs) (L := L) r
  obtain ⟨h1, h2, h3⟩ := st
  unfold StA.fields at h2
  refine WSS.cons ?_
  repeat walk_at "m"
  refine WC.spec r (c_base hB ?_)
  repeat walk_at "m"
  refine WSub.cells (by walk_at "ob") h0 hy (by omega) ?_
  exact hQ

/-- a block, filled -/
def blkOf (f : Int) (H ds : List Cell) : List Cell := (if f = 0 then H else H ++ [((6 : Int), f)]) ++ ds
theorem fill_set {α : Type} (X ds ss : List α) (i : Nat) (v : α) (h : ds[i]? = some v) (hl : ds.length = ss.length) : (X ++ (ds.take i ++ ss.drop i)).set (X.length + i) v = X ++ (ds.take (i + 1) ++ ss.drop (i + 1)) := by
  have hi : i < ds.length := (List.getElem?_eq_some_iff.mp h).1
  rw [List.set_append_right _ _ (by lia), Nat.add_sub_cancel_left]
  rw [List.set_append_right _ _ (by simp; lia)]
  have e : i - (ds.take i).length = 0 := by simp; lia
  rw [e, List.drop_eq_getElem_cons (show i < ss.length by lia), List.set_cons_zero, List.take_add_one, h]
  simp

theorem c_new_struct {B : Base} (hB : IsLaw B) {S : StA} {Y : SyA} {D : Sy} {H : List Cell} {σ : Sg} (st : StoreAt S (H.map enc) σ) (sy : SymAt Y D σ) (ap : Apart S Y) (hz2 : D.F.length ≤ 1000) {f : Int} (h0 : 0 ≤ f) (hf : f < D.F.length) {cs ds : List Cell} {l : Addr}
    (hl : σ l = some (.list (cs.map enc))) (hne : l ≠ S.h) (hd : All2 (Der H) cs ds) (ha : ar D.F f = ds.length) (h1 : 0 < ds.length) (hF0 : ar D.F 0 = 2) (hz : H.length + 3 + ds.length ≤ 100000)
    {Q : V → Sg → Prop} (hQ : ∀ σ', Kp [S.h] σ σ' → σ' S.h = some (.list ((blkOf f H ds).map enc)) → Q (enc (mdc f H)) σ') : Spec B (.ref 341) 3 [.ref S.a, .int f, .ref l] σ Q := by
  refine Spec.fn (ok_new_struct hB) rfl fun A gs L r hL => ?_
  have ok := (ok_new_struct hB).okc (gs := gs) (L := L) r
  have st0 := st
  obtain ⟨s1, s2, s3⟩ := st
  unfold StA.fields at s2
  have hlen : cs.length = ds.length := hd.length
  have hcl : (cs.map enc).length = cs.length := by simp
  refine WSS.cons ?_
  repeat walk_at "m"
  refine iteB (fun h => absurd h (by simp; omega)) (fun h => ?_)
  repeat walk_at "m"
  intro a hfa
  repeat walk_at "m"
  refine WS.forList ok ?_
  repeat walk_at "m"
  have nea : l ≠ a := ne_fr' hl hfa
  refine ⟨l, cs.map enc, rfl, by walk_at "ob", fun i ρ σ' => σ' = upd σ a (.list ((ds.take i).map enc)) ∧ ρ (Str.ofString "self") = some (.ref S.a) ∧ ρ (Str.ofString "f") = some (.int f) ∧ ρ (Str.ofString "values") = some (.ref a), ⟨by simp, by walk_at "lk", by walk_at "lk", by walk_at "lk"⟩, ?_, ?_, ?_⟩
  · rintro i ρ _ ⟨rfl, _⟩; walk_at "ob"
  · rintro g i v ρ _ hi hv ⟨rfl, hs, hff, hva⟩
    rw [List.length_map] at hi
    rw [List.getElem?_map, List.getElem?_eq_getElem hi] at hv
    simp only [Option.map_some, Option.some.injEq] at hv
    subst hv
    have hdi : Der H cs[i] ds[i] := by
      have key : ∀ {cs ds : List Cell}, All2 (Der H) cs ds → ∀ i (h : i < cs.length) (h' : i < ds.length), Der H cs[i] ds[i] := by
        intro cs
        induction cs with
        | nil => intro ds _ i h; simp at h
        | cons c cs ih => intro ds hd i h h'; cases ds with
          | nil => simp at h'
          | cons d ds => cases i with
            | zero => exact hd.1
            | succ i => exact ih hd.2 i (by simpa using h) (by simpa using h')
      exact key hd i hi (by omega)
    have st1 : StoreAt S (H.map enc) (upd σ a (.list ((ds.take i).map enc))) := st0.put hfa
    repeat walk_at "m"
    refine WC.spec r (c_globalise hB st1 (by omega) hdi ?_)
    repeat walk_at "m"
    refine ⟨?_, by walk_at "lk", by walk_at "lk", by walk_at "lk"⟩
    rw [upd_upd, List.take_add_one, List.getElem?_eq_getElem (by omega), List.map_append]
    rfl
  · rw [hcl, hlen]
    rintro ρ _ ⟨rfl, hs, hff, hva⟩
    rw [List.take_of_length_le (Nat.le_refl _)]
    have st1 : StoreAt S (H.map enc) (upd σ a (.list (ds.map enc))) := st0.put hfa
    have sy1 : SymAt Y D (upd σ a (.list (ds.map enc))) := sy.put hfa
    repeat walk_at "m"
    refine WC.spec r (c_new_block hB st1 sy1 ap.b hz2 h0 hf (by omega) (by omega) ?_)
    repeat walk_at "m"
    refine WC.spec r ((c_base hB ?_).more (by omega))
    have ebs : (if (mdc f H).1 = 3 then (mdc f H).2 else (mdc f H).2 + 1) = ((if f = 0 then H else H ++ [((6 : Int), f)]).length : Int) := by
      unfold mdc; split <;> rename_i q <;> simp [q]
    rw [ebs]
    repeat walk_at "m"
    have nah : a ≠ S.h := ne_fr hfa s3
    have nha : S.h ≠ a := Ne.symm nah
    have eblk : blk f H (ar D.F f).toNat = (if f = 0 then H else H ++ [((6 : Int), f)]) ++ (ds.take 0 ++ (selfs (if f = 0 then H else H ++ [((6 : Int), f)]).length ds.length).drop 0) := by
      unfold blk
      by_cases q : f = 0
      · subst q; rw [hF0] at ha; simp [show ds.length = 2 by omega]
      · simp [q, ha]
    rw [eblk]
    generalize hX : (if f = 0 then H else H ++ [((6 : Int), f)]) = X
    have hXl : X.length ≤ H.length + 1 := by rw [← hX]; split <;> simp
    have hQ' := hQ
    unfold blkOf at hQ'
    rw [hX] at hQ'
    clear eblk ebs hX
    refine WS.forList ok ?_
    repeat walk_at "m"
    refine ⟨a, ds.map enc, rfl, by walk_at "ob", fun i ρ σ' => σ' = upd (upd σ a (.list (ds.map enc))) S.h (.list ((X ++ (ds.take i ++ (selfs X.length ds.length).drop i)).map enc)) ∧ ρ (Str.ofString "self") = some (.ref S.a) ∧ ρ (Str.ofString "place") = some (.int ((X.length + i : Nat) : Int)) ∧ ρ (Str.ofString "made") = some (enc (mdc f H)), ⟨by simp, by walk_at "lk", by walk_at "lk", by walk_at "lk"⟩, ?_, ?_, ?_⟩
    · rintro i ρ _ ⟨rfl, _⟩; walk_at "ob"
    · rintro g i v ρ _ hi hv ⟨rfl, hs, hpl, hmd⟩
      rw [List.length_map] at hi
      rw [List.getElem?_map, List.getElem?_eq_getElem hi] at hv
      simp only [Option.map_some, Option.some.injEq] at hv
      subst hv
      repeat walk_at "m"
      refine WSet.list (by walk_at "ob") (by omega) (by omega) (by simp [selfs_length]; omega) ?_
      repeat walk_at "m"
      refine ⟨?_, by walk_at "lk", by walk_at "lk", by walk_at "lk"⟩
      rw [upd_upd, ← List.map_set, Int.toNat_natCast, fill_set _ _ _ _ _ (List.getElem?_eq_getElem hi) (by rw [selfs_length])]
    · rw [List.length_map]
      rintro ρ _ ⟨rfl, hs, hpl, hmd⟩
      rw [List.take_of_length_le (Nat.le_refl _), List.drop_of_length_le (by rw [selfs_length]; exact Nat.le_refl _), List.append_nil]
      repeat walk_at "m"
      exact hQ' _ (((Kp.refl _ _).upd (.inr hfa)).upd (.inl (.head _))) (upd_same _ _ _)
def dgI {K : Type} [DecidableEq K] (l : List (K × Int)) (k : K) : Option Int := (l.find? fun p => decide (p.1 = k)).map (·.2)
def dpI {K : Type} [DecidableEq K] (l : List (K × Int)) (k : K) (v : Int) : List (K × Int) :=
  if l.any (fun p => decide (p.1 = k)) then l.map (fun p => if p.1 = k then (p.1, v) else p) else l ++ [(k, v)]
theorem dget_I {K : Type} [DecidableEq K] (l : List (K × Int)) (k : K) : dget (l.map fun p => (p.1, V.int p.2)) k = (dgI l k).map V.int := by
  induction l with
  | nil => rfl
  | cons p l ih =>
    simp only [dget, dgI, List.map_cons, List.find?_cons] at ih ⊢
    by_cases h : p.1 = k
    · simp [h]
    · simp only [h, decide_false]; exact ih
theorem dput_I {K : Type} [DecidableEq K] (l : List (K × Int)) (k : K) (v : Int) : dput (l.map fun p => (p.1, V.int p.2)) k (.int v) = (dpI l k v).map fun p => (p.1, V.int p.2) := by
  unfold dput dpI
  have : (l.map fun p => (p.1, V.int p.2)).any (fun p => decide (p.1 = k)) = l.any (fun p => decide (p.1 = k)) := by
    rw [List.any_map]; rfl
  rw [this]
  split
  · simp only [List.map_map]
    refine List.map_congr_left fun a _ => ?_
    by_cases h : a.1 = k <;> simp [h]
  · simp

def atomS (D : Sy) (t : Str) : Int × Sy := if 0 ≤ (dgI D.M t).getD (-1) then ((dgI D.M t).getD (-1), D) else (D.T.length, { D with T := D.T ++ [t], M := dpI D.M t D.T.length })
def functorS (D : Sy) (a n : Int) : Int × Sy := if 0 ≤ (dgI D.G [a, n]).getD (-1) then ((dgI D.G [a, n]).getD (-1), D) else (D.F.length, { D with F := D.F ++ [(a, n)], G := dpI D.G [a, n] D.F.length })
def funcS (D : Sy) (t : Str) (n : Int) : Int × Sy := functorS (atomS D t).2 (atomS D t).1 n
def Sy.fits (D : Sy) (k : Nat) : Prop := D.T.length ≤ k ∧ D.M.length ≤ k ∧ D.F.length ≤ k ∧ D.G.length ≤ k

theorem c_atom {B : Base} (hB : IsLaw B) {Y : SyA} {D : Sy} {σ : Sg} (sy : SymAt Y D σ) (hz : D.fits 900) (t : Str) {Q : V → Sg → Prop} (hQ : ∀ σ', Kp [Y.tx, Y.an] σ σ' → SymAt Y (atomS D t).2 σ' → Q (.int (atomS D t).1) σ') : Spec B (.ref 88) 1 [.ref Y.b, .str t] σ Q := by
  refine Spec.fn (ok_sym_atom hB) rfl fun A gs L r hL => ?_
  have ok := (ok_sym_atom hB).okc (gs := gs) (L := L) r
  have sy0 := sy
  obtain ⟨h1, h2, h3, h4, h5, h6, h7, h8⟩ := sy
  unfold SyA.fields at h2
  obtain ⟨z1, z2, z3, z4⟩ := hz
  refine WSS.cons ?_
  repeat walk_at "m"
  refine WC.get_sdict (by walk_at "ob") ?_
  rw [dget_I]
  have e : ((dgI D.M t).map V.int).getD (.int (-1)) = .int ((dgI D.M t).getD (-1)) := by cases dgI D.M t <;> rfl
  rw [e]
  unfold atomS at hQ
  repeat walk_at "m"
  refine iteB (fun h => ?_) (fun h => ?_)
  · rw [if_pos h] at hQ
    repeat walk_at "m"
    exact hQ _ (Kp.refl _ _) sy0
  · rw [if_neg h] at hQ
    repeat walk_at "m"
    have ht : (D.T.map V.str).length = D.T.length := by simp
    rw [ht]
    have n1 : Y.an ≠ Y.tx := ne_ob h4 h3 (by nofun)
    refine WSet.sdict (by walk_at "ob") (by simp; omega) ?_
    repeat walk_at "m"
    rw [dput_I]
    refine hQ _ (((Kp.refl _ _).upd (.inl (.head _))).upd (.inl (.tail _ (.head _)))) ⟨by walk_at "ob", ?_, ?_, by walk_at "ob", ?_, by walk_at "ob", h7, h8⟩
    · unfold SyA.fields; walk_at "ob"
    · refine upd_at (Ne.symm n1) ?_
      rw [upd_same]; simp
    · have n2 : Y.fu ≠ Y.tx := Ne.symm h7
      walk_at "ob"

theorem c_functor {B : Base} (hB : IsLaw B) {Y : SyA} {D : Sy} {σ : Sg} (sy : SymAt Y D σ) (hz : D.fits 900) (a n : Int) {Q : V → Sg → Prop} (hQ : ∀ σ', Kp [Y.fu, Y.fn] σ σ' → SymAt Y (functorS D a n).2 σ' → Q (.int (functorS D a n).1) σ') : Spec B (.ref 102) 1 [.ref Y.b, .int a, .int n] σ Q := by
  refine Spec.fn (ok_sym_functor hB) rfl fun A gs L r hL => ?_
  have ok := (ok_sym_functor hB).okc (gs := gs) (L := L) r
  have sy0 := sy
  obtain ⟨h1, h2, h3, h4, h5, h6, h7, h8⟩ := sy
  unfold SyA.fields at h2
  obtain ⟨z1, z2, z3, z4⟩ := hz
  have hu : A.units + 1 < cLine := by have := units_of r; omega
  refine WSS.cons ?_
  repeat walk_at "m"
  refine WC.get_tdict (k := [a, n]) hu (by walk_at "ob") ?_
  rw [dget_I]
  have e : ((dgI D.G [a, n]).map V.int).getD (.int (-1)) = .int ((dgI D.G [a, n]).getD (-1)) := by cases dgI D.G [a, n] <;> rfl
  rw [e]
  unfold functorS at hQ
  repeat walk_at "m"
  refine iteB (fun h => ?_) (fun h => ?_)
  · rw [if_pos h] at hQ
    repeat walk_at "m"
    exact hQ _ (Kp.refl _ _) sy0
  · rw [if_neg h] at hQ
    repeat walk_at "m"
    have ht : (D.F.map enc).length = D.F.length := by simp
    rw [ht]
    have n1 : Y.fn ≠ Y.fu := ne_ob h6 h5 (by nofun)
    refine WSet.tdict (k := [a, n]) hu (by walk_at "ob") (by simp; omega) ?_
    repeat walk_at "m"
    rw [dput_I]
    refine hQ _ (((Kp.refl _ _).upd (.inl (.head _))).upd (.inl (.tail _ (.head _)))) ⟨by walk_at "ob", ?_, ?_, by walk_at "ob", ?_, by walk_at "ob", h7, h8⟩
    · unfold SyA.fields; walk_at "ob"
    · walk_at "ob"
    · refine upd_at (Ne.symm n1) ?_
      rw [upd_same]; simp [enc]

theorem atomS_fits {D : Sy} {k : Nat} (h : D.fits k) (t : Str) : (atomS D t).2.fits (k + 1) := by
  obtain ⟨a, b, c, d⟩ := h
  unfold atomS
  split
  · exact ⟨by dsimp only; lia, by dsimp only; lia, by dsimp only; lia, by dsimp only; lia⟩
  · refine ⟨by simp; lia, ?_, by dsimp only; lia, by dsimp only; lia⟩
    simp only [dpI]; split <;> simp <;> lia
theorem functorS_fits {D : Sy} {k : Nat} (h : D.fits k) (x y : Int) : (functorS D x y).2.fits (k + 1) := by
  obtain ⟨a, b, c, d⟩ := h
  unfold functorS
  split
  · exact ⟨by dsimp only; lia, by dsimp only; lia, by dsimp only; lia, by dsimp only; lia⟩
  · refine ⟨by dsimp only; lia, by dsimp only; lia, by simp; lia, ?_⟩
    simp only [dpI]; split <;> simp <;> lia
theorem Sy.fits.mono {D : Sy} {k m : Nat} (h : D.fits k) (l : k ≤ m) : D.fits m := ⟨by have := h.1; lia, by have := h.2.1; lia, by have := h.2.2.1; lia, by have := h.2.2.2; lia⟩
theorem funcS_fits {D : Sy} {k : Nat} (h : D.fits k) (t : Str) (n : Int) : (funcS D t n).2.fits (k + 2) := functorS_fits (atomS_fits h t) _ _

theorem c_func {B : Base} (hB : IsLaw B) {Y : SyA} {D : Sy} {σ : Sg} (sy : SymAt Y D σ) (hz : D.fits 890) (t : Str) (n : Int) {Q : V → Sg → Prop} (hQ : ∀ σ', Kp [Y.tx, Y.an, Y.fu, Y.fn] σ σ' → SymAt Y (funcS D t n).2 σ' → Q (.int (funcS D t n).1) σ') : Spec B (.ref 109) 2 [.ref Y.b, .str t, .int n] σ Q := by
  refine Spec.fn (ok_sym_func hB) rfl fun A gs L r hL => ?_
  have ok := (ok_sym_func hB).okc (gs := gs) (L := L) r
  have sy0 := sy
  obtain ⟨h1, h2, h3, h4, h5, h6, h7, h8⟩ := sy
  unfold SyA.fields at h2
  refine WSS.cons ?_
  repeat walk_at "m"
  refine WC.spec r (c_atom hB sy0 (hz.mono (by omega)) t fun σ1 k1 s1 => ?_)
  repeat walk_at "m"
  refine WC.spec r (c_functor hB s1 ((atomS_fits hz t).mono (by omega)) _ _ fun σ2 k2 s2 => ?_)
  refine hQ _ ((k1.weak ?_).trans (k2.weak ?_)) s2 <;> simp
def atoms0 : List Str := ["[]", ".", "{}", "-", "+", "*", "/", ",", "|", ";", "->", "\\+", ":-", "?-", "-->", "!", "true", "fail", "false", "call", "=", "^", "error", "", "end_of_file", "system", "$VAR", "catch", "throw"].map Str.ofString
def functors0 : List (Str × Int) := [(".", 2), (",", 2), (";", 2), ("->", 2), ("\\+", 1), (":-", 2), (":-", 1), ("?-", 1), ("-->", 2), ("{}", 1), ("=", 2), ("^", 2), ("-", 1), ("-", 2), ("+", 2), ("/", 2), ("error", 2), ("$VAR", 1), ("catch", 3), ("throw", 1), ("!", 0), ("true", 0), ("fail", 0), ("false", 0), ("call", 1), ("call", 2), ("call", 3), ("call", 4), ("call", 5), ("call", 6), ("call", 7), ("call", 8)].map fun p => (Str.ofString p.1, (p.2 : Int))
def D00 : Sy := atoms0.foldl (fun D t => (atomS D t).2) ⟨[], [], [], []⟩
def D0 : Sy := functors0.foldl (fun D p => (funcS D p.1 p.2).2) D00
theorem c_fixed_atoms {B : Base} (hB : IsLaw B) {σ : Sg} {Q : V → Sg → Prop} (hQ : Q (.tup (atoms0.map V.str)) σ) : Spec B (.ref 60) 1 [] σ Q := by
  refine Spec.fn (ok_fixed_atoms hB) rfl fun A gs L r hL => ?_
  have ok := (ok_fixed_atoms hB).okc (gs := gs) (L := L) r
  refine WSS.cons ?_
  repeat walk_at "m"
  exact hQ
theorem c_fixed_functors {B : Base} (hB : IsLaw B) {σ : Sg} {Q : V → Sg → Prop} (hQ : Q (.tup (functors0.map fun p => .tup [.str p.1, .int p.2])) σ) : Spec B (.ref 67) 1 [] σ Q := by
  refine Spec.fn (ok_fixed_functors hB) rfl fun A gs L r hL => ?_
  have ok := (ok_fixed_functors hB).okc (gs := gs) (L := L) r
  refine WSS.cons ?_
  repeat walk_at "m"
  exact hQ
theorem foldl_take {α β : Type} (f : β → α → β) (b : β) (l : List α) (i : Nat) (x : α) (h : l[i]? = some x) : (l.take (i + 1)).foldl f b = f ((l.take i).foldl f b) x := by
  rw [List.take_add_one, h]; simp
theorem fits_atoms (l : List Str) : ∀ (D : Sy) (k : Nat), D.fits k → (l.foldl (fun D t => (atomS D t).2) D).fits (k + l.length) := by
  induction l with
  | nil => intro D k h; exact h
  | cons t l ih => intro D k h; exact (ih _ _ (atomS_fits h t)).mono (by simp; lia)
theorem fits_funcs (l : List (Str × Int)) : ∀ (D : Sy) (k : Nat), D.fits k → (l.foldl (fun D p => (funcS D p.1 p.2).2) D).fits (k + 2 * l.length) := by
  induction l with
  | nil => intro D k h; exact h
  | cons t l ih => intro D k h; exact (ih _ _ (funcS_fits h t.1 t.2)).mono (by simp; lia)

theorem c_sym_init {B : Base} (hB : IsLaw B) {a d : Addr} {σ : Sg} (h1 : σ a = some (.inst 154 d)) (h2 : σ d = some (.sdict [])) {Q : V → Sg → Prop}
    (hQ : ∀ Y σ', Y.b = a → Y.e = d → σ Y.tx = none → σ Y.an = none → σ Y.fu = none → σ Y.fn = none → Kp [d] σ σ' → SymAt Y D0 σ' → Q .none σ') : Spec B (.ref 81) 3 [.ref a] σ Q := by
  refine Spec.fn (ok_sym_init hB) rfl fun A gs L r hL => ?_
  have ok := (ok_sym_init hB).okc (gs := gs) (L := L) r
  refine WSS.cons ?_
  repeat walk_at "m"
  intro tx e1
  repeat walk_at "m"
  refine WE.sdict fun an f => ?_
  obtain ⟨n2, f⟩ := fr_upd f
  obtain ⟨n1, e2⟩ := fr_upd f
  repeat walk_at "m"
  intro fu f
  obtain ⟨n3, f⟩ := fr_upd f
  obtain ⟨n4, f⟩ := fr_upd f
  obtain ⟨_, f⟩ := fr_upd f
  obtain ⟨n5, e3⟩ := fr_upd f
  repeat walk_at "m"
  refine WE.tdict fun fn f => ?_
  obtain ⟨n6, f⟩ := fr_upd f
  obtain ⟨n7, f⟩ := fr_upd f
  obtain ⟨_, f⟩ := fr_upd f
  obtain ⟨n8, f⟩ := fr_upd f
  obtain ⟨_, f⟩ := fr_upd f
  obtain ⟨n9, e4⟩ := fr_upd f
  repeat walk_at "m"
  have n10 : tx ≠ d := ne_fr e1 h2
  have na : a ≠ d := ne_ob h1 h2 (by nofun)
  have na1 := ne_fr' h1 e1
  have na2 := ne_fr' h1 e2
  have na3 := ne_fr' h1 e3
  have na4 := ne_fr' h1 e4
  refine (?_ : ∀ σ1, Kp [d] σ σ1 → SymAt ⟨a, d, tx, an, fu, fn⟩ ⟨[], [], [], []⟩ σ1 → WS _ _ _ σ1 _) _ ?_ ?_
  rotate_left
  · exact ((((((((Kp.refl _ _).upd (.inr e1)).upd (.inl (.head _))).upd (.inr e2)).upd (.inl (.head _))).upd (.inr e3)).upd (.inl (.head _))).upd (.inr e4)).upd (.inl (.head _))
  · refine ⟨?_, upd_same _ _ _, ?_, ?_, ?_, ?_, ⟨Ne.symm n5, Ne.symm n2⟩⟩ <;> dsimp only [List.map_nil]
    · simp only [upd, na, na1, na2, na3, na4, if_false, h1]
    · simp only [upd, n10, Ne.symm n1, Ne.symm n5, Ne.symm n9, if_false, if_true]; try rfl
    · simp only [upd, n1, n2, Ne.symm n4, Ne.symm n8, if_false, if_true]; try rfl
    · simp only [upd, n3, Ne.symm n7, if_false, if_true]; try rfl
    · simp only [upd, n6, if_false, if_true]; try rfl
  intro σ1 k1 sy1
  have hat : (atoms0.map V.str).length = atoms0.length := by simp
  have hfu : (functors0.map fun p => V.tup [.str p.1, .int p.2]).length = functors0.length := by simp
  have hal : atoms0.length = 29 := by decide
  have hfl : functors0.length = 32 := by decide
  have ex : ∀ {l : List Addr}, (∀ x ∈ l, x = tx ∨ x = an ∨ x = fu ∨ x = fn) → ∀ {σ2 σ3 : Sg}, Kp l σ2 σ3 → Kp [d] σ σ2 → Kp [d] σ σ3 := by
    intro l hl σ2 σ3 k' k b o hb hx
    refine k' b o (k b o hb hx) fun q => ?_
    rcases hl b q with rfl | rfl | rfl | rfl
    · rw [e1] at hb; cases hb
    · rw [e2] at hb; cases hb
    · rw [e3] at hb; cases hb
    · rw [e4] at hb; cases hb
  refine WS.forTup ok ?_
  repeat walk_at "m"
  refine WC.specA r (c_fixed_atoms hB ?_)
  refine ⟨_, rfl, fun i ρ σ' => ρ (Str.ofString "self") = some (.ref a) ∧ Kp [d] σ σ' ∧ SymAt ⟨a, d, tx, an, fu, fn⟩ ((atoms0.take i).foldl (fun D t => (atomS D t).2) ⟨[], [], [], []⟩) σ', ⟨by walk_at "lk", k1, sy1⟩, ?_, ?_⟩
  · rintro g i v ρ σ2 hi hv ⟨hs, k2, sy2⟩
    rw [hat] at hi
    rw [List.getElem?_map, List.getElem?_eq_getElem hi] at hv
    simp only [Option.map_some, Option.some.injEq] at hv
    subst hv
    have hs1 := sy2.b
    have hs2 := sy2.e
    unfold SyA.fields at hs2
    dsimp only at hs1 hs2
    repeat walk_at "m"
    refine WC.spec r ((c_atom hB sy2 ((fits_atoms (atoms0.take i) _ 0 (by simp [Sy.fits])).mono (by simp; omega)) _ fun σ3 k3 sy3 => ?_).more (by omega))
    repeat walk_at "m"
    refine ⟨by walk_at "lk", ex (by simp) k3 k2, ?_⟩
    rw [foldl_take _ _ _ _ _ (List.getElem?_eq_getElem hi)]
    exact sy3
  · rw [hat]
    rintro ρ σ2 ⟨hs, k2, sy2⟩
    rw [List.take_of_length_le (Nat.le_refl _)] at sy2
    repeat walk_at "m"
    refine WS.forTup ok ?_
    repeat walk_at "m"
    refine WC.specA r (c_fixed_functors hB ?_)
    refine ⟨_, rfl, fun i ρ σ' => ρ (Str.ofString "self") = some (.ref a) ∧ Kp [d] σ σ' ∧ SymAt ⟨a, d, tx, an, fu, fn⟩ ((functors0.take i).foldl (fun D p => (funcS D p.1 p.2).2) D00) σ', ⟨by walk_at "lk", k2, sy2⟩, ?_, ?_⟩
    · rintro g i v ρ σ2 hi hv ⟨hs, k2, sy2⟩
      rw [hfu] at hi
      rw [List.getElem?_map, List.getElem?_eq_getElem hi] at hv
      simp only [Option.map_some, Option.some.injEq] at hv
      subst hv
      have hs1 := sy2.b
      have hs2 := sy2.e
      unfold SyA.fields at hs2
      dsimp only at hs1 hs2
      repeat walk_at "m"
      refine WC.spec r ((c_func hB sy2 ((fits_funcs (functors0.take i) _ 29 ((fits_atoms atoms0 _ 0 (by simp [Sy.fits])).mono (by omega))).mono (by simp; omega)) _ _ fun σ3 k3 sy3 => ?_).more (by omega))
      repeat walk_at "m"
      refine ⟨by walk_at "lk", ex (by simp) k3 k2, ?_⟩
      rw [foldl_take _ _ _ _ _ (List.getElem?_eq_getElem hi)]
      exact sy3
    · rw [hfu]
      rintro ρ σ2 ⟨hs, k2, sy2⟩
      rw [List.take_of_length_le (Nat.le_refl _)] at sy2
      repeat walk_at "m"
      exact hQ ⟨a, d, tx, an, fu, fn⟩ _ rfl rfl e1 e2 e3 e4 k2 sy2
def D1 : Sy := (funcS D0 (Str.ofString "g") 1).2
def D2 : Sy := (funcS D1 (Str.ofString "h") 2).2
def D3 : Sy := (funcS D2 (Str.ofString "f") 2).2
theorem d_g0 : (funcS D0 (Str.ofString "g") 1).1 = 32 := by decide +kernel
theorem d_h0 : (funcS D1 (Str.ofString "h") 2).1 = 33 := by decide +kernel
theorem d_f0 : (funcS D2 (Str.ofString "f") 2).1 = 34 := by decide +kernel
theorem d_g3 : funcS D3 (Str.ofString "g") 1 = (32, D3) := by kernel_rfl
theorem d_h3 : funcS D3 (Str.ofString "h") 2 = (33, D3) := by kernel_rfl
theorem d_f3 : funcS D3 (Str.ofString "f") 2 = (34, D3) := by kernel_rfl
theorem d_len0 : D0.F.length = 32 := by decide +kernel
theorem d_len3 : D3.F.length = 35 := by decide +kernel
theorem d_ar0 : ar D0.F 0 = 2 := by decide +kernel
theorem d_ar30 : ar D3.F 0 = 2 := by decide +kernel
theorem d_ar32 : ar D3.F 32 = 1 := by decide +kernel
theorem d_ar33 : ar D3.F 33 = 2 := by decide +kernel
theorem d_ar34 : ar D3.F 34 = 2 := by decide +kernel
theorem d_fits0 : D0.fits 100 := by unfold Sy.fits; decide +kernel
theorem d_fits1 : D1.fits 110 := (funcS_fits d_fits0 _ _).mono (by lia)
theorem d_fits2 : D2.fits 120 := (funcS_fits d_fits1 _ _).mono (by lia)
theorem d_fits3 : D3.fits 130 := (funcS_fits d_fits2 _ _).mono (by lia)

theorem c_Symbols {c : Cx} {ρ : Rho} {σ : Sg} (hB : IsLaw c.B) (r : Room c.A 4) {Q : V → Sg → Prop} (hQ : ∀ Y σ', σ Y.b = none → σ Y.e = none → σ Y.tx = none → σ Y.an = none → σ Y.fu = none → σ Y.fn = none → Kp [] σ σ' → SymAt Y D0 σ' → Q (.ref Y.b) σ') : WC c (.ref 154) [] ρ σ Q := by
  refine WC.cls (fI := 81) r (by rw [hB.k]; kernel_rfl) (by rw [hB.k]; kernel_rfl) (by rw [hB.k]; kernel_rfl) fun a d ha hd hne => ?_
  refine c_sym_init hB (upd_same _ _ _) (upd_at (Ne.symm hne) (upd_same _ _ _)) ?_
  rintro Y σ' rfl rfl f1 f2 f3 f4 k sy
  refine ⟨rfl, hQ Y σ' ha hd (fr_upd (fr_upd f1).2).2 (fr_upd (fr_upd f2).2).2 (fr_upd (fr_upd f3).2).2 (fr_upd (fr_upd f4).2).2 (fun b o hb _ => ?_) sy⟩
  have n1 := ne_fr' hb ha
  have n2 := ne_fr' hb hd
  exact k b o (by rw [upd_ne _ _ n1, upd_ne _ _ n2]; exact hb) (by simpa using n2)

noncomputable def fd_cells_init : { fd : FuncData // ∀ P, ∃ oc od osl, (hd.heap_1 P).lookup 194 = some ⟨oc, od, .func fd, osl⟩ } := ⟨_, fun P => ⟨_, _, _, by k_is⟩⟩
def dflt : { o : Obj // ∀ P, (hd.heap_1 P).lookup 187 = some o } := ⟨_, fun P => by k_is⟩
theorem c_cells_init {B : Base} (hB : IsLaw B) {a d b : Addr} {σ : Sg} (h1 : σ a = some (.inst 380 d)) (h2 : σ d = some (.sdict [])) {Q : V → Sg → Prop}
    (hQ : ∀ S σ', S.a = a → S.d = d → S.b = b → σ S.h = none → Kp [d] σ σ' → StoreAt S [] σ' → Q .none σ') : Spec B (.ref 194) 1 [.ref a, .ref b] σ Q := by
  obtain ⟨oc, od, osl, hK⟩ := fd_cells_init.2 B.w.params
  refine Spec.def (fd := fd_cells_init.1) (body := bodyOf fd_cells_init.1) (extra := [.int 100000 436]) (extraV := [.int 100000]) (names := namesOf fd_cells_init.1) (by rw [hB.k]; exact hK) (by rw [hB.k]; dsimp only [fd_cells_init]; k_is) rfl (fun s xs X e => ?_) (fun _ => by simp [Rels, Rel]) ?_ ?_ rfl rfl rfl rfl rfl ?_
  · have ho : s.heap.get? 187 = some dflt.1 := X _ _ (by rw [hB.k]; exact dflt.2 _)
    match xs, e with
    | [x, y], _ => exact BindsTo.of_defaults (T := 187) (items := #[.int 100000 436]) (n := 0) rfl ho rfl rfl rfl
  · intro x hx
    exact of_decide_eq_true (List.all_eq_true.mp (show (fd_cells_init.1.scope.names.all fun x => decide (x.2 ≠ .cell)) = true by decide +kernel) x hx)
  · intro x hx
    exact of_decide_eq_true (List.all_eq_true.mp (show ((namesOf fd_cells_init.1).all fun x => decide (fd_cells_init.1.scope.names.lookup x = some .local)) = true by decide +kernel) x hx)
  · intro A gs L r hL
    have ok : Cx.ok ⟨B, A, gs, callEnv fd_cells_init.1 L 194⟩ := r.ok (c := ⟨B, A, gs, callEnv fd_cells_init.1 L 194⟩) rfl rfl rfl
    refine WSS.cons ?_
    repeat walk_at "m"
    intro h f
    obtain ⟨n1, f⟩ := fr_upd f
    obtain ⟨_, f1⟩ := fr_upd f
    clear f
    repeat walk_at "m"
    intro k f
    obtain ⟨_, f⟩ := fr_upd f
    obtain ⟨n2, f⟩ := fr_upd f
    obtain ⟨_, f⟩ := fr_upd f
    obtain ⟨_, f2⟩ := fr_upd f
    clear f
    repeat walk_at "m"
    intro t f
    obtain ⟨_, f⟩ := fr_upd f
    obtain ⟨n3, f⟩ := fr_upd f
    obtain ⟨_, f⟩ := fr_upd f
    obtain ⟨n4, f⟩ := fr_upd f
    obtain ⟨_, f⟩ := fr_upd f
    obtain ⟨_, f3⟩ := fr_upd f
    clear f
    repeat walk_at "m"
    have na : a ≠ d := ne_ob h1 h2 (by nofun)
    have nh := ne_fr' h1 f1
    have nk := ne_fr' h1 f2
    have nt := ne_fr' h1 f3
    have kp : ∀ {σ' : Sg} (o : O), Kp [d] σ σ' → Kp [d] σ (upd σ' d o) := fun o k => k.upd (.inl (.head _))
    refine hQ ⟨a, d, b, h, k, t⟩ _ rfl rfl rfl f1 ?_ ⟨?_, upd_same _ _ _, ?_⟩
    · exact kp _ (kp _ (kp _ (Kp.upd (kp _ (Kp.upd (kp _ (Kp.upd (kp _ (kp _ (Kp.refl _ _))) (.inr f1))) (.inr f2))) (.inr f3))))
    · simp only [upd, na, nh, nk, nt, if_false, h1]
    · simp only [upd, n1, Ne.symm n2, Ne.symm n4, if_false, if_true]
theorem c_Store {c : Cx} {ρ : Rho} {σ : Sg} (hB : IsLaw c.B) (r : Room c.A 2) {b : Addr} {Q : V → Sg → Prop} (hQ : ∀ S σ', S.b = b → σ S.a = none → σ S.d = none → σ S.h = none → Kp [] σ σ' → StoreAt S [] σ' → Q (.ref S.a) σ') : WC c (.ref 380) [.ref b] ρ σ Q := by
  refine WC.cls (fI := 194) r (by rw [hB.k]; kernel_rfl) (by rw [hB.k]; kernel_rfl) (by rw [hB.k]; kernel_rfl) fun a d ha hd hne => ?_
  refine c_cells_init hB (upd_same _ _ _) (upd_at (Ne.symm hne) (upd_same _ _ _)) ?_
  rintro S σ' rfl rfl e f1 k st
  refine ⟨rfl, hQ S σ' e ha hd (fr_upd (fr_upd f1).2).2 (fun b o hb _ => ?_) st⟩
  have n1 := ne_fr' hb ha
  have n2 := ne_fr' hb hd
  exact k b o (by rw [upd_ne _ _ n1, upd_ne _ _ n2]; exact hb) (by simpa using n2)
theorem WSS.cut {c : Cx} {ρ : Rho} {σ : Sg} {st : Stmt} {rest : List Stmt} {Q : QS} (P : Rho → Sg → Prop) (h1 : WS c st ρ σ fun fl ρ' σ' => fl = .next ∧ P ρ' σ') (h2 : ∀ ρ' σ', P ρ' σ' → WSS c rest ρ' σ' Q) : WSS c (st :: rest) ρ σ Q :=
  WSS.cons fun s I => wpAny_mono (h1 s I) (fun _ _ ⟨st, fl, ρ', σ', I', r, e, p⟩ => ⟨st, fl, ρ', σ', I', r, by subst e; exact h2 _ _ p⟩) fun _ _ z => z
structure UrnAt (U l : Addr) (ns : List Int) (σ : Sg) : Prop where
  u : ∃ u k : Int, σ U = some (.list [.int u, .ref l, .int k]) ∧ 0 ≤ k
  li : σ l = some (.list (ns.map V.int))
  ne : U ≠ l
  z : ns.length ≤ 1000
theorem UrnAt.kp {U l : Addr} {ns : List Int} {σ σ' : Sg} (s : UrnAt U l ns σ) {ex : List Addr} (k : Kp ex σ σ') (h : ∀ a ∈ ex, a ≠ U ∧ a ≠ l) : UrnAt U l ns σ' := by
  obtain ⟨u, j, h1, h2⟩ := s.u
  exact ⟨⟨u, j, k _ _ h1 fun q => (h _ q).1 rfl, h2⟩, k _ _ s.li fun q => (h _ q).2 rfl, s.ne, s.z⟩
theorem c_pick {B : Base} (hB : IsLaw B) {U l : Addr} {ns : List Int} {σ : Sg} (un : UrnAt U l ns σ) {f : Int} (h0 : 0 < f) (hf : f.natAbs.log2 < 9000) {Q : V → Sg → Prop}
    (hQ : ∀ r σ', 0 ≤ r → r < f → Kp [U] σ σ' → UrnAt U l ns σ' → Q (.int r) σ') : Spec B (.ref 396) 1 [.ref U, .int f] σ Q := by
  refine Spec.fn (ok_pick hB) rfl fun A gs L r hL => ?_
  have ok := (ok_pick hB).okc (gs := gs) (L := L) r
  obtain ⟨⟨u, k, hu, hk⟩, hl, hne, hz⟩ := un
  have hns : (ns.map V.int).length = ns.length := by simp
  refine WSS.cut (fun ρ σ' => ∃ u k : Int, ρ (Str.ofString "urn") = some (.ref U) ∧ ρ (Str.ofString "faces") = some (.int f) ∧ Kp [U] σ σ' ∧ σ' U = some (.list [.int u, .ref l, .int k]) ∧ 0 ≤ k ∧ σ' l = some (.list (ns.map V.int))) ?_ ?_
  · repeat walk_at "m"
    refine iteB (fun h => ?_) (fun h => ?_)
    · repeat walk_at "m"
      refine iteB (fun h => ?_) (fun h => ?_)
      · have hk' : k.toNat < ns.length := by rw [hns] at h; omega
        have hg : (ns.map V.int)[k.toNat]? = some (.int ns[k.toNat]) := by rw [List.getElem?_map, List.getElem?_eq_getElem hk']; rfl
        repeat walk_at "m"
        refine WSub.list (by walk_at "ob") hk (by omega) hg ?_
        repeat walk_at "m"
        refine ⟨rfl, _, k + 1, by walk_at "lk", by walk_at "lk", ((Kp.refl _ _).upd (.inl (.head _))).upd (.inl (.head _)), upd_same _ _ _, by omega, ?_⟩
        rw [upd_ne _ _ (Ne.symm hne), upd_ne _ _ (Ne.symm hne)]; exact hl
      · repeat walk_at "m"
        exact ⟨rfl, _, _, by walk_at "lk", by walk_at "lk", Kp.refl _ _, hu, hk, hl⟩
    · repeat walk_at "m"
      exact ⟨rfl, _, _, by walk_at "lk", by walk_at "lk", Kp.refl _ _, hu, hk, hl⟩
  · rintro ρ σ' ⟨u, k, hur, hfa, kp, hu, hk, hl⟩
    have hf0 : f ≠ 0 := by omega
    refine WSS.cons ?_
    repeat walk_at "m"
    refine W2.mod hf0 ?_
    repeat walk_at "m"
    refine W2.ifdiv hf0 hf ?_
    repeat walk_at "m"
    exact hQ _ _ (Int.fmod_nonneg_of_pos _ h0) (Int.fmod_lt_of_pos _ h0) (kp.upd (.inl (.head _))) ⟨⟨u.fdiv f, k, upd_same _ _ _, hk⟩, by rw [upd_ne _ _ (Ne.symm hne)]; exact hl, hne, hz⟩
/-! ## the world of a law: urn, store, symbols and what else stands -/
structure WA4 where
  S : StA
  Y : SyA
  U : Addr
  l : Addr
  ns : List Int
def WA4.adr (W : WA4) : List Addr := [W.U, W.l, W.S.a, W.S.d, W.S.h, W.Y.b, W.Y.e, W.Y.tx, W.Y.an, W.Y.fu, W.Y.fn]
structure Wd (W : WA4) (H : List Cell) (D : Sy) (X : List (Addr × O)) (σ : Sg) : Prop where
  un : UrnAt W.U W.l W.ns σ
  st : StoreAt W.S (H.map enc) σ
  sy : SymAt W.Y D σ
  ap : Apart W.S W.Y
  b1 : W.U ≠ W.S.h
  b2 : W.U ≠ W.Y.tx
  b3 : W.U ≠ W.Y.fu
  b4 : W.l ≠ W.S.h
  b5 : W.l ≠ W.Y.tx
  b6 : W.l ≠ W.Y.fu
  b7 : W.S.d ≠ W.Y.an
  xs : ∀ p ∈ X, σ p.1 = some p.2
  nd : (X.map (·.1)).Nodup
  xb : ∀ p ∈ X, p.1 ∉ W.adr
section
variable {W : WA4} {H H' : List Cell} {D D' : Sy} {X : List (Addr × O)} {σ σ' : Sg}
theorem Wd.live (w : Wd W H D X σ) {a : Addr} (h : a ∈ W.adr) : ∃ o, σ a = some o := by
  obtain ⟨u, k, hu, _⟩ := w.un.u
  simp only [WA4.adr, List.mem_cons, List.not_mem_nil, or_false] at h
  rcases h with rfl | rfl | rfl | rfl | rfl | rfl | rfl | rfl | rfl | rfl | rfl
  · exact ⟨_, hu⟩
  · exact ⟨_, w.un.li⟩
  · exact ⟨_, w.st.a⟩
  · exact ⟨_, w.st.d⟩
  · exact ⟨_, w.st.h⟩
  · exact ⟨_, w.sy.b⟩
  · exact ⟨_, w.sy.e⟩
  · exact ⟨_, w.sy.tx⟩
  · exact ⟨_, w.sy.an⟩
  · exact ⟨_, w.sy.fu⟩
  · exact ⟨_, w.sy.fn⟩
theorem Wd.put (w : Wd W H D X σ) {a : Addr} {o : O} (h : σ a = none) : Wd W H D ((a, o) :: X) (upd σ a o) := by
  have ne : ∀ b o', σ b = some o' → b ≠ a := fun b o' hb => ne_fr' hb h
  have kp : Kp [] σ (upd σ a o) := (Kp.refl _ _).upd (.inr h)
  refine ⟨w.un.kp kp (by simp), w.st.kp kp (by simp), w.sy.kp kp (by simp), w.ap, w.b1, w.b2, w.b3, w.b4, w.b5, w.b6, w.b7, fun p hp => ?_, ?_, fun p hp => ?_⟩
  · rcases List.mem_cons.mp hp with rfl | hp
    · exact upd_same _ _ _
    · exact kp _ _ (w.xs p hp) (by simp)
  · simp only [List.map_cons, List.nodup_cons]
    refine ⟨fun q => ?_, w.nd⟩
    obtain ⟨p, hp, e⟩ := List.mem_map.mp q
    exact ne _ _ (w.xs p hp) e
  · rcases List.mem_cons.mp hp with rfl | hp
    · intro q; obtain ⟨o', ho⟩ := w.live q; exact ne _ _ ho rfl
    · exact w.xb p hp
/-- one of the others changed -/
theorem Wd.setK {X1 X2 : List (Addr × O)} {a : Addr} {o o' : O} (w : Wd W H D (X1 ++ (a, o) :: X2) σ) (k : Kp [a] σ σ') (h : σ' a = some o') : Wd W H D (X1 ++ (a, o') :: X2) σ' := by
  have hx := w.xb (a, o) (by simp)
  simp only [WA4.adr, List.mem_cons, List.not_mem_nil, or_false, not_or] at hx
  obtain ⟨x1, x2, x3, x4, x5, x6, x7, x8, x9, x10, x11⟩ := hx
  have nd := w.nd
  rw [List.map_append, List.map_cons, List.nodup_append] at nd
  simp only [List.nodup_cons] at nd
  refine ⟨w.un.kp k (by simp; exact ⟨x1, x2⟩), w.st.kp k (by simp; exact ⟨x3, x4, x5⟩), w.sy.kp k (by simp; exact ⟨x6, x7, x8, x9, x10, x11⟩), w.ap, w.b1, w.b2, w.b3, w.b4, w.b5, w.b6, w.b7, fun p hp => ?_, by simpa using w.nd, fun p hp => ?_⟩
  · rcases List.mem_append.mp hp with h1 | h1
    · refine k _ _ (w.xs p (by simp [h1])) ?_
      simp only [List.mem_singleton]
      intro e
      exact nd.2.2 p.1 (List.mem_map_of_mem h1) a (.head _) e
    · rcases List.mem_cons.mp h1 with rfl | h1
      · exact h
      · refine k _ _ (w.xs p (by simp [h1])) ?_
        simp only [List.mem_singleton]
        intro e
        exact nd.2.1.1 (e ▸ List.mem_map_of_mem h1)
  · rcases List.mem_append.mp hp with h1 | h1
    · exact w.xb p (by simp [h1])
    · rcases List.mem_cons.mp h1 with rfl | h1
      · exact w.xb (a, o) (by simp)
      · exact w.xb p (by simp [h1])
theorem Wd.set {X1 X2 : List (Addr × O)} {a : Addr} {o o' : O} (w : Wd W H D (X1 ++ (a, o) :: X2) σ) : Wd W H D (X1 ++ (a, o') :: X2) (upd σ a o') := w.setK ((Kp.refl _ _).upd (.inl (.head _))) (upd_same _ _ _)
theorem Wd.sub {X' : List (Addr × O)} (w : Wd W H D X σ) (h : X'.Sublist X) : Wd W H D X' σ :=
  ⟨w.un, w.st, w.sy, w.ap, w.b1, w.b2, w.b3, w.b4, w.b5, w.b6, w.b7, fun p hp => w.xs p (h.subset hp), (h.map _).nodup w.nd, fun p hp => w.xb p (h.subset hp)⟩
theorem Wd.perm {X' : List (Addr × O)} (w : Wd W H D X σ) (h : X.Perm X') : Wd W H D X' σ :=
  ⟨w.un, w.st, w.sy, w.ap, w.b1, w.b2, w.b3, w.b4, w.b5, w.b6, w.b7, fun p hp => w.xs p (h.symm.subset hp), (h.map _).nodup_iff.mp w.nd, fun p hp => w.xb p (h.symm.subset hp)⟩
theorem Wd.pick (w : Wd W H D X σ) (k : Kp [W.U] σ σ') (u : UrnAt W.U W.l W.ns σ') : Wd W H D X σ' := by
  obtain ⟨u', k', hu, _⟩ := w.un.u
  refine ⟨u, w.st.kp k ?_, w.sy.kp k ?_, w.ap, w.b1, w.b2, w.b3, w.b4, w.b5, w.b6, w.b7, fun p hp => k _ _ (w.xs p hp) ?_, w.nd, w.xb⟩
  · simp only [List.mem_singleton, forall_eq]
    exact ⟨ne_ob hu w.st.a (by nofun), ne_ob hu w.st.d (by nofun), w.b1⟩
  · simp only [List.mem_singleton, forall_eq]
    exact ⟨ne_ob hu w.sy.b (by nofun), ne_ob hu w.sy.e (by nofun), w.b2, ne_ob hu w.sy.an (by nofun), w.b3, ne_ob hu w.sy.fn (by nofun)⟩
  · have := w.xb p hp
    simp only [WA4.adr, List.mem_cons, not_or] at this
    simpa using this.1
theorem Wd.heap (w : Wd W H D X σ) (k : Kp [W.S.h] σ σ') (h : σ' W.S.h = some (.list (H'.map enc))) : Wd W H' D X σ' := by
  obtain ⟨u', k', hu, _⟩ := w.un.u
  refine ⟨w.un.kp k (by simp only [List.mem_singleton, forall_eq]; exact ⟨Ne.symm w.b1, Ne.symm w.b4⟩), ⟨k _ _ w.st.a ?_, k _ _ w.st.d ?_, h⟩, w.sy.kp k ?_, w.ap, w.b1, w.b2, w.b3, w.b4, w.b5, w.b6, w.b7, fun p hp => k _ _ (w.xs p hp) ?_, w.nd, w.xb⟩
  · simpa using ne_ob w.st.a w.st.h (by nofun)
  · simpa using ne_ob w.st.d w.st.h (by nofun)
  · simp only [List.mem_singleton, forall_eq]
    exact ⟨ne_ob w.st.h w.sy.b (by nofun), ne_ob w.st.h w.sy.e (by nofun), w.ap.t, ne_ob w.st.h w.sy.an (by nofun), w.ap.f, ne_ob w.st.h w.sy.fn (by nofun)⟩
  · have := w.xb p hp
    simp only [WA4.adr, List.mem_cons, not_or] at this
    simpa using this.2.2.2.2.1
theorem Wd.sym (w : Wd W H D X σ) (k : Kp [W.Y.tx, W.Y.an, W.Y.fu, W.Y.fn] σ σ') (h : SymAt W.Y D' σ') : Wd W H D' X σ' := by
  obtain ⟨u', k', hu, _⟩ := w.un.u
  have a1 := w.st.a; have a2 := w.st.d; have a3 := w.st.h; have c1 := w.sy.tx; have c2 := w.sy.an; have c3 := w.sy.fu; have c4 := w.sy.fn; have li := w.un.li
  refine ⟨w.un.kp k ?_, w.st.kp k ?_, h, w.ap, w.b1, w.b2, w.b3, w.b4, w.b5, w.b6, w.b7, fun p hp => k _ _ (w.xs p hp) ?_, w.nd, w.xb⟩
  · simp only [List.mem_cons, List.not_mem_nil, or_false, forall_eq_or_imp, forall_eq]
    exact ⟨⟨Ne.symm w.b2, Ne.symm w.b5⟩, ⟨ne_ob c2 hu (by nofun), ne_ob c2 li (by nofun)⟩, ⟨Ne.symm w.b3, Ne.symm w.b6⟩, ne_ob c4 hu (by nofun), ne_ob c4 li (by nofun)⟩
  · simp only [List.mem_cons, List.not_mem_nil, or_false, forall_eq_or_imp, forall_eq]
    exact ⟨⟨ne_ob c1 a1 (by nofun), ne_ob c1 a2 (by nofun), Ne.symm w.ap.t⟩, ⟨ne_ob c2 a1 (by nofun), Ne.symm w.b7, ne_ob c2 a3 (by nofun)⟩, ⟨ne_ob c3 a1 (by nofun), ne_ob c3 a2 (by nofun), Ne.symm w.ap.f⟩, ne_ob c4 a1 (by nofun), ne_ob c4 a2 (by nofun), ne_ob c4 a3 (by nofun)⟩
  · have := w.xb p hp
    simp only [WA4.adr, List.mem_cons, List.not_mem_nil, or_false, not_or] at this ⊢
    exact ⟨this.2.2.2.2.2.2.2.1, this.2.2.2.2.2.2.2.2.1, this.2.2.2.2.2.2.2.2.2.1, this.2.2.2.2.2.2.2.2.2.2⟩
theorem Wd.tl {x : Addr × O} (w : Wd W H D (x :: X) σ) : Wd W H D X σ := w.sub (List.sublist_cons_self _ _)
theorem Wd.x0 {a : Addr} {o : O} (w : Wd W H D ((a, o) :: X) σ) : σ a = some o := w.xs (a, o) (.head _)
theorem Wd.x1 {x : Addr × O} {a : Addr} {o : O} (w : Wd W H D (x :: (a, o) :: X) σ) : σ a = some o := w.tl.x0
theorem Wd.x2 {x y : Addr × O} {a : Addr} {o : O} (w : Wd W H D (x :: y :: (a, o) :: X) σ) : σ a = some o := w.tl.x1
theorem Wd.x3 {x y z : Addr × O} {a : Addr} {o : O} (w : Wd W H D (x :: y :: z :: (a, o) :: X) σ) : σ a = some o := w.tl.x2
theorem Wd.x4 {x y z t : Addr × O} {a : Addr} {o : O} (w : Wd W H D (x :: y :: z :: t :: (a, o) :: X) σ) : σ a = some o := w.tl.x3
theorem Wd.x5 {x y z t u : Addr × O} {a : Addr} {o : O} (w : Wd W H D (x :: y :: z :: t :: u :: (a, o) :: X) σ) : σ a = some o := w.tl.x4
theorem Wd.set0 {a : Addr} {o o' : O} (w : Wd W H D ((a, o) :: X) σ) : Wd W H D ((a, o') :: X) (upd σ a o') := Wd.set (X1 := []) w
theorem Wd.set1 {x : Addr × O} {a : Addr} {o o' : O} (w : Wd W H D (x :: (a, o) :: X) σ) : Wd W H D (x :: (a, o') :: X) (upd σ a o') := Wd.set (X1 := [x]) w
theorem Wd.set2 {x y : Addr × O} {a : Addr} {o o' : O} (w : Wd W H D (x :: y :: (a, o) :: X) σ) : Wd W H D (x :: y :: (a, o') :: X) (upd σ a o') := Wd.set (X1 := [x, y]) w
theorem Wd.set3 {x y z : Addr × O} {a : Addr} {o o' : O} (w : Wd W H D (x :: y :: z :: (a, o) :: X) σ) : Wd W H D (x :: y :: z :: (a, o') :: X) (upd σ a o') := Wd.set (X1 := [x, y, z]) w
theorem Wd.set4 {x y z t : Addr × O} {a : Addr} {o o' : O} (w : Wd W H D (x :: y :: z :: t :: (a, o) :: X) σ) : Wd W H D (x :: y :: z :: t :: (a, o') :: X) (upd σ a o') := Wd.set (X1 := [x, y, z, t]) w
theorem Wd.hne {a : Addr} {o : O} (w : Wd W H D X σ) (h : (a, o) ∈ X) : a ≠ W.S.h := by
  have := w.xb _ h
  simp only [WA4.adr, List.mem_cons, List.not_mem_nil, or_false, not_or] at this
  exact this.2.2.2.2.1
end

/-! ## cells that may be walked -/
structure COK (F H : List Cell) (x : Cell) : Prop where
  tag : x.1 = 0 ∨ x.1 = 2 ∨ x.1 = 3 ∨ x.1 = 4 ∨ x.1 = 5
  ref : x.1 = 0 → 0 ≤ x.2 ∧ ∃ c, H[x.2.toNat]? = some c ∧ c.1 ≠ 6
  cmp : isCmp x → CmpOK F H x
  fn : x.1 = 2 → ∃ f, H[x.2.toNat]? = some (6, f) ∧ f ≠ 0
  wdt : isCmp x → wd F H x = 1 ∨ wd F H x = 2
  arg : isCmp x → ∀ i : Nat, i < (wd F H x).toNat → ∃ c, H[(bs x).toNat + i]? = some c ∧ c.1 ≠ 6
def HOK (F H : List Cell) : Prop := ∀ (p : Nat) (c : Cell), H[p]? = some c → c.1 ≠ 6 → COK F H c ∧ (c.1 = 0 → c.2 ≤ p)

/-- the heap changed, but no functor cell, and no cell became one -/
structure Ch (H H' : List Cell) : Prop where
  len : H.length ≤ H'.length
  fn : ∀ (p : Nat) (f : Int), H[p]? = some (6, f) → H'[p]? = some (6, f)
  oth : ∀ (p : Nat) (c : Cell), H[p]? = some c → c.1 ≠ 6 → ∃ c', H'[p]? = some c' ∧ c'.1 ≠ 6
theorem Ch.app (H X : List Cell) : Ch H (H ++ X) := by
  have key : ∀ (p : Nat) (c : Cell), H[p]? = some c → (H ++ X)[p]? = some c := fun p c h => by
    rw [List.getElem?_append_left (List.getElem?_eq_some_iff.mp h).1]; exact h
  exact ⟨by simp, fun p f h => key _ _ h, fun p c h h' => ⟨c, key _ _ h, h'⟩⟩
theorem Ch.set {H : List Cell} {q : Nat} {c v : Cell} (h : H[q]? = some c) (hc : c.1 ≠ 6) (hv : v.1 ≠ 6) : Ch H (H.set q v) := by
  have hq := (List.getElem?_eq_some_iff.mp h).1
  refine ⟨by simp, fun p f e => ?_, fun p d e hd => ?_⟩
  · rw [List.getElem?_set]
    split
    · rename_i e'; subst e'; rw [h] at e; cases e; exact absurd rfl hc
    · exact e
  · rw [List.getElem?_set]
    split
    · rename_i e'; subst e'; exact ⟨v, by simp [hq], hv⟩
    · exact ⟨d, e, hd⟩
theorem fnOf_ch {H H' : List Cell} (c : Ch H H') {x : Cell} (h : x.1 = 2 → ∃ f, H[x.2.toNat]? = some (6, f) ∧ f ≠ 0) (hx : isCmp x) : fnOf H' x = fnOf H x := by
  unfold fnOf
  rcases hx with hx | hx
  · obtain ⟨f, e, _⟩ := h hx
    rw [e, c.fn _ _ e]
  · rw [if_pos hx, if_pos hx]
theorem COK.ch {F H H' : List Cell} (c : Ch H H') {x : Cell} (k : COK F H x) : COK F H' x := by
  have hf : isCmp x → fnOf H' x = fnOf H x := fnOf_ch c k.fn
  have hw : isCmp x → wd F H' x = wd F H x := fun h => by unfold wd; rw [hf h]
  refine ⟨k.tag, fun h => ?_, fun h => ?_, fun h => ?_, fun h => ?_, fun h i hi => ?_⟩
  · obtain ⟨a, d, b, e⟩ := k.ref h
    obtain ⟨d', b', e'⟩ := c.oth _ _ b e
    exact ⟨a, d', b', e'⟩
  · obtain ⟨a, b, d⟩ := k.cmp h
    refine ⟨a, b, fun h' => ?_⟩
    rw [hf h]
    obtain ⟨d1, d2⟩ := d h'
    have := c.len
    exact ⟨by lia, d2⟩
  · obtain ⟨f, e, e'⟩ := k.fn h
    exact ⟨f, c.fn _ _ e, e'⟩
  · rw [hw h]; exact k.wdt h
  · rw [hw h] at hi
    obtain ⟨d, e, e'⟩ := k.arg h i hi
    exact c.oth _ _ e e'
theorem COK.sym {F F' H : List Cell} (hF : ∀ f : Int, 0 ≤ f → f < F.length → f < F'.length ∧ ar F' f = ar F f) {x : Cell} (k : COK F H x) : COK F' H x := by
  have hw : isCmp x → wd F' H x = wd F H x := fun h => by
    unfold wd
    split
    · rfl
    · rename_i h3
      have h2 : x.1 = 2 := by rcases h with h | h; exact h; exact absurd h h3
      obtain ⟨_, b, c⟩ := (k.cmp h).f h2
      exact (hF _ b c).2
  refine ⟨k.tag, k.ref, fun h => ?_, k.fn, fun h => by rw [hw h]; exact k.wdt h, fun h i hi => by rw [hw h] at hi; exact k.arg h i hi⟩
  obtain ⟨a, b, c⟩ := k.cmp h
  exact ⟨a, b, fun h' => let ⟨d, e, f⟩ := c h'; ⟨d, e, (hF _ e f).1⟩⟩
theorem HOK.sym {F F' H : List Cell} (hF : ∀ f : Int, 0 ≤ f → f < F.length → f < F'.length ∧ ar F' f = ar F f) (h : HOK F H) : HOK F' H := fun p c e e' => ⟨(h p c e e').1.sym hF, (h p c e e').2⟩

/-- every cell that may be walked comes to an end -/
theorem der_ex {F H : List Cell} (hH : HOK F H) : ∀ (k : Nat) (x : Cell), COK F H x → x.2.toNat ≤ k → ∃ d, Der H x d ∧ COK F H d ∧ (d.1 = 0 → H[d.2.toNat]? = some d) := by
  intro k
  induction k with
  | zero =>
    intro x hx hk
    by_cases h : x.1 = 0
    · obtain ⟨a, c, e, hc⟩ := hx.ref h
      by_cases hcx : c = x
      · subst hcx; exact ⟨c, ⟨0, .self h a e⟩, hx, fun _ => e⟩
      · obtain ⟨ok, le⟩ := hH _ _ e hc
        by_cases h0 : c.1 = 0
        · obtain ⟨a', _⟩ := ok.ref h0
          have := le h0
          exact absurd (Prod.ext (by rw [h0, h]) (by lia)) hcx
        · exact ⟨c, ⟨1, .step h a e hcx (.here h0 (by rcases ok.tag with t | t | t | t | t <;> lia))⟩, ok, fun t => absurd t h0⟩
    · exact ⟨x, ⟨0, .here h (by rcases hx.tag with t | t | t | t | t <;> lia)⟩, hx, fun t => absurd t h⟩
  | succ k ih =>
    intro x hx hk
    by_cases h : x.1 = 0
    · obtain ⟨a, c, e, hc⟩ := hx.ref h
      by_cases hcx : c = x
      · subst hcx; exact ⟨c, ⟨0, .self h a e⟩, hx, fun _ => e⟩
      · obtain ⟨ok, le⟩ := hH _ _ e hc
        by_cases h0 : c.1 = 0
        · obtain ⟨a', _⟩ := ok.ref h0
          have := le h0
          have hne : c.2 ≠ x.2 := fun q => hcx (Prod.ext (by rw [h0, h]) q)
          obtain ⟨d, ⟨n, hd⟩, okd, hs⟩ := ih c ok (by lia)
          exact ⟨d, ⟨n + 1, .step h a e hcx hd⟩, okd, hs⟩
        · exact ⟨c, ⟨1, .step h a e hcx (.here h0 (by rcases ok.tag with t | t | t | t | t <;> lia))⟩, ok, fun t => absurd t h0⟩
    · exact ⟨x, ⟨0, .here h (by rcases hx.tag with t | t | t | t | t <;> lia)⟩, hx, fun t => absurd t h⟩
theorem HOK.der {F H : List Cell} (hH : HOK F H) {x : Cell} (hx : COK F H x) : ∃ d, Der H x d ∧ COK F H d ∧ (d.1 = 0 → H[d.2.toNat]? = some d) := der_ex hH _ x hx (Nat.le_refl _)
local macro_rules | `(tactic| walk_at "wd") => `(tactic| (have h₁ := (Wd.st (by assumption)).a; have h₂ := (Wd.st (by assumption)).d; have h₃ := (Wd.st (by assumption)).h; have h₄ := (Wd.sy (by assumption)).b; have h₅ := (Wd.sy (by assumption)).e; unfold StA.fields at h₂; unfold SyA.fields at h₅; (try have k₀ := Wd.x0 (by assumption)); (try have k₁ := Wd.x1 (by assumption)); (try have k₂ := Wd.x2 (by assumption)); (try have k₃ := Wd.x3 (by assumption)); (try have k₄ := Wd.x4 (by assumption)); (try have k₅ := Wd.x5 (by assumption)); (try have k₆ := Wd.x6 (by assumption))))
/-! ## the things -/
structure Things (D : Sy) (H cs : List Cell) : Prop where
  d : D = D0 ∨ D = D3
  ok : HOK D.F H
  cok : ∀ c ∈ cs, COK D.F H c
  hz : H.length ≤ 3 * cs.length
  c0 : 1 ≤ cs.length → cs[0]? = some (0, 0) ∧ H[0]? = some (0, 0)
theorem log2_small {n : Int} (h : n.natAbs < 9000) : n.natAbs.log2 < 9000 := Nat.lt_of_le_of_lt (Nat.log2_le_self _) h
theorem d_up : ∀ f : Int, 0 ≤ f → f < D0.F.length → f < D3.F.length ∧ ar D3.F f = ar D0.F f := by
  intro f h0 h
  rw [d_len0] at h
  refine ⟨by rw [d_len3]; lia, ?_⟩
  have key : ∀ n : Nat, n < 32 → D3.F[n]? = D0.F[n]? := by
    have e : D3.F.take 32 = D0.F := by decide +kernel
    intro n hn
    rw [← e, List.getElem?_take, if_pos hn]
  unfold ar
  rw [key f.toNat (by lia)]
theorem d_upA {D : Sy} (h : D = D0 ∨ D = D3) : ∀ f : Int, 0 ≤ f → f < D.F.length → f < D3.F.length ∧ ar D3.F f = ar D.F f := by
  rcases h with rfl | rfl
  · exact d_up
  · exact fun f _ h => ⟨h, rfl⟩
theorem Things.up {D : Sy} {H cs : List Cell} (t : Things D H cs) : Things D3 H cs := ⟨.inr rfl, t.ok.sym (d_upA t.d), fun c hc => (t.cok c hc).sym (d_upA t.d), t.hz, t.c0⟩
theorem d_fits {D : Sy} (h : D = D0 ∨ D = D3) : D.fits 130 := by
  rcases h with rfl | rfl
  · exact d_fits0.mono (by lia)
  · exact d_fits3
theorem Things.atom {D : Sy} {H cs : List Cell} (t : Things D H cs) {x : Cell} (h : x.1 = 4 ∨ x.1 = 5) (hn : 2 ≤ cs.length) : Things D H (cs ++ [x]) := by
  refine ⟨t.d, t.ok, fun c hc => ?_, by have := t.hz; simp; lia, fun _ => ?_⟩
  · rcases List.mem_append.mp hc with hc | hc
    · exact t.cok c hc
    · simp at hc; subst hc
      have n1 : ¬ isCmp c := by unfold isCmp; lia
      exact ⟨by lia, by lia, fun h => absurd h n1, by lia, fun h => absurd h n1, fun h => absurd h n1⟩
  · have := t.c0 (by lia)
    exact ⟨by rw [List.getElem?_append_left (by lia)]; exact this.1, this.2⟩
theorem HOK.app {F H X : List Cell} (h : HOK F H) (hX : ∀ i c, X[i]? = some c → c.1 ≠ 6 → COK F (H ++ X) c ∧ (c.1 = 0 → c.2 ≤ (H.length + i : Nat))) : HOK F (H ++ X) := by
  intro p c e hc
  by_cases hp : p < H.length
  · rw [List.getElem?_append_left hp] at e
    exact ⟨(h p c e hc).1.ch (Ch.app H X), (h p c e hc).2⟩
  · rw [List.getElem?_append_right (by lia)] at e
    have := hX _ _ e hc
    exact ⟨this.1, fun h0 => by have := this.2 h0; lia⟩
theorem cok_var {F H : List Cell} (X : List Cell) : COK F (H ++ (((0 : Int), (H.length : Int)) :: X)) (0, H.length) := by
  have n1 : ¬ isCmp ((0 : Int), (H.length : Int)) := by unfold isCmp; simp
  exact ⟨.inl rfl, fun _ => ⟨by simp, ((0 : Int), (H.length : Int)), by simp, by simp⟩, fun h => absurd h n1, by simp, fun h => absurd h n1, fun h => absurd h n1⟩
theorem Things.var {D : Sy} {H cs : List Cell} (t : Things D H cs) (h0 : cs.length = 0 → H = []) : Things D (H ++ [((0 : Int), (H.length : Int))]) (cs ++ [((0 : Int), (H.length : Int))]) := by
  refine ⟨t.d, t.ok.app fun i c e hc => ?_, fun c hc => ?_, by have := t.hz; simp; lia, fun _ => ?_⟩
  · cases i with
    | zero => simp at e; subst e; exact ⟨cok_var [], fun _ => by simp⟩
    | succ i => simp at e
  · rcases List.mem_append.mp hc with hc | hc
    · exact (t.cok c hc).ch (Ch.app _ _)
    · simp at hc; subst hc; exact cok_var []
  · by_cases hn : cs.length = 0
    · have := h0 hn
      have hc : cs = [] := List.length_eq_zero_iff.mp hn
      subst this; subst hc; simp
    · have := t.c0 (by lia)
      have hlt := (List.getElem?_eq_some_iff.mp this.2).1
      exact ⟨by rw [List.getElem?_append_left (by lia)]; exact this.1, by rw [List.getElem?_append_left hlt]; exact this.2⟩
theorem Things.struct {H cs ds : List Cell} (t : Things D3 H cs) (hn : 2 ≤ cs.length) {f : Int} (h0 : 0 ≤ f) (hf : f < D3.F.length) (ha : ar D3.F f = ds.length) (hl : ds.length = 1 ∨ ds.length = 2) (hds : ∀ d ∈ ds, COK D3.F H d) :
    Things D3 (blkOf f H ds) (cs ++ [mdc f H]) := by
  have hz := t.hz
  by_cases hf0 : f = 0
  · subst hf0
    have hds2 : ds.length = 2 := by have := d_ar30; rw [ha] at this; lia
    have eb : blkOf 0 H ds = H ++ ds := by simp [blkOf]
    have em : mdc 0 H = (3, (H.length : Int)) := by simp [mdc]
    rw [eb, em]
    have e0 : (H ++ ds)[H.length]? = ds[0]? := by rw [List.getElem?_append_right (Nat.le_refl _)]; simp
    have cx : isCmp ((3 : Int), (H.length : Int)) := .inr rfl
    have ck : COK D3.F (H ++ ds) ((3 : Int), (H.length : Int)) := by
      refine ⟨by simp, by simp, fun _ => ⟨cx, by simp, by simp⟩, by simp, fun _ => .inr (by simp [wd]), fun _ i hi => ?_⟩
      have hi2 : i < 2 := by simpa [wd] using hi
      have e : (bs ((3 : Int), (H.length : Int))).toNat + i = H.length + i := by simp [bs]
      rw [e, List.getElem?_append_right (by lia), Nat.add_sub_cancel_left, List.getElem?_eq_getElem (by lia)]
      refine ⟨_, rfl, ?_⟩
      rcases (hds _ (List.getElem_mem (by lia : i < ds.length))).tag with h | h | h | h | h <;> lia
    refine ⟨.inr rfl, t.ok.app fun i c e hc => ?_, fun c hc => ?_, by simp; lia, fun _ => ?_⟩
    · have hm := List.mem_of_getElem? e
      refine ⟨(hds c hm).ch (Ch.app _ _), fun h => ?_⟩
      obtain ⟨a, d, b, _⟩ := (hds c hm).ref h
      have := (List.getElem?_eq_some_iff.mp b).1
      lia
    · rcases List.mem_append.mp hc with hc | hc
      · exact (t.cok c hc).ch (Ch.app _ _)
      · simp at hc; subst hc; exact ck
    · have := t.c0 (by lia)
      have hlt := (List.getElem?_eq_some_iff.mp this.2).1
      exact ⟨by rw [List.getElem?_append_left (by lia)]; exact this.1, by rw [List.getElem?_append_left hlt]; exact this.2⟩
  · have eb : blkOf f H ds = H ++ (((6 : Int), f) :: ds) := by simp [blkOf, hf0]
    have em : mdc f H = (2, (H.length : Int)) := by simp [mdc, hf0]
    rw [eb, em]
    have e0 : (H ++ (((6 : Int), f) :: ds))[H.length]? = some (6, f) := by rw [List.getElem?_append_right (Nat.le_refl _)]; simp
    have cx : isCmp ((2 : Int), (H.length : Int)) := .inl rfl
    have ef : fnOf (H ++ (((6 : Int), f) :: ds)) (2, (H.length : Int)) = f := by simp [fnOf]
    have ew : wd D3.F (H ++ (((6 : Int), f) :: ds)) (2, (H.length : Int)) = ds.length := by unfold wd; rw [ef]; simp [ha]
    have ck : COK D3.F (H ++ (((6 : Int), f) :: ds)) ((2 : Int), (H.length : Int)) := by
      refine ⟨by simp, by simp, fun _ => ⟨cx, by simp, fun _ => ⟨by simp; lia, by rw [ef]; exact h0, by rw [ef]; exact hf⟩⟩, fun _ => ⟨f, by simp, hf0⟩, fun _ => by rw [ew]; lia, fun _ i hi => ?_⟩
      rw [ew] at hi
      have hi2 : i < ds.length := by lia
      have e : (bs ((2 : Int), (H.length : Int))).toNat + i = H.length + (i + 1) := by simp [bs]; lia
      rw [e, List.getElem?_append_right (by lia), Nat.add_sub_cancel_left, List.getElem?_cons_succ, List.getElem?_eq_getElem hi2]
      refine ⟨_, rfl, ?_⟩
      rcases (hds _ (List.getElem_mem hi2)).tag with h | h | h | h | h <;> lia
    refine ⟨.inr rfl, t.ok.app fun i c e hc => ?_, fun c hc => ?_, by simp; lia, fun _ => ?_⟩
    · cases i with
      | zero => simp at e; subst e; exact absurd rfl hc
      | succ i =>
        have hm := List.mem_of_getElem? (by simpa using e : ds[i]? = some c)
        refine ⟨(hds c hm).ch (Ch.app _ _), fun h => ?_⟩
        obtain ⟨a, d, b, _⟩ := (hds c hm).ref h
        have := (List.getElem?_eq_some_iff.mp b).1
        lia
    · rcases List.mem_append.mp hc with hc | hc
      · exact (t.cok c hc).ch (Ch.app _ _)
      · simp at hc; subst hc; exact ck
    · have := t.c0 (by lia)
      have hlt := (List.getElem?_eq_some_iff.mp this.2).1
      exact ⟨by rw [List.getElem?_append_left (by lia)]; exact this.1, by rw [List.getElem?_append_left hlt]; exact this.2⟩
theorem ders_ex {F H : List Cell} (hH : HOK F H) : ∀ {cs : List Cell}, (∀ c ∈ cs, COK F H c) → ∃ ds, All2 (Der H) cs ds ∧ ∀ d ∈ ds, COK F H d
  | [], _ => ⟨[], trivial, by simp⟩
  | c :: cs, h => by
    obtain ⟨d, h1, h2, _⟩ := hH.der (h c (.head _))
    obtain ⟨ds, h3, h4⟩ := ders_ex hH fun c hc => h c (.tail _ hc)
    exact ⟨d :: ds, ⟨h1, h3⟩, fun e he => by
      rcases List.mem_cons.mp he with rfl | he
      · exact h2
      · exact h4 e he⟩
theorem f_g {D : Sy} (h : D = D0 ∨ D = D3) : ∃ Dg, funcS D (Str.ofString "g") 1 = (32, Dg) ∧ (Dg = D1 ∨ Dg = D3) := by
  rcases h with rfl | rfl
  · exact ⟨D1, Prod.ext d_g0 rfl, .inl rfl⟩
  · exact ⟨D3, d_g3, .inr rfl⟩
theorem f_h {D : Sy} (h : D = D1 ∨ D = D3) : ∃ Dg, funcS D (Str.ofString "h") 2 = (33, Dg) ∧ (Dg = D2 ∨ Dg = D3) := by
  rcases h with rfl | rfl
  · exact ⟨D2, Prod.ext d_h0 rfl, .inl rfl⟩
  · exact ⟨D3, d_h3, .inr rfl⟩
theorem f_f {D : Sy} (h : D = D2 ∨ D = D3) : funcS D (Str.ofString "f") 2 = (34, D3) := by
  rcases h with rfl | rfl
  · exact Prod.ext d_f0 rfl
  · exact d_f3
theorem f_fits1 {D : Sy} (h : D = D1 ∨ D = D3) : D.fits 130 := by
  rcases h with rfl | rfl
  · exact d_fits1.mono (by lia)
  · exact d_fits3
theorem f_fits2 {D : Sy} (h : D = D2 ∨ D = D3) : D.fits 130 := by
  rcases h with rfl | rfl
  · exact d_fits2.mono (by lia)
  · exact d_fits3
theorem ok_things {B : Base} (hB : IsLaw B) : FnOKC B.K 401 fd_things.1 where
  look := by rw [hB]; exact fd_things.2 _
  code := by rw [hB]; dsimp only [fd_things]; k_is
  body := rfl
  bind := bind4 (by rfl) (fun a b c d => by rfl)
  clo := by rfl
  cs := fun L p hp => by
    have e : cellsFrom L fd_things.1.scope.names [] = [(Str.ofString "cells", L)] := by rfl
    rw [e] at hp ⊢
    simp at hp; subst hp; rfl
  loc := by decide +kernel
  co := by rfl
  gen := by rfl
  kind := by rfl
  gl := by rfl
  bi := by rfl
def RT (W : WA4) (na : Addr) (ρ : Rho) : Prop := ρ (Str.ofString "urn") = some (.ref W.U) ∧ ρ (Str.ofString "store") = some (.ref W.S.a) ∧ ρ (Str.ofString "book") = some (.ref W.Y.b) ∧ ρ (Str.ofString "nodes") = some (.ref na)
theorem c_things {B : Base} (hB : IsLaw B) {W : WA4} {σ : Sg} (w : Wd W [] D0 [] σ) {Q : V → Sg → Prop}
    (hQ : ∀ σ' ca na cs H D, Wd W H D [(ca, .list (cs.map enc))] σ' → Things D H cs → 3 ≤ cs.length → cs.length ≤ 8 → Q (.tup [.ref ca, .ref na]) σ') : Spec B (.ref 401) 5 [.ref W.U, .ref W.S.a, .ref W.Y.b, .int 6] σ Q := by
  refine Spec.fnC (ok_things hB) rfl fun A gs L r hL hfree => ?_
  have ok : Cx.ok ⟨B, A, gs, callEnvC fd_things.1 L 401⟩ := r.ok (c := ⟨B, A, gs, callEnvC fd_things.1 L 401⟩) rfl rfl rfl
  have ec : cellsFrom (L + 1) fd_things.1.scope.names [] = [(Str.ofString "cells", L + 1)] := by rfl
  rw [ec]
  show WSS _ _ _ (upd σ (L + 1) (.cell none)) _
  have w1 := w.put (o := .cell none) (hfree (L + 1) (Nat.le_succ _))
  generalize upd σ (L + 1) (.cell none) = σ1 at w1
  walk_at "wd"
  refine WSS.cons ?_
  repeat walk_at "m"
  intro ca hca
  repeat walk_at "m"
  have w2 := ((w1.put (o := .list []) hca).perm (List.Perm.swap _ _ _)).set0 (o' := .cell (some ca))
  generalize upd (upd σ1 ca (.list [])) (L + 1) (.cell (some ca)) = σ2 at w2
  intro na hna
  have w3 := w2.put (o := .list []) hna
  generalize upd σ2 na (.list []) = σ3 at w3
  repeat walk_at "m"
  refine WS.forRange ok (WRange.one ?_)
  repeat walk_at "m"
  refine WC.specA r (c_pick hB w3.un (by decide) (by decide) fun k σ4 hk0 hk1 kp un => ?_)
  have w4 := w3.pick kp un
  repeat walk_at "m"
  have hrn : rangeN 0 (3 + k) 1 = 3 + k.toNat := by rw [rangeN_zero (by omega)]; omega
  refine ⟨small_zero (by omega) (by omega), fun i ρ σ' => i ≤ 8 ∧ RT W na ρ ∧ ∃ cs H D nl, cs.length = i ∧ nl.length = i ∧ Wd W H D [(na, .list nl), (L + 1, .cell (some ca)), (ca, .list (cs.map enc))] σ' ∧ Things D H cs ∧ (i = 0 → H = []), ⟨by omega, ⟨by walk_at "lk", by walk_at "lk", by walk_at "lk", by walk_at "lk"⟩, [], [], D0, [], rfl, rfl, w4, ⟨.inl rfl, fun p c e => by simp at e, by simp, by simp, by simp⟩, fun _ => rfl⟩, ?_, ?_⟩
  · clear w1 w2 w3 w4 kp un
    rintro g i ρ σ5 hi ⟨hi8, ⟨r1, r2, r3, r4⟩, cs, H, D, nl, hcs, hnl, w5, th, hH0⟩
    rw [hrn] at hi
    have hhz := th.hz
    repeat walk_at "e"
    refine WSS.cut (fun ρ' σ' => ∃ way : Int, 0 ≤ way ∧ way ≤ 6 ∧ (i < 2 → way = 6) ∧ RT W na ρ' ∧ ρ' (Str.ofString "way") = some (.int way) ∧ ρ' (Str.ofString "number") = some (.int (0 + (i : Int) * 1)) ∧ Wd W H D [(na, .list nl), (L + 1, .cell (some ca)), (ca, .list (cs.map enc))] σ') ?_ ?_
    · repeat walk_at "m"
      refine iteB (fun h => ?_) (fun h => ?_)
      · repeat walk_at "m"
        exact ⟨rfl, 6, by omega, by omega, fun _ => rfl, ⟨by walk_at "lk", by walk_at "lk", by walk_at "lk", by walk_at "lk"⟩, by walk_at "lk", by walk_at "lk", w5⟩
      · repeat walk_at "m"
        refine WC.specA r (c_pick hB w5.un (by decide) (by decide) fun k σ6 hk0 hk1 kp un => ?_)
        repeat walk_at "m"
        exact ⟨rfl, k, by omega, by omega, by omega, ⟨by walk_at "lk", by walk_at "lk", by walk_at "lk", by walk_at "lk"⟩, by walk_at "lk", by walk_at "lk", w5.pick kp un⟩
    rintro ρ1 σ6 ⟨way, hw0, hw6, hw2, ⟨r1, r2, r3, r4⟩, r5, r6, w6⟩
    refine WSS.cons ?_
    repeat walk_at "e"
    intro p hp
    have w7 := w6.put (o := .list []) hp
    generalize upd σ6 p (.list []) = σ7 at w7
    repeat walk_at "e"
    refine WSS.cut (fun ρ' σ' => ∃ c' H' D' pl, RT W na ρ' ∧ ρ' (Str.ofString "way") = some (.int way) ∧ ρ' (Str.ofString "parts") = some (.ref p) ∧ Wd W H' D' [(p, .list pl), (na, .list nl), (L + 1, .cell (some ca)), (ca, .list ((cs ++ [c']).map enc))] σ' ∧ Things D' H' (cs ++ [c'])) ?_ ?_
    · have happ : ∀ c' : Cell, (cs ++ [c']).map enc = cs.map enc ++ [enc c'] := fun c' => by simp
      walk_at "wd"
      repeat walk_at "e"
      refine iteB (fun h4 => ?_) (fun h4 => ?_)
      · have hi2 : 2 ≤ i := by
          rcases Nat.lt_or_ge i 2 with h | h
          · have := hw2 h; omega
          · exact h
        refine WSS.cut (fun ρ' σ' => ∃ ks : List Int, RT W na ρ' ∧ ρ' (Str.ofString "way") = some (.int way) ∧ ρ' (Str.ofString "parts") = some (.ref p) ∧ (ks.length : Int) = (if way = 0 then 1 else 2) ∧ (∀ x ∈ ks, 0 ≤ x ∧ x < i) ∧
          Wd W H D [(p, .list (ks.map V.int)), (na, .list nl), (L + 1, .cell (some ca)), (ca, .list (cs.map enc))] σ') ?_ ?_
        · refine WS.forRange (by walk_at "okt") (WRange.one ?_)
          repeat walk_at "e"
          intro t ht
          have w8 := w7.put (o := .list [.int 1, .int 2, .int 2, .int 2]) ht
          generalize upd σ7 t (.list [.int 1, .int 2, .int 2, .int 2]) = σ8 at w8
          repeat walk_at "e"
          have hu : [V.int 1, .int 2, .int 2, .int 2][way.toNat]? = some (.int (if way = 0 then 1 else 2)) := by
            have : way = 0 ∨ way = 1 ∨ way = 2 ∨ way = 3 := by omega
            rcases this with rfl | rfl | rfl | rfl <;> rfl
          refine WSub.list w8.x0 hw0 (by omega) hu ?_
          have hwn : 0 ≤ (if way = 0 then 1 else 2 : Int) ∧ (if way = 0 then 1 else 2 : Int) ≤ 2 := by split <;> omega
          generalize (if way = 0 then 1 else 2 : Int) = wn at hwn
          repeat walk_at "e"
          refine ⟨small_zero hwn.1 (by omega), fun k ρ' σ' => k ≤ wn.toNat ∧ ∃ ks : List Int, RT W na ρ' ∧ ρ' (Str.ofString "way") = some (.int way) ∧ ρ' (Str.ofString "number") = some (.int (0 + (i : Int) * 1)) ∧ ρ' (Str.ofString "parts") = some (.ref p) ∧ ks.length = k ∧ (∀ x ∈ ks, 0 ≤ x ∧ x < i) ∧
            Wd W H D [(p, .list (ks.map V.int)), (na, .list nl), (L + 1, .cell (some ca)), (ca, .list (cs.map enc))] σ', ⟨Nat.zero_le _, [], ⟨by walk_at "lk", by walk_at "lk", by walk_at "lk", by walk_at "lk"⟩, by walk_at "lk", by walk_at "lk", by walk_at "lk", rfl, by simp, w8.tl⟩, ?_, ?_⟩
          · rintro g2 k2 ρ2 σ9 hk2 ⟨hk2', ks, ⟨r1, r2, r3, r4⟩, r5, r6, r7, hkl, hks, w9⟩
            rw [rangeN_zero hwn.1] at hk2
            walk_at "wd"
            repeat walk_at "m"
            refine WC.specA r (c_pick hB w9.un (by omega) (log2_small (by omega)) fun v σ10 hv0 hv1 kp un => ?_)
            have w10 := w9.pick kp un
            have k0 := w10.x0
            have hkl2 : (ks.map V.int).length ≤ 1000000 := by simp; omega
            repeat walk_at "e"
            refine ⟨by omega, ks ++ [v], ⟨by walk_at "lk", by walk_at "lk", by walk_at "lk", by walk_at "lk"⟩, by walk_at "lk", by walk_at "lk", by walk_at "lk", by simp [hkl], fun x hx => ?_, ?_⟩
            · rcases List.mem_append.mp hx with hx | hx
              · exact hks x hx
              · simp at hx; subst hx; exact ⟨hv0, by omega⟩
            · rw [List.map_append]; exact w10.set0
          · rw [rangeN_zero hwn.1]
            rintro ρ2 σ9 ⟨hk2', ks, ⟨r1, r2, r3, r4⟩, r5, r6, r7, hkl, hks, w9⟩
            exact ⟨rfl, ks, ⟨r1, r2, r3, r4⟩, r5, r7, by omega, hks, w9⟩
        rintro ρ2 σ9 ⟨ks, ⟨r1, r2, r3, r4⟩, r5, r6, hkl, hks, w9⟩
        obtain ⟨Dg, eg, hDg⟩ := f_g th.d
        obtain ⟨Dh, eh, hDh⟩ := f_h hDg
        have ef := f_f hDh
        walk_at "wd"
        refine WSS.cons ?_
        repeat walk_at "e"
        refine WC.specA r (c_func hB w9.sy ((d_fits th.d).mono (by omega)) _ _ fun σ10 kp sy => ?_)
        rw [eg] at sy ⊢
        have w10 := w9.sym kp sy
        walk_at "wd"
        repeat walk_at "e"
        refine WC.specA r (c_func hB w10.sy ((f_fits1 hDg).mono (by omega)) _ _ fun σ11 kp sy => ?_)
        rw [eh] at sy ⊢
        have w11 := w10.sym kp sy
        walk_at "wd"
        repeat walk_at "e"
        refine WC.specA r (c_func hB w11.sy ((f_fits2 hDh).mono (by omega)) _ _ fun σ12 kp sy => ?_)
        rw [ef] at sy ⊢
        have w12 := w11.sym kp sy
        walk_at "wd"
        repeat walk_at "e"
        intro t ht
        have w13 := w12.put (o := .list [.int 32, .int 33, .int 0, .int 34]) ht
        dsimp only
        generalize upd σ12 t (.list [.int 32, .int 33, .int 0, .int 34]) = σ13 at w13
        repeat walk_at "e"
        obtain ⟨fv, hu, hf0, hf1, hfa⟩ : ∃ fv : Int, [V.int 32, .int 33, .int 0, .int 34][way.toNat]? = some (.int fv) ∧ 0 ≤ fv ∧ fv < D3.F.length ∧ ar D3.F fv = (if way = 0 then 1 else 2) := by
          rw [d_len3]
          have : way = 0 ∨ way = 1 ∨ way = 2 ∨ way = 3 := by omega
          rcases this with rfl | rfl | rfl | rfl
          · exact ⟨32, rfl, by omega, by omega, d_ar32⟩
          · exact ⟨33, rfl, by omega, by omega, d_ar33⟩
          · exact ⟨0, rfl, by omega, by omega, d_ar30⟩
          · exact ⟨34, rfl, by omega, by omega, d_ar34⟩
        refine WSub.list w13.x0 hw0 (by omega) hu ?_
        have w14 := w13.tl
        walk_at "wd"
        repeat walk_at "e"
        refine WSS.cons ?_
        repeat walk_at "e"
        have hklen : ks.length ≤ 2 := by split at hkl <;> omega
        refine WE.comp (cl := [(Str.ofString "cells", L + 1)]) (by walk_at "okt") (by rfl) (by decide) (by rfl) (by decide) (by rfl) ?_
        repeat walk_at "e"
        refine ⟨p, ks.map V.int, rfl, w14.x0, by simp; omega, fun k out σ' => σ' = σ13 ∧ out = (ks.take k).map (fun x => enc (cs.getD x.toNat (0, 0))), ⟨rfl, by simp⟩, ?_, ?_, ?_⟩
        · rintro k out σ' ⟨rfl, _⟩; exact w14.x0
        · rintro C gs' k v out σ' hk hv hout ⟨rfl, rfl⟩
          rw [List.length_map] at hk
          rw [List.getElem?_map, List.getElem?_eq_getElem hk] at hv
          simp only [Option.map_some, Option.some.injEq] at hv
          subst hv
          have hx := hks _ (List.getElem_mem hk)
          have okC : Cx.ok ⟨B, A, gs', compEnvC { kind := ScopeKind.function, names := [(Str.ofString ".0", NameKind.local), (Str.ofString "part", NameKind.local), (Str.ofString "cells", NameKind.free)], isGenerator := false, isCoroutine := false } [(Str.ofString "cells", L + 1)] C (callEnvC fd_things.1 L 401)⟩ := ⟨rfl, rfl, rfl, ok.handled, ok.units⟩
          refine WE.sub ?_
          refine WE.cellv (by rfl) okC (by rfl) (by walk_at "ob") ?_
          refine WE.loc1 (by rfl) okC (by walk_at "lk") ?_
          refine WSub.list (u := enc (cs.getD ks[k].toNat (0, 0))) (by walk_at "ob") hx.1 (by omega) ?_ ⟨rfl, ?_⟩
          · have hlt : ks[k].toNat < cs.length := by omega
            rw [List.getElem?_map, List.getElem?_eq_getElem hlt]
            simp [List.getD, hlt]
          · rw [List.take_add_one, List.getElem?_eq_getElem hk, List.map_append]; rfl
        rintro out σ' hout ⟨rfl, rfl⟩ q hq
        rw [List.length_map, List.take_of_length_le (Nat.le_refl _)]
        have eout : ks.map (fun x => enc (cs.getD x.toNat (0, 0))) = (ks.map fun x => cs.getD x.toNat (0, 0)).map enc := by simp [Function.comp_def]
        rw [eout]
        generalize hcs' : (ks.map fun x => cs.getD x.toNat (0, 0)) = cs'
        have t3 := th.up
        have hcok : ∀ c ∈ cs', COK D3.F H c := by
          rw [← hcs']
          intro c hc
          obtain ⟨x, hx, rfl⟩ := List.mem_map.mp hc
          have hx' := hks x hx
          have hlt : x.toNat < cs.length := by omega
          have : cs.getD x.toNat (0, 0) = cs[x.toNat] := by simp [List.getD, hlt]
          rw [this]
          exact t3.cok _ (List.getElem_mem hlt)
        obtain ⟨ds, hds, hdok⟩ := ders_ex t3.ok hcok
        have hdl : (ds.length : Int) = (if way = 0 then 1 else 2) := by rw [← hds.length, ← hcs', List.length_map]; exact hkl
        have w15 := w14.put (o := .list (cs'.map enc)) hq
        generalize upd σ' q (.list (cs'.map enc)) = σ14 at w15
        repeat walk_at "e"
        have hd12 : ds.length = 1 ∨ ds.length = 2 := by split at hdl <;> omega
        refine WC.specA r (c_new_struct hB w15.st w15.sy w15.ap (by rw [d_len3]; omega) hf0 hf1 w15.x0 (w15.hne (.head _)) hds (by rw [hfa, hdl]) (by omega) d_ar30 (by omega) fun σ15 kp hS => ?_)
        have w16 := w15.heap kp hS
        have k4 := w16.x4
        have hcl : (cs.map enc).length ≤ 1000000 := by simp; omega
        repeat walk_at "e"
        refine ⟨rfl, mdc fv H, blkOf fv H ds, D3, ks.map V.int, ⟨by walk_at "lk", by walk_at "lk", by walk_at "lk", by walk_at "lk"⟩, by walk_at "lk", by walk_at "lk", ?_, t3.struct (by omega) hf0 hf1 (by rw [hfa, hdl]) hd12 hdok⟩
        rw [happ]
        exact w16.set4.tl
      · have hcl : (cs.map enc).length ≤ 1000000 := by simp; omega
        repeat walk_at "m"
        refine iteB (fun h => ?_) (fun h => ?_)
        · repeat walk_at "m"
          refine ⟨rfl, (4, 0), H, D, [], ⟨by walk_at "lk", by walk_at "lk", by walk_at "lk", by walk_at "lk"⟩, by walk_at "lk", by walk_at "lk", ?_, th.atom (.inl rfl) (by
            rcases Nat.lt_or_ge i 2 with h' | h'
            · have := hw2 h'; omega
            · omega)⟩
          rw [happ]
          exact w7.set3
        · repeat walk_at "m"
          refine iteB (fun h => ?_) (fun h => ?_)
          · repeat walk_at "m"
            refine W2.pow (by decide) (by decide) (by decide) ?_
            repeat walk_at "m"
            refine WC.specA r (c_pick hB w7.un (by decide) (by decide) fun v σ8 hv0 hv1 kp un => ?_)
            have w8 := w7.pick kp un
            have k3 := w8.x3
            repeat walk_at "m"
            refine ⟨rfl, (5, v), H, D, [], ⟨by walk_at "lk", by walk_at "lk", by walk_at "lk", by walk_at "lk"⟩, by walk_at "lk", by walk_at "lk", ?_, th.atom (.inr rfl) (by
              rcases Nat.lt_or_ge i 2 with h' | h'
              · have := hw2 h'; omega
              · omega)⟩
            rw [happ]
            exact w8.set3
          · repeat walk_at "m"
            refine WC.specA r (c_new_var hB w7.st (by simp; omega) ?_)
            have hS : (H.map enc) ++ [.tup [.int 0, .int (H.map enc).length]] = (H ++ [((0 : Int), (H.length : Int))]).map enc := by simp [enc]
            rw [hS]
            have w8 : Wd W (H ++ [((0 : Int), (H.length : Int))]) D _ _ := w7.heap ((Kp.refl _ _).upd (.inl (.head _))) (upd_same _ _ _)
            rw [List.length_map]
            generalize upd σ7 W.S.h (.list ((H ++ [((0 : Int), (H.length : Int))]).map enc)) = σ8 at w8
            have k3 := w8.x3
            repeat walk_at "m"
            refine ⟨rfl, (0, (H.length : Int)), _, D, [], ⟨by walk_at "lk", by walk_at "lk", by walk_at "lk", by walk_at "lk"⟩, by walk_at "lk", by walk_at "lk", ?_, th.var (fun h => hH0 (by omega))⟩
            rw [happ]
            exact w8.set3
    rintro ρ2 σ8 ⟨c', H', D', pl, ⟨r1, r2, r3, r4⟩, r5, r6, w8, th8⟩
    walk_at "wd"
    have hlen : ((cs ++ [c']).map enc).length = i + 1 := by simp [hcs]
    refine WSS.cons ?_
    repeat walk_at "m"
    refine WSub.listNeg (u := enc c') (by walk_at "ob") (by decide) (by rw [hlen]; omega) (by decide) (by rw [hlen, show ((-1 : Int) + ((i + 1 : Nat) : Int)).toNat = i by omega, List.getElem?_map, List.getElem?_append_right (by omega)]; simp [hcs]) ?_
    repeat walk_at "m"
    intro t1 ht1
    have w9 := w8.put (o := .list [V.str (Str.ofString "g"), .str (Str.ofString "h"), .str (Str.ofString "."), .str (Str.ofString "f"), .str (Str.ofString "[]"), enc c', .str (Str.ofString "")]) ht1
    generalize upd σ8 t1 (.list [V.str (Str.ofString "g"), .str (Str.ofString "h"), .str (Str.ofString "."), .str (Str.ofString "f"), .str (Str.ofString "[]"), enc c', .str (Str.ofString "")]) = σ9 at w9
    repeat walk_at "e"
    obtain ⟨u, hu⟩ : ∃ u, [V.str (Str.ofString "g"), .str (Str.ofString "h"), .str (Str.ofString "."), .str (Str.ofString "f"), .str (Str.ofString "[]"), enc c', .str (Str.ofString "")][way.toNat]? = some u := ⟨_, List.getElem?_eq_getElem (by simp; omega)⟩
    refine WSub.list w9.x0 hw0 (by omega) hu ?_
    repeat walk_at "e"
    intro t2 ht2
    have w10 := w9.put (o := .list [u, .ref p]) ht2
    generalize upd σ9 t2 (.list [u, .ref p]) = σ10 at w10
    have k3 := w10.x3
    repeat walk_at "e"
    exact ⟨by omega, ⟨by walk_at "lk", by walk_at "lk", by walk_at "lk", by walk_at "lk"⟩, cs ++ [c'], H', D', nl ++ [.ref t2], by simp [hcs], by simp [hnl], w10.set3.tl.tl.tl, th8, by omega⟩
  · rw [hrn]
    rintro ρ σ' ⟨hi8, ⟨r1, r2, r3, r4⟩, cs, H, D, nl, hcs, hnl, w5, th, hH0⟩
    walk_at "wd"
    repeat walk_at "m"
    exact hQ σ' ca na cs H D w5.tl.tl th (by omega) (by omega)
/-! ## what copy lays -/
theorem DerN.det {H : List Cell} {n : Nat} {x y : Cell} (a : DerN H n x y) : ∀ {m : Nat} {z : Cell}, DerN H m x z → y = z := by
  induction a with
  | here h0 h1 =>
    intro m z b
    cases b with
    | here => rfl
    | self h => exact absurd h h0
    | step h => exact absurd h h0
  | self h0 h1 h2 =>
    intro m z b
    cases b with
    | here h => exact absurd h0 h
    | self => rfl
    | step _ _ e ne => rw [h2] at e; cases e; exact absurd rfl ne
  | step h0 h1 h2 ne _ ih =>
    intro m z b
    cases b with
    | here h => exact absurd h0 h
    | self _ _ e => rw [h2] at e; cases e; exact absurd rfl ne
    | step _ _ e _ b => rw [h2] at e; cases e; exact ih b
theorem Der.det {H : List Cell} {x y z : Cell} (a : Der H x y) (b : Der H x z) : y = z := let ⟨_, a⟩ := a; let ⟨_, b⟩ := b; a.det b
theorem DerN.mono {H H' : List Cell} (h : ∀ (p : Nat) (c : Cell), H[p]? = some c → H'[p]? = some c) {n : Nat} {x y : Cell} (a : DerN H n x y) : DerN H' n x y := by
  induction a with
  | here h0 h1 => exact .here h0 h1
  | self h0 h1 h2 => exact .self h0 h1 (h _ _ h2)
  | step h0 h1 h2 ne _ ih => exact .step h0 h1 (h _ _ h2) ne ih
theorem Der.mono {H H' : List Cell} (h : ∀ (p : Nat) (c : Cell), H[p]? = some c → H'[p]? = some c) {x y : Cell} (a : Der H x y) : Der H' x y := let ⟨n, a⟩ := a; ⟨n, a.mono h⟩
theorem cmp_uniq {F H : List Cell} {c c' : Cell} (a : COK F H c) (b : COK F H c') (h : isCmp c) (h' : isCmp c') (e : c.2 = c'.2) : c = c' := by
  have key : ∀ {c c' : Cell}, COK F H c → COK F H c' → isCmp c' → c.1 = 2 → c'.1 = 3 → c.2 = c'.2 → False := by
    intro c c' a b hb h2 h3 e
    obtain ⟨f, hf, _⟩ := a.fn h2
    have hw : 0 < (wd F H c').toNat := by rcases b.wdt hb with h | h <;> lia
    obtain ⟨d, hd, hd'⟩ := b.arg hb 0 hw
    have : (bs c').toNat + 0 = c.2.toNat := by unfold bs; rw [if_pos h3, e]; rfl
    rw [this, hf] at hd; cases hd; exact hd' rfl
  rcases h with h | h <;> rcases h' with h' | h'
  · exact Prod.ext (h.trans h'.symm) e
  · exact (key a b (.inr h') h h' e).elim
  · exact (key b a (.inr h) h' h e.symm).elim
  · exact Prod.ext (h.trans h'.symm) e

def lkC (T : List (Int × Cell)) (k : Int) : Option Cell := (T.find? fun p => decide (p.1 = k)).map (·.2)
theorem dget_C (T : List (Int × Cell)) (k : Int) : dget (T.map fun p => (p.1, enc p.2)) k = (lkC T k).map enc := by
  induction T with
  | nil => rfl
  | cons p l ih =>
    simp only [dget, lkC, List.map_cons, List.find?_cons] at ih ⊢
    by_cases h : p.1 = k
    · simp [h]
    · simp only [h, decide_false]; exact ih
theorem lkC_mem {T : List (Int × Cell)} {k : Int} {z : Cell} (h : lkC T k = some z) : (k, z) ∈ T := by
  unfold lkC at h
  cases hf : T.find? (fun p => decide (p.1 = k)) with
  | none => rw [hf] at h; cases h
  | some q =>
    rw [hf] at h
    simp only [Option.map_some, Option.some.injEq] at h
    have h1 := List.mem_of_find?_eq_some hf
    have h2 : q.1 = k := by simpa using List.find?_some hf
    have : q = (k, z) := Prod.ext h2 h
    rw [← this]; exact h1
theorem lkC_none {T : List (Int × Cell)} {k : Int} (h : lkC T k = none) : k ∉ T.map (·.1) := by
  unfold lkC at h
  intro hk
  obtain ⟨p, hp, e⟩ := List.mem_map.mp hk
  rw [Option.map_eq_none_iff, List.find?_eq_none] at h
  exact h p hp (by simpa using e)
theorem lkC_of_mem {T : List (Int × Cell)} (nd : (T.map (·.1)).Nodup) {k : Int} {z : Cell} (h : (k, z) ∈ T) : lkC T k = some z := by
  induction T with
  | nil => cases h
  | cons p T ih =>
    simp only [List.map_cons, List.nodup_cons] at nd
    unfold lkC
    simp only [List.find?_cons]
    rcases List.mem_cons.mp h with rfl | h
    · simp
    · have : p.1 ≠ k := by rintro rfl; have := List.mem_map_of_mem (f := (·.1)) h; exact nd.1 this
      simp only [this, decide_false]
      exact ih nd.2 h
theorem lkC_app (T T' : List (Int × Cell)) (k : Int) : lkC (T ++ T') k = (lkC T k).or (lkC T' k) := by
  unfold lkC
  rw [List.find?_append]
  cases T.find? (fun p => decide (p.1 = k)) <;> simp
theorem lkC_app_l {T T' : List (Int × Cell)} {k : Int} {z : Cell} (h : lkC T k = some z) : lkC (T ++ T') k = some z := by rw [lkC_app, h]; rfl
theorem dput_C {T : List (Int × Cell)} {k : Int} (h : lkC T k = none) (z : Cell) : dput (T.map fun p => (p.1, enc p.2)) k (enc z) = (T ++ [(k, z)]).map fun p => (p.1, enc p.2) := by
  unfold dput
  have hk := lkC_none h
  have : (T.map fun p => (p.1, enc p.2)).any (fun p => decide (p.1 = k)) = false := by
    rw [List.any_eq_false]
    intro p hp
    obtain ⟨q, hq, rfl⟩ := List.mem_map.mp hp
    simp only [decide_eq_true_eq]
    rintro rfl
    exact hk (List.mem_map_of_mem hq)
  rw [this]; simp

section
variable (F Ho : List Cell)
def hdn (c : Cell) : Nat := if c.1 = 3 then 0 else 1
def wdn (c : Cell) : Nat := (wd F Ho c).toNat
def size (c : Cell) : Nat := hdn c + wdn F Ho c
def tot : List Cell → Nat
  | [] => 0
  | c :: Cs => size F Ho c + tot Cs
def Ms : Nat → List Cell → List (Int × Cell)
  | _, [] => []
  | h, c :: Cs => (c.2, (c.1, (h : Int))) :: Ms (h + size F Ho c) Cs
def Ws : Nat → List Cell → List (Cell × Cell)
  | _, [] => []
  | h, c :: Cs => (c, (c.1, (h : Int))) :: Ws (h + size F Ho c) Cs
def args : Nat → List Cell → List (Nat × Cell × Nat)
  | _, [] => []
  | h, c :: Cs => (List.range (wdn F Ho c)).map (fun i => (h + hdn c + i, c, i)) ++ args (h + size F Ho c) Cs
def hdrs : Nat → List Cell → List (Nat × Cell)
  | _, [] => []
  | h, c :: Cs => (if c.1 = 3 then [] else [(h, c)]) ++ hdrs (h + size F Ho c) Cs
end
section
variable {F Ho : List Cell}
theorem tot_app : ∀ (A B : List Cell), tot F Ho (A ++ B) = tot F Ho A + tot F Ho B
  | [], B => by simp [tot]
  | a :: A, B => by simp only [List.cons_append, tot, tot_app A B]; lia
theorem Ms_app : ∀ (A B : List Cell) (h : Nat), Ms F Ho h (A ++ B) = Ms F Ho h A ++ Ms F Ho (h + tot F Ho A) B
  | [], B, h => by simp [tot, Ms]
  | a :: A, B, h => by simp only [List.cons_append, tot, Ms, Ms_app A B, Nat.add_assoc]
theorem Ws_app : ∀ (A B : List Cell) (h : Nat), Ws F Ho h (A ++ B) = Ws F Ho h A ++ Ws F Ho (h + tot F Ho A) B
  | [], B, h => by simp [tot, Ws]
  | a :: A, B, h => by simp only [List.cons_append, tot, Ws, Ws_app A B, Nat.add_assoc]
theorem args_app : ∀ (A B : List Cell) (h : Nat), args F Ho h (A ++ B) = args F Ho h A ++ args F Ho (h + tot F Ho A) B
  | [], B, h => by simp [tot, args]
  | a :: A, B, h => by simp only [List.cons_append, tot, args, args_app A B, Nat.add_assoc, List.append_assoc]
theorem hdrs_app : ∀ (A B : List Cell) (h : Nat), hdrs F Ho h (A ++ B) = hdrs F Ho h A ++ hdrs F Ho (h + tot F Ho A) B
  | [], B, h => by simp [tot, hdrs]
  | a :: A, B, h => by simp only [List.cons_append, tot, hdrs, hdrs_app A B, Nat.add_assoc, List.append_assoc]
theorem Ws_length : ∀ (A : List Cell) (h : Nat), (Ws F Ho h A).length = A.length
  | [], _ => rfl
  | a :: A, h => by simp [Ws, Ws_length A]
theorem args_bd : ∀ {Cs : List Cell} {h p : Nat} {c : Cell} {i : Nat}, (p, c, i) ∈ args F Ho h Cs → h ≤ p ∧ p < h + tot F Ho Cs ∧ c ∈ Cs ∧ i < wdn F Ho c
  | [], _, _, _, _, e => by cases e
  | a :: Cs, h, p, c, i, e => by
    simp only [args] at e
    rcases List.mem_append.mp e with e | e
    · obtain ⟨j, hj, e⟩ := List.mem_map.mp e
      simp only [Prod.mk.injEq] at e
      obtain ⟨rfl, rfl, rfl⟩ := e
      have := List.mem_range.mp hj
      refine ⟨by lia, ?_, .head _, this⟩
      simp only [tot, size]; lia
    · obtain ⟨a1, a2, a3, a4⟩ := args_bd e
      exact ⟨by lia, by simp only [tot]; lia, .tail _ a3, a4⟩
theorem hdrs_bd : ∀ {Cs : List Cell} {h p : Nat} {c : Cell}, (p, c) ∈ hdrs F Ho h Cs → h ≤ p ∧ p < h + tot F Ho Cs ∧ c ∈ Cs ∧ c.1 ≠ 3
  | [], _, _, _, e => by cases e
  | a :: Cs, h, p, c, e => by
    simp only [hdrs] at e
    rcases List.mem_append.mp e with e | e
    · split at e
      · cases e
      · rename_i h3
        simp only [List.mem_singleton, Prod.mk.injEq] at e
        obtain ⟨rfl, rfl⟩ := e
        exact ⟨Nat.le_refl _, by simp only [tot, size, hdn, h3, if_false]; lia, .head _, h3⟩
    · obtain ⟨a1, a2, a3, a4⟩ := hdrs_bd e
      exact ⟨by lia, by simp only [tot]; lia, .tail _ a3, a4⟩
/-- each new place is a head or an argument -/
theorem cover : ∀ {Cs : List Cell} {h p : Nat}, h ≤ p → p < h + tot F Ho Cs → (∃ c, (p, c) ∈ hdrs F Ho h Cs) ∨ ∃ c i, (p, c, i) ∈ args F Ho h Cs
  | [], h, p, h1, h2 => by simp only [tot] at h2; lia
  | a :: Cs, h, p, h1, h2 => by
    simp only [tot] at h2
    by_cases hp : p < h + size F Ho a
    · by_cases hh : p < h + hdn a
      · left
        refine ⟨a, ?_⟩
        simp only [hdrs]
        have h3 : a.1 ≠ 3 := by intro q; simp only [hdn, q, if_true] at hh; lia
        have : p = h := by simp only [hdn, h3, if_false] at hh; lia
        rw [if_neg h3, this]; simp
      · right
        refine ⟨a, p - (h + hdn a), ?_⟩
        simp only [args]
        refine List.mem_append_left _ (List.mem_map.mpr ⟨p - (h + hdn a), List.mem_range.mpr (by unfold size at hp; lia), ?_⟩)
        simp only [Prod.mk.injEq, and_true]; lia
    · rcases cover (Cs := Cs) (h := h + size F Ho a) (p := p) (by lia) (by lia) with ⟨c, e⟩ | ⟨c, i, e⟩
      · exact .inl ⟨c, by simp only [hdrs]; exact List.mem_append_right _ e⟩
      · exact .inr ⟨c, i, by simp only [args]; exact List.mem_append_right _ e⟩
theorem Ms_lk {Cs : List Cell} : ∀ {h : Nat} {a : Int} {n : Cell}, lkC (Ms F Ho h Cs) a = some n → ∃ A c B, Cs = A ++ c :: B ∧ c.2 = a ∧ n = (c.1, ((h + tot F Ho A : Nat) : Int)) := by
  induction Cs with
  | nil => intro h a n e; simp [Ms, lkC] at e
  | cons c Cs ih =>
    intro h a n e
    simp only [Ms, lkC, List.find?_cons] at e
    by_cases q : c.2 = a
    · simp only [q, decide_true, Option.map_some, Option.some.injEq] at e
      exact ⟨[], c, Cs, rfl, q, by rw [← e]; simp [tot]⟩
    · simp only [q, decide_false] at e
      obtain ⟨A, c', B, e1, e2, e3⟩ := ih e
      exact ⟨c :: A, c', B, by rw [e1]; rfl, e2, by rw [e3]; simp only [tot, Nat.add_assoc]⟩
theorem Ms_keys : ∀ (Cs : List Cell) (h : Nat), (Ms F Ho h Cs).map (·.1) = Cs.map (·.2)
  | [], _ => rfl
  | c :: Cs, h => by simp [Ms, Ms_keys Cs]
theorem tot_lt {A B A' B' : List Cell} {c c' : Cell} (e : A ++ c :: B = A' ++ c' :: B') (hc : 0 < size F Ho c) (hc' : 0 < size F Ho c') (h : tot F Ho A = tot F Ho A') : A = A' ∧ c = c' := by
  induction A generalizing A' with
  | nil =>
    cases A' with
    | nil => simp at e; exact ⟨rfl, e.1⟩
    | cons a A' =>
      simp at e
      obtain ⟨rfl, _⟩ := e
      simp only [tot] at h; lia
  | cons a A ih =>
    cases A' with
    | nil =>
      simp at e
      obtain ⟨rfl, _⟩ := e
      simp only [tot] at h; lia
    | cons a' A' =>
      simp only [List.cons_append, List.cons.injEq] at e
      obtain ⟨rfl, e⟩ := e
      simp only [tot] at h
      obtain ⟨r1, r2⟩ := ih e (by lia)
      exact ⟨by rw [r1], r2⟩
end

/-- what a walked cell becomes -/
def Img (T M : List (Int × Cell)) (d z : Cell) : Prop := (d.1 = 0 ∧ lkC T d.2 = some z) ∨ (d.1 ≠ 0 ∧ ¬ isCmp d ∧ z = d) ∨ (isCmp d ∧ lkC M d.2 = some z)
theorem Img.mono {T M T' M' : List (Int × Cell)} {d z : Cell} (h : Img T M d z) : Img (T ++ T') (M ++ M') d z := by
  rcases h with ⟨a, b⟩ | h | ⟨a, b⟩
  · exact .inl ⟨a, lkC_app_l b⟩
  · exact .inr (.inl h)
  · exact .inr (.inr ⟨a, lkC_app_l b⟩)
/-- argument i of c is, walked, d -/
def Kid (F Ho : List Cell) (c : Cell) (i : Nat) (d : Cell) : Prop := i < wdn F Ho c ∧ ∃ e, Ho[(bs c).toNat + i]? = some e ∧ Der Ho e d
structure CpA (F Ho H : List Cell) (T : List (Int × Cell)) (Cs : List Cell) (q : Nat) (Hc : List Cell) : Prop where
  len : Hc.length = H.length + tot F Ho Cs
  pre : ∀ p, p < H.length → Hc[p]? = H[p]?
  hd : ∀ p c, (p, c) ∈ hdrs F Ho H.length Cs → Hc[p]? = some (6, fnOf Ho c)
  lo : ∀ p c i, (p, c, i) ∈ args F Ho H.length Cs → p < q → ∃ d z, Kid F Ho c i d ∧ COK F Ho d ∧ Img T (Ms F Ho H.length Cs) d z ∧ Hc[p]? = some z
  hi : ∀ p c i, (p, c, i) ∈ args F Ho H.length Cs → q ≤ p → Hc[p]? = some (0, (p : Int))
  cs : ∀ c ∈ Cs, COK F Ho c ∧ isCmp c
  nd : (Cs.map (·.2)).Nodup
  tab : ∀ k z, (k, z) ∈ T → z.1 = 0 ∧ (Ho.length : Int) ≤ z.2 ∧ Hc[z.2.toNat]? = some z ∧ (z.2 < H.length ∨ z.2 < q)
  tk : (T.map (·.1)).Nodup
  tv : (T.map (·.2.2)).Nodup
  ho : Ho.length ≤ H.length
  q1 : H.length ≤ q
  q2 : q ≤ H.length + tot F Ho Cs
structure Cp (F Ho H : List Cell) (T0 T : List (Int × Cell)) (root : Cell) (Cs : List Cell) (q : Nat) (Hc : List Cell) : Prop where
  a : CpA F Ho H T Cs q Hc
  t0 : ∃ T2, T = T0 ++ T2
  reach : ∀ P : Cell → Prop, P root → (∀ c i d, c ∈ Cs → P c → Kid F Ho c i d → isCmp d → P d) → ∀ c ∈ Cs, P c
  tn : ∀ k z, (k, z) ∈ T → k ∈ T0.map (·.1) ∨ ∃ c ∈ Cs, ∃ i d, Kid F Ho c i d ∧ d.1 = 0 ∧ d.2 = k
  rt : root ∈ Cs
  first : lkC (Ms F Ho H.length Cs) root.2 = some (root.1, (H.length : Int))

section
variable {F Ho H : List Cell} {T T0 : List (Int × Cell)} {root : Cell} {Cs : List Cell} {q : Nat} {Hc : List Cell}
theorem CpA.skip (k : CpA F Ho H T Cs q Hc) {q' : Nat} (hq : q ≤ q') (hq' : q' ≤ H.length + tot F Ho Cs) (h : ∀ p c i, (p, c, i) ∈ args F Ho H.length Cs → q ≤ p → q' ≤ p) : CpA F Ho H T Cs q' Hc :=
  ⟨k.len, k.pre, k.hd, fun p c i e hp => k.lo p c i e (by rcases Nat.lt_or_ge p q with h' | h'; exact h'; have := h p c i e h'; lia), fun p c i e hp => k.hi p c i e (by lia), k.cs, k.nd,
    fun a z e => let ⟨x1, x2, x3, x4⟩ := k.tab a z e; ⟨x1, x2, x3, by lia⟩, k.tk, k.tv, k.ho, by have := k.q1; lia, hq'⟩
/-- where the arguments of a list of blocks lie, seen from one of them -/
theorem args_mid {A B : List Cell} {c : Cell} {h p i : Nat} {d : Cell} (e : (p, d, i) ∈ args F Ho h (A ++ c :: B)) : p < h + tot F Ho A ∨ (d = c ∧ i < wdn F Ho c ∧ p = h + tot F Ho A + hdn c + i) ∨ h + tot F Ho A + size F Ho c ≤ p := by
  rw [args_app] at e
  rcases List.mem_append.mp e with e | e
  · exact .inl (args_bd e).2.1
  · simp only [args] at e
    rcases List.mem_append.mp e with e | e
    · obtain ⟨j, hj, e⟩ := List.mem_map.mp e
      simp only [Prod.mk.injEq] at e
      obtain ⟨rfl, rfl, rfl⟩ := e
      exact .inr (.inl ⟨rfl, List.mem_range.mp hj, rfl⟩)
    · exact .inr (.inr (args_bd e).1)
theorem args_in {A B : List Cell} {c : Cell} {h i : Nat} (hi : i < wdn F Ho c) : (h + tot F Ho A + hdn c + i, c, i) ∈ args F Ho h (A ++ c :: B) := by
  rw [args_app]
  refine List.mem_append_right _ ?_
  simp only [args]
  exact List.mem_append_left _ (List.mem_map.mpr ⟨i, List.mem_range.mpr hi, rfl⟩)
theorem hdrs_mid {A B : List Cell} {c : Cell} {h p : Nat} {d : Cell} (e : (p, d) ∈ hdrs F Ho h (A ++ c :: B)) : p < h + tot F Ho A ∨ (d = c ∧ c.1 ≠ 3 ∧ p = h + tot F Ho A) ∨ h + tot F Ho A + size F Ho c ≤ p := by
  rw [hdrs_app] at e
  rcases List.mem_append.mp e with e | e
  · exact .inl (hdrs_bd e).2.1
  · simp only [hdrs] at e
    rcases List.mem_append.mp e with e | e
    · split at e
      · cases e
      · rename_i h3
        simp only [List.mem_singleton, Prod.mk.injEq] at e
        exact .inr (.inl ⟨e.2, h3, e.1⟩)
    · exact .inr (.inr (hdrs_bd e).1)
theorem hdrs_in {A B : List Cell} {c : Cell} {h : Nat} (h3 : c.1 ≠ 3) : (h + tot F Ho A, c) ∈ hdrs F Ho h (A ++ c :: B) := by
  rw [hdrs_app]
  refine List.mem_append_right _ ?_
  simp only [hdrs, if_neg h3]
  exact List.mem_append_left _ (.head _)
theorem CpA.put {A B : List Cell} {c d z : Cell} {i : Nat} (k : CpA F Ho H T (A ++ c :: B) q Hc) (hq : q = H.length + tot F Ho A + hdn c + i) (hi : i < wdn F Ho c) (kid : Kid F Ho c i d) (hd : COK F Ho d) (im : Img T (Ms F Ho H.length (A ++ c :: B)) d z) :
    CpA F Ho H T (A ++ c :: B) (q + 1) (Hc.set q z) := by
  have hin := args_in (A := A) (B := B) (h := H.length) hi
  have hb := args_bd hin
  rw [← hq] at hin hb
  have hlt : q < Hc.length := by rw [k.len]; exact hb.2.1
  have ne : ∀ p, p ≠ q → (Hc.set q z)[p]? = Hc[p]? := fun p hp => by rw [List.getElem?_set]; rw [if_neg (Ne.symm hp)]
  have self : (Hc.set q z)[q]? = some z := by rw [List.getElem?_set]; simp [hlt]
  have hs : size F Ho c = hdn c + wdn F Ho c := rfl
  have pos : ∀ p d' i', (p, d', i') ∈ args F Ho H.length (A ++ c :: B) → p = q → d' = c ∧ i' = i := fun p d' i' e hp => by
    rcases args_mid e with h | ⟨h1, h2, h3⟩ | h
    · lia
    · exact ⟨h1, by lia⟩
    · lia
  refine ⟨by simp [k.len], fun p hp => by rw [ne p (by lia)]; exact k.pre p hp, fun p d' e => ?_, fun p d' i' e hp => ?_, fun p d' i' e hp => ?_, k.cs, k.nd, fun a x e => ?_, k.tk, k.tv, k.ho, by have := k.q1; lia, by lia⟩
  · rw [ne p ?_]
    · exact k.hd p d' e
    · rcases hdrs_mid e with h | ⟨h1, h2, h3⟩ | h
      · lia
      · have : hdn c = 1 := by simp [hdn, h2]
        lia
      · lia
  · by_cases hpq : p = q
    · obtain ⟨rfl, rfl⟩ := pos p d' i' e hpq
      subst hpq
      exact ⟨d, z, kid, hd, im, self⟩
    · rw [ne p hpq]; exact k.lo p d' i' e (by lia)
  · rw [ne p (by lia)]; exact k.hi p d' i' e (by lia)
  · obtain ⟨x1, x2, x3, x4⟩ := k.tab a x e
    have : x.2.toNat ≠ q := by lia
    exact ⟨x1, x2, by rw [ne _ this]; exact x3, by lia⟩
theorem CpA.var {A B : List Cell} {c d : Cell} {i : Nat} (k : CpA F Ho H T (A ++ c :: B) q Hc) (hq : q = H.length + tot F Ho A + hdn c + i) (hi : i < wdn F Ho c) (kid : Kid F Ho c i d) (hd : COK F Ho d) (h0 : d.1 = 0) (hn : lkC T d.2 = none) :
    CpA F Ho H (T ++ [(d.2, (0, (q : Int)))]) (A ++ c :: B) (q + 1) Hc := by
  have hin := args_in (A := A) (B := B) (h := H.length) hi
  have hb := args_bd hin
  rw [← hq] at hin hb
  have hself := k.hi q c i hin (Nat.le_refl _)
  have pos : ∀ p d' i', (p, d', i') ∈ args F Ho H.length (A ++ c :: B) → p = q → d' = c ∧ i' = i := fun p d' i' e hp => by
    have hs : size F Ho c = hdn c + wdn F Ho c := rfl
    rcases args_mid e with h | ⟨h1, h2, h3⟩ | h
    · lia
    · exact ⟨h1, by lia⟩
    · lia
  refine ⟨k.len, k.pre, k.hd, fun p d' i' e hp => ?_, fun p d' i' e hp => k.hi p d' i' e (by lia), k.cs, k.nd, fun a x e => ?_, ?_, ?_, k.ho, by have := k.q1; lia, by lia⟩
  · by_cases hpq : p = q
    · obtain ⟨rfl, rfl⟩ := pos p d' i' e hpq
      subst hpq
      refine ⟨d, (0, (p : Int)), kid, hd, .inl ⟨h0, ?_⟩, hself⟩
      rw [lkC_app, hn]; simp [lkC]
    · obtain ⟨d2, z, y1, y2, y3, y4⟩ := k.lo p d' i' e (by lia)
      refine ⟨d2, z, y1, y2, ?_, y4⟩
      have := Img.mono (T' := [(d.2, (0, (q : Int)))]) (M' := []) y3
      rwa [List.append_nil] at this
  · rcases List.mem_append.mp e with e | e
    · obtain ⟨x1, x2, x3, x4⟩ := k.tab a x e
      exact ⟨x1, x2, x3, by lia⟩
    · simp only [List.mem_singleton, Prod.mk.injEq] at e
      obtain ⟨_, rfl⟩ := e
      have h1 := k.q1; have h2 := k.ho
      exact ⟨rfl, by simp only; lia, by simpa using hself, .inr (by simp only; lia)⟩
  · rw [List.map_append, List.nodup_append]
    refine ⟨k.tk, by simp, fun a ha b hb e => ?_⟩
    simp at hb; subst hb; subst e
    exact lkC_none hn ha
  · rw [List.map_append, List.nodup_append]
    refine ⟨k.tv, by simp, fun a ha b hb e => ?_⟩
    simp at hb; subst hb; subst e
    obtain ⟨⟨k', z⟩, hm, e⟩ := List.mem_map.mp ha
    have := (k.tab k' z hm).2.2.2
    have h1 := k.q1
    simp only at e; lia
/-- the cells of a new block -/
def newB (F Ho : List Cell) (s : Nat) (d : Cell) : List Cell := (if d.1 = 3 then [] else [((6 : Int), fnOf Ho d)]) ++ selfs (s + hdn d) (wdn F Ho d)
theorem selfs_get {n k i : Nat} (h : i < k) : (selfs n k)[i]? = some (0, ((n + i : Nat) : Int)) := by simp [selfs, h]
theorem newB_len (s : Nat) (d : Cell) : (newB F Ho s d).length = size F Ho d := by
  unfold newB size hdn
  split <;> simp [selfs_length]; lia
theorem CpA.lay {d : Cell} (k : CpA F Ho H T Cs q Hc) (hd : COK F Ho d) (hc : isCmp d) (hn : lkC (Ms F Ho H.length Cs) d.2 = none) : CpA F Ho H T (Cs ++ [d]) q (Hc ++ newB F Ho Hc.length d) := by
  have hlen := k.len
  have old : ∀ p, p < H.length + tot F Ho Cs → (Hc ++ newB F Ho Hc.length d)[p]? = Hc[p]? := fun p hp => List.getElem?_append_left (by lia)
  have new : ∀ j, (Hc ++ newB F Ho Hc.length d)[H.length + tot F Ho Cs + j]? = (newB F Ho Hc.length d)[j]? := fun j => by
    rw [List.getElem?_append_right (by lia)]; congr 1; lia
  have ea : args F Ho H.length (Cs ++ [d]) = args F Ho H.length Cs ++ (List.range (wdn F Ho d)).map (fun i => (H.length + tot F Ho Cs + hdn d + i, d, i)) := by rw [args_app]; simp [args]
  have eh : hdrs F Ho H.length (Cs ++ [d]) = hdrs F Ho H.length Cs ++ (if d.1 = 3 then [] else [(H.length + tot F Ho Cs, d)]) := by rw [hdrs_app]; simp [hdrs]
  have em : Ms F Ho H.length (Cs ++ [d]) = Ms F Ho H.length Cs ++ [(d.2, (d.1, ((H.length + tot F Ho Cs : Nat) : Int)))] := by rw [Ms_app]; simp [Ms]
  have et : tot F Ho (Cs ++ [d]) = tot F Ho Cs + size F Ho d := by rw [tot_app]; simp [tot]
  have hq1 := k.q1; have hq2 := k.q2
  refine ⟨by rw [List.length_append, newB_len, et]; lia, fun p hp => by rw [old p (by lia)]; exact k.pre p hp, fun p c e => ?_, fun p c i e hp => ?_, fun p c i e hp => ?_, fun c hc' => ?_, ?_, fun a x e => ?_, k.tk, k.tv, k.ho, hq1, by rw [et]; lia⟩
  · rw [eh] at e
    rcases List.mem_append.mp e with e | e
    · rw [old p (hdrs_bd e).2.1]; exact k.hd p c e
    · split at e
      · cases e
      · rename_i h3
        simp only [List.mem_singleton, Prod.mk.injEq] at e
        obtain ⟨rfl, rfl⟩ := e
        have := new 0
        rw [Nat.add_zero] at this
        rw [this]
        simp [newB, h3]
  · rw [ea] at e
    rcases List.mem_append.mp e with e | e
    · obtain ⟨d2, z, y1, y2, y3, y4⟩ := k.lo p c i e hp
      refine ⟨d2, z, y1, y2, ?_, by rw [old p (args_bd e).2.1]; exact y4⟩
      rw [em]
      have := Img.mono (T' := []) (M' := [(d.2, (d.1, ((H.length + tot F Ho Cs : Nat) : Int)))]) y3
      rwa [List.append_nil] at this
    · obtain ⟨j, hj, e⟩ := List.mem_map.mp e
      simp only [Prod.mk.injEq] at e
      lia
  · rw [ea] at e
    rcases List.mem_append.mp e with e | e
    · rw [old p (args_bd e).2.1]; exact k.hi p c i e hp
    · obtain ⟨j, hj, e⟩ := List.mem_map.mp e
      simp only [Prod.mk.injEq] at e
      obtain ⟨rfl, rfl, rfl⟩ := e
      have hj := List.mem_range.mp hj
      rw [Nat.add_assoc, new]
      unfold newB
      by_cases h3 : d.1 = 3
      · simp only [h3, if_true, List.nil_append, hdn, Nat.zero_add]
        rw [selfs_get hj]
        congr 2; lia
      · simp only [h3, if_false, hdn]
        rw [List.getElem?_append_right (by simp)]
        simp only [List.length_singleton, Nat.add_sub_cancel_left]
        rw [selfs_get hj]
        congr 2; lia
  · rcases List.mem_append.mp hc' with h | h
    · exact k.cs c h
    · simp at h; subst h; exact ⟨hd, hc⟩
  · rw [List.map_append, List.nodup_append]
    refine ⟨k.nd, by simp, fun a ha b hb e => ?_⟩
    simp at hb; subst hb; subst e
    have := lkC_none hn
    rw [Ms_keys] at this
    exact this ha
  · obtain ⟨x1, x2, x3, x4⟩ := k.tab a x e
    refine ⟨x1, x2, ?_, x4⟩
    rw [old _ (Nat.lt_of_lt_of_le (List.getElem?_eq_some_iff.mp x3).1 (by lia))]; exact x3
end
theorem pigeon : ∀ (n : Nat) (l : List Nat), l.Nodup → (∀ x ∈ l, x < n) → l.length ≤ n
  | 0, l, _, h => by
    cases l with
    | nil => simp
    | cons a l => exact absurd (h a (.head _)) (Nat.not_lt_zero _)
  | n + 1, l, nd, h => by
    have h1 := pigeon n (l.erase n) (nd.erase n) fun x hx => by
      have h1 := h x (List.mem_of_mem_erase hx)
      have h2 : x ≠ n := fun e => by subst e; exact nd.not_mem_erase hx
      lia
    have h2 : l.length ≤ (l.erase n).length + 1 := by
      rw [List.length_erase]
      split <;> lia
    lia
theorem pigeonI {n : Nat} {l : List Int} (nd : l.Nodup) (h : ∀ x ∈ l, 0 ≤ x ∧ x < n) : l.length ≤ n := by
  have h1 : (l.map Int.toNat).Nodup := by
    refine List.Pairwise.map _ (fun a b => ?_) (List.Pairwise.and_mem.mp nd)
    rintro ⟨ha, hb, hne⟩ e
    have := h a ha; have := h b hb
    exact hne (by lia)
  have := pigeon n (l.map Int.toNat) h1 fun x hx => by
    obtain ⟨y, hy, rfl⟩ := List.mem_map.mp hx
    have := h y hy; lia
  simpa using this

structure TOK (Ho H : List Cell) (T : List (Int × Cell)) : Prop where
  tab : ∀ k z, (k, z) ∈ T → z.1 = 0 ∧ (Ho.length : Int) ≤ z.2 ∧ H[z.2.toNat]? = some z
  tk : (T.map (·.1)).Nodup
  tv : (T.map (·.2.2)).Nodup
theorem TOK.len {Ho H : List Cell} {T : List (Int × Cell)} (t : TOK Ho H T) : T.length ≤ H.length := by
  have := pigeonI (n := H.length) t.tv fun x hx => by
    obtain ⟨⟨k, z⟩, hm, rfl⟩ := List.mem_map.mp hx
    obtain ⟨_, a, b⟩ := t.tab k z hm
    have := (List.getElem?_eq_some_iff.mp b).1
    simp only; lia
  simpa using this
theorem key_bd {F Ho : List Cell} {c : Cell} (h : COK F Ho c) (hc : isCmp c) : 0 ≤ c.2 ∧ c.2 < Ho.length := by
  obtain ⟨a, b, d⟩ := h.cmp hc
  refine ⟨b, ?_⟩
  rcases hc with h2 | h3
  · exact (d h2).1
  · have hw : 0 < (wd F Ho c).toNat := by rcases h.wdt (.inr h3) with h | h <;> lia
    obtain ⟨e, he, _⟩ := h.arg (.inr h3) 0 hw
    have := (List.getElem?_eq_some_iff.mp he).1
    unfold bs at this; rw [if_pos h3] at this; lia
theorem wdn_le {F Ho : List Cell} {c : Cell} (h : COK F Ho c) (hc : isCmp c) : 1 ≤ wdn F Ho c ∧ wdn F Ho c ≤ 2 ∧ wd F Ho c = wdn F Ho c := by
  unfold wdn
  rcases h.wdt hc with h | h <;> lia
theorem tot_le {F Ho : List Cell} : ∀ {Cs : List Cell}, (∀ c ∈ Cs, COK F Ho c ∧ isCmp c) → tot F Ho Cs ≤ 3 * Cs.length
  | [], _ => by simp [tot]
  | c :: Cs, h => by
    have h1 := tot_le fun c hc => h c (.tail _ hc)
    have h2 := wdn_le (h c (.head _)).1 (h c (.head _)).2
    have h3 : hdn c ≤ 1 := by unfold hdn; split <;> lia
    simp only [tot, size, List.length_cons]; lia
theorem CpA.cslen {F Ho H : List Cell} {T : List (Int × Cell)} {Cs : List Cell} {q : Nat} {Hc : List Cell} (k : CpA F Ho H T Cs q Hc) : Cs.length ≤ Ho.length := by
  have := pigeonI (n := Ho.length) k.nd fun x hx => by
    obtain ⟨c, hc, rfl⟩ := List.mem_map.mp hx
    exact key_bd (k.cs c hc).1 (k.cs c hc).2
  simpa using this
theorem CpA.tlen {F Ho H : List Cell} {T : List (Int × Cell)} {Cs : List Cell} {q : Nat} {Hc : List Cell} (k : CpA F Ho H T Cs q Hc) : T.length ≤ Hc.length :=
  TOK.len (Ho := Ho) ⟨fun a z h => let ⟨x, y, z, _⟩ := k.tab a z h; ⟨x, y, z⟩, k.tk, k.tv⟩
theorem CpA.hlen {F Ho H : List Cell} {T : List (Int × Cell)} {Cs : List Cell} {q : Nat} {Hc : List Cell} (k : CpA F Ho H T Cs q Hc) : Hc.length ≤ H.length + 3 * Ho.length := by
  have h1 := k.len
  have h2 := tot_le k.cs
  have h3 := k.cslen
  lia
theorem blk_new {F Ho : List Cell} {d : Cell} (h : COK F Ho d) (hc : isCmp d) (h0 : ar F 0 = 2) (Hc : List Cell) : blk (fnOf Ho d) Hc (ar F (fnOf Ho d)).toNat = Hc ++ newB F Ho Hc.length d ∧ mdc (fnOf Ho d) Hc = (d.1, (Hc.length : Int)) := by
  rcases hc with h2 | h3
  · obtain ⟨f, e, hf⟩ := h.fn h2
    have ef : fnOf Ho d = f := by unfold fnOf; rw [if_neg (by lia), e]; rfl
    have h3 : d.1 ≠ 3 := by lia
    have ew : (ar F f).toNat = wdn F Ho d := by unfold wdn wd; rw [if_neg h3, ef]
    unfold blk mdc newB hdn
    rw [ef, if_neg hf, if_neg hf, if_neg h3, if_neg h3, ew, h2]
    exact ⟨by simp, rfl⟩
  · have ef : fnOf Ho d = 0 := by unfold fnOf; rw [if_pos h3]
    have ew : wdn F Ho d = 2 := by unfold wdn wd; rw [if_pos h3]; rfl
    unfold blk mdc newB hdn
    rw [ef, if_pos rfl, if_pos rfl, if_pos h3, if_pos h3, ew, h3]
    exact ⟨by simp, rfl⟩
theorem COK.kid {F Ho : List Cell} (hH : HOK F Ho) {c : Cell} (h : COK F Ho c) (hc : isCmp c) {i : Nat} (hi : i < wdn F Ho c) : ∃ e d, Ho[(bs c).toNat + i]? = some e ∧ Der Ho e d ∧ COK F Ho d ∧ COK F Ho e := by
  obtain ⟨e, he, he6⟩ := h.arg hc i hi
  obtain ⟨ok, _⟩ := hH _ _ he he6
  obtain ⟨d, h1, h2, _⟩ := hH.der ok
  exact ⟨e, d, he, h1, h2, ok⟩

/-- what copy gives back -/
inductive Done (F Ho H : List Cell) (T : List (Int × Cell)) (x y : Cell) (H' : List Cell) (T' : List (Int × Cell)) (Cs : List Cell) : Prop
  | old {d : Cell} : Der Ho x d → COK F Ho d → d.1 = 0 → lkC T d.2 = some y → H' = H → T' = T → Cs = [] → Done F Ho H T x y H' T' Cs
  | new {d : Cell} : Der Ho x d → COK F Ho d → d.1 = 0 → lkC T d.2 = none → y = (0, (H.length : Int)) → H' = H ++ [y] → T' = T ++ [(d.2, y)] → Cs = [] → Done F Ho H T x y H' T' Cs
  | atom {d : Cell} : Der Ho x d → COK F Ho d → d.1 ≠ 0 → ¬ isCmp d → y = d → H' = H → T' = T → Cs = [] → Done F Ho H T x y H' T' Cs
  | cmp {d : Cell} : Der Ho x d → COK F Ho d → isCmp d → y = (d.1, (H.length : Int)) → Cp F Ho H T T' d Cs (H.length + tot F Ho Cs) H' → Done F Ho H T x y H' T' Cs

def encP (p : Int × Cell) : Int × V := (p.1, enc p.2)
def encW (p : Cell × Cell) : V := .tup [enc p.1, enc p.2]
theorem dget_P (T : List (Int × Cell)) (k : Int) : dget (T.map encP) k = (lkC T k).map enc := dget_C T k
theorem dput_P {T : List (Int × Cell)} {k : Int} (h : lkC T k = none) (z : Cell) : dput (T.map encP) k (enc z) = (T ++ [(k, z)]).map encP := dput_C h z
theorem Ch.of_pre {H H' : List Cell} (h : ∀ (p : Nat) (c : Cell), H[p]? = some c → H'[p]? = some c) : Ch H H' := by
  refine ⟨?_, fun p f e => h _ _ e, fun p c e hc => ⟨c, h _ _ e, hc⟩⟩
  rcases Nat.eq_zero_or_pos H.length with h0 | h0
  · lia
  · have e := h (H.length - 1) _ (List.getElem?_eq_getElem (by lia))
    have := (List.getElem?_eq_some_iff.mp e).1
    lia
theorem Cp.put {F Ho H : List Cell} {T0 T : List (Int × Cell)} {root : Cell} {A B : List Cell} {c d z : Cell} {q i : Nat} {Hc : List Cell} (k : Cp F Ho H T0 T root (A ++ c :: B) q Hc) (hq : q = H.length + tot F Ho A + hdn c + i) (hi : i < wdn F Ho c) (kid : Kid F Ho c i d) (hd : COK F Ho d) (im : Img T (Ms F Ho H.length (A ++ c :: B)) d z) :
    Cp F Ho H T0 T root (A ++ c :: B) (q + 1) (Hc.set q z) := ⟨k.a.put hq hi kid hd im, k.t0, k.reach, k.tn, k.rt, k.first⟩
theorem Cp.var {F Ho H : List Cell} {T0 T : List (Int × Cell)} {root : Cell} {A B : List Cell} {c d : Cell} {q i : Nat} {Hc : List Cell} (k : Cp F Ho H T0 T root (A ++ c :: B) q Hc) (hq : q = H.length + tot F Ho A + hdn c + i) (hi : i < wdn F Ho c) (kid : Kid F Ho c i d) (hd : COK F Ho d) (h0 : d.1 = 0) (hn : lkC T d.2 = none) :
    Cp F Ho H T0 (T ++ [(d.2, (0, (q : Int)))]) root (A ++ c :: B) (q + 1) Hc := by
  refine ⟨k.a.var hq hi kid hd h0 hn, ?_, k.reach, fun a z e => ?_, k.rt, k.first⟩
  · obtain ⟨T2, e⟩ := k.t0; exact ⟨T2 ++ [(d.2, (0, (q : Int)))], by rw [e, List.append_assoc]⟩
  · rcases List.mem_append.mp e with e | e
    · exact k.tn a z e
    · simp only [List.mem_singleton, Prod.mk.injEq] at e
      exact .inr ⟨c, by simp, i, d, kid, h0, e.1.symm⟩
theorem Cp.lay {F Ho H : List Cell} {T0 T : List (Int × Cell)} {root : Cell} {Cs : List Cell} {c d : Cell} {q i : Nat} {Hc : List Cell} (k : Cp F Ho H T0 T root Cs q Hc) (hm : c ∈ Cs) (kid : Kid F Ho c i d) (hd : COK F Ho d) (hc : isCmp d) (hn : lkC (Ms F Ho H.length Cs) d.2 = none) :
    Cp F Ho H T0 T root (Cs ++ [d]) q (Hc ++ newB F Ho Hc.length d) := by
  refine ⟨k.a.lay hd hc hn, k.t0, fun P hr hs c' hc' => ?_, fun a z e => ?_, List.mem_append_left _ k.rt, by rw [Ms_app]; exact lkC_app_l k.first⟩
  · have hall := k.reach P hr (fun c i d h1 => hs c i d (List.mem_append_left _ h1))
    rcases List.mem_append.mp hc' with h | h
    · exact hall c' h
    · simp at h; subst h
      exact hs c i c' (List.mem_append_left _ hm) (hall c hm) kid hc
  · rcases k.tn a z e with h | ⟨c', h1, h2⟩
    · exact .inl h
    · exact .inr ⟨c', List.mem_append_left _ h1, h2⟩
theorem Cp.skip {F Ho H : List Cell} {T0 T : List (Int × Cell)} {root : Cell} {A B : List Cell} {c : Cell} {Hc : List Cell} (k : Cp F Ho H T0 T root (A ++ c :: B) (H.length + tot F Ho A) Hc) : Cp F Ho H T0 T root (A ++ c :: B) (H.length + tot F Ho A + hdn c) Hc := by
  refine ⟨k.a.skip (Nat.le_add_right _ _) ?_ fun p d i e hp => ?_, k.t0, k.reach, k.tn, k.rt, k.first⟩
  · rw [tot_app]; simp only [tot, size]; lia
  · have hs : size F Ho c = hdn c + wdn F Ho c := rfl
    rcases args_mid e with h | ⟨h1, h2, h3⟩ | h <;> lia
theorem c_copy {B : Base} (hB : IsLaw B) {W : WA4} {D : Sy} {X : List (Addr × O)} {tb : Addr} {T : List (Int × Cell)} {Ho H : List Cell} {σ : Sg} (w : Wd W H D ((tb, .idict (T.map encP)) :: X) σ) (hz2 : D.F.length ≤ 1000) (h02 : ar D.F 0 = 2)
    (hpre : ∃ R, H = Ho ++ R) (hok : HOK D.F Ho) {x : Cell} (hx : COK D.F Ho x) (tok : TOK Ho H T) (z1 : Ho.length ≤ 100) (z2 : H.length ≤ 1000) {Q : V → Sg → Prop}
    (hQ : ∀ σ' y H' T' Cs, Done D.F Ho H T x y H' T' Cs → Wd W H' D ((tb, .idict (T'.map encP)) :: X) σ' → Q (enc y) σ') : Spec B (.ref 389) 4 [.ref W.S.a, enc x, .ref tb] σ Q := by
  refine Spec.fn (ok_copy hB) rfl fun A gs L r hL => ?_
  have ok := (ok_copy hB).okc (gs := gs) (L := L) r
  obtain ⟨R, hR⟩ := hpre
  have pre : ∀ (p : Nat) (c : Cell), Ho[p]? = some c → H[p]? = some c := fun p c h => by
    rw [hR, List.getElem?_append_left (List.getElem?_eq_some_iff.mp h).1]; exact h
  have hHo : Ho.length ≤ H.length := by rw [hR]; simp
  have htl := tok.len
  obtain ⟨d, hd, hdok, _⟩ := hok.der hx
  walk_at "wd"
  refine WSS.cons ?_
  repeat walk_at "e"
  refine WC.specA r (c_globalise hB w.st (by omega) (hd.mono pre) ?_)
  repeat walk_at "e"
  refine WSS.cons ?_
  repeat walk_at "e"
  refine iteB (fun h0 => ?_) (fun h0 => ?_)
  · refine WSS.cons ?_
    repeat walk_at "e"
    rw [dget_P]
    cases hl : lkC T d.2 with
    | some y =>
      refine iteV (fun h => by simp at h) (fun _ => ?_)
      repeat walk_at "m"
      refine WSub.idict (by walk_at "ob") (by rw [dget_P, hl]; rfl) ?_
      repeat walk_at "m"
      exact hQ σ y H T [] (.old hd hdok h0 hl rfl rfl rfl) w
    | none =>
      refine iteV (fun _ => ?_) (fun h => by simp at h)
      repeat walk_at "m"
      refine WC.specA r (c_new_var hB w.st (by simp; omega) ?_)
      have hS : (H.map enc) ++ [.tup [.int 0, .int (H.map enc).length]] = (H ++ [((0 : Int), (H.length : Int))]).map enc := by simp [enc]
      rw [hS, List.length_map]
      have w1 : Wd W (H ++ [((0 : Int), (H.length : Int))]) D _ _ := w.heap ((Kp.refl _ _).upd (.inl (.head _))) (upd_same _ _ _)
      generalize upd σ W.S.h (.list ((H ++ [((0 : Int), (H.length : Int))]).map enc)) = σ1 at w1
      have k0 := w1.x0
      repeat walk_at "m"
      refine WSet.idict (by walk_at "ob") (by simp; omega) ?_
      have e1 : dput (T.map encP) d.2 (.tup [.int 0, .int (H.length : Int)]) = (T ++ [(d.2, ((0 : Int), (H.length : Int)))]).map encP := dput_P hl ((0 : Int), (H.length : Int))
      rw [e1]
      have w2 := w1.set0 (o' := .idict ((T ++ [(d.2, ((0 : Int), (H.length : Int)))]).map encP))
      generalize upd σ1 tb (.idict ((T ++ [(d.2, ((0 : Int), (H.length : Int)))]).map encP)) = σ2 at w2
      have k0 := w2.x0
      repeat walk_at "m"
      refine WSub.idict (u := enc (0, (H.length : Int))) (by walk_at "ob") (by rw [dget_P, lkC_app, hl]; simp [lkC]) ?_
      repeat walk_at "m"
      exact hQ σ2 _ _ _ [] (.new hd hdok h0 hl rfl rfl rfl rfl) w2
  · repeat walk_at "m"
    refine WC.specA r (c_is_compound hB ?_)
    refine isBool ?_
    refine iteNB (fun hc => ?_) (fun hc => ?_)
    · repeat walk_at "m"
      exact hQ σ d H T [] (.atom hd hdok h0 hc rfl rfl rfl rfl) w
    · have hlist : ∀ (l : List Cell), (l.map enc).length = l.length := fun l => by simp
      have ch0 : Ch Ho H := by rw [hR]; exact Ch.app _ _
      have hwd : wd D.F Ho d = ar D.F (fnOf Ho d) := by
        unfold wd; split
        · rename_i h3; unfold fnOf; rw [if_pos h3, h02]
        · rfl
      have hfn : ∀ {c : Cell}, COK D.F Ho c → isCmp c → 0 ≤ fnOf Ho c ∧ fnOf Ho c < D.F.length ∧ (ar D.F (fnOf Ho c) = 1 ∨ ar D.F (fnOf Ho c) = 2) := by
        intro c hc hcc
        have h1 := hc.cmp hcc
        have h2 := hc.wdt hcc
        unfold wd at h2
        rcases hcc with q2 | q3
        · rw [if_neg (by omega)] at h2
          exact ⟨(h1.f q2).2.1, (h1.f q2).2.2, h2⟩
        · have e : fnOf Ho c = 0 := by unfold fnOf; rw [if_pos q3]
          rw [e, h02]
          refine ⟨by omega, ?_, .inr rfl⟩
          unfold ar at h02
          cases hF : D.F with
          | nil => rw [hF] at h02; simp at h02
          | cons a l => simp
      have hfd := hfn hdok hc
      repeat walk_at "m"
      refine WE.idict fun md hmd => ?_
      have w1 := w.put (o := .idict []) hmd
      generalize upd σ md (.idict []) = σ1 at w1
      walk_at "wd"
      repeat walk_at "m"
      have okH : COK D.F H d := hdok.ch ch0
      refine WC.specA r (c_functor_of hB w1.st (by omega) (okH.cmp hc) ?_)
      rw [fnOf_ch ch0 hdok.fn hc]
      repeat walk_at "m"
      refine WC.specA r (c_new_block hB w1.st w1.sy w1.ap.b hz2 hfd.1 hfd.2.1 (by omega) (by omega) ?_)
      obtain ⟨eb, em⟩ := blk_new hdok hc h02 H
      rw [eb, em]
      have w2 : Wd W (H ++ newB D.F Ho H.length d) D _ _ := w1.heap ((Kp.refl _ _).upd (.inl (.head _))) (upd_same _ _ _)
      generalize upd σ1 W.S.h (.list ((H ++ newB D.F Ho H.length d).map enc)) = σ2 at w2
      walk_at "wd"
      repeat walk_at "m"
      refine WSet.idict (by walk_at "ob") (by simp) ?_
      have w3 := w2.set0 (o' := .idict ((Ms D.F Ho H.length [d]).map encP))
      rw [show dput [] d.2 (enc (d.1, (H.length : Int))) = (Ms D.F Ho H.length [d]).map encP from rfl]
      generalize upd σ2 md (.idict ((Ms D.F Ho H.length [d]).map encP)) = σ3 at w3
      walk_at "wd"
      repeat walk_at "e"
      refine WSS.cons ?_
      repeat walk_at "e"
      intro wt hwt
      have w4 := w3.put (o := .list ((Ws D.F Ho H.length [d]).map encW)) hwt
      rw [show ([.tup [enc d, enc (d.1, (H.length : Int))]] : List V) = (Ws D.F Ho H.length [d]).map encW from rfl]
      generalize upd σ3 wt (.list ((Ws D.F Ho H.length [d]).map encW)) = σ4 at w4
      walk_at "wd"
      repeat walk_at "e"
      refine WSS.cons ?_
      repeat walk_at "e"
      have cp0 : Cp D.F Ho H T T d [d] H.length (H ++ newB D.F Ho H.length d) := by
        have a0 : CpA D.F Ho H T [] H.length H := ⟨by simp [tot], fun _ _ => rfl, fun _ _ e => by simp [hdrs] at e, fun _ _ _ e => by simp [args] at e, fun _ _ _ e => by simp [args] at e, by simp, by simp,
          fun k z e => let ⟨x1, x2, x3⟩ := tok.tab k z e; ⟨x1, x2, x3, .inl (by have := (List.getElem?_eq_some_iff.mp x3).1; omega)⟩, tok.tk, tok.tv, hHo, Nat.le_refl _, by simp [tot]⟩
        exact ⟨a0.lay hdok hc rfl, ⟨[], by simp⟩, fun P hP _ c hc => by simp at hc; subst hc; exact hP, fun k z e => .inl (List.mem_map_of_mem (f := (·.1)) e), .head _, by simp [Ms, lkC]⟩
      refine WSS.cut (fun ρ' σ' => ∃ H' T' Cs, Cp D.F Ho H T T' d Cs (H.length + tot D.F Ho Cs) H' ∧ ρ' (Str.ofString "first") = some (enc (d.1, (H.length : Int))) ∧ Wd W H' D ((tb, .idict (T'.map encP)) :: X) σ') ?_ ?_
      rotate_left
      · rintro ρ' σ' ⟨H', T', Cs, cp, rf, w5⟩
        repeat walk_at "m"
        exact hQ σ' _ H' T' Cs (.cmp hd hdok hc rfl cp) w5
      refine WS.loop (fun n ρ' σ' => ∃ (at_ : Nat) (Cs : List Cell) (T' : List (Int × Cell)) (Hc : List Cell), n = Ho.length + 1 - at_ ∧ at_ ≤ Cs.length ∧ Cp D.F Ho H T T' d Cs (H.length + tot D.F Ho (Cs.take at_)) Hc ∧
        ρ' (Str.ofString "store") = some (.ref W.S.a) ∧ ρ' (Str.ofString "table") = some (.ref tb) ∧ ρ' (Str.ofString "made") = some (.ref md) ∧ ρ' (Str.ofString "waiting") = some (.ref wt) ∧ ρ' (Str.ofString "at") = some (.int at_) ∧ ρ' (Str.ofString "first") = some (enc (d.1, (H.length : Int))) ∧
        Wd W Hc D ((wt, .list ((Ws D.F Ho H.length Cs).map encW)) :: (md, .idict ((Ms D.F Ho H.length Cs).map encP)) :: (tb, .idict (T'.map encP)) :: X) σ') (Ho.length + 1) ⟨0, [d], T, _, rfl, by simp, by simpa [tot] using cp0, by walk_at "lk", by walk_at "lk", by walk_at "lk", by walk_at "lk", by walk_at "lk", by walk_at "lk", w4⟩ ?_
      clear w1 w2 w3 w4 cp0
      rintro n ρ1 σ5 ⟨at_, Cs, T', Hc, rfl, hat, cp, r1, r2, r3, r4, r5, r6, w5⟩
      walk_at "wd"
      have hwl : ((Ws D.F Ho H.length Cs).map encW).length = Cs.length := by rw [List.length_map, Ws_length]
      have hcl := cp.a.cslen
      repeat walk_at "e"
      rw [hwl]
      refine iteB (fun hlt => ?_) (fun hge => ?_)
      rotate_left
      · repeat walk_at "m"
        have : at_ = Cs.length := by omega
        subst this
        rw [List.take_of_length_le (Nat.le_refl _)] at cp
        exact ⟨rfl, Hc, T', Cs, cp, r6, w5.tl.tl⟩
      have hlt' : at_ < Cs.length := by omega
      have hsplit : Cs = Cs.take at_ ++ Cs[at_] :: Cs.drop (at_ + 1) := by rw [← List.drop_eq_getElem_cons hlt', List.take_append_drop]
      generalize hA : Cs.take at_ = Ap at hsplit cp
      generalize hcc : Cs[at_] = c at hsplit
      generalize Cs.drop (at_ + 1) = Bt at hsplit
      have hAl : Ap.length = at_ := by rw [← hA, List.length_take]; omega
      subst hsplit
      clear hA hcc
      have cok := cp.a.cs c (by simp)
      have hwn := wdn_le cok.1 cok.2
      have preH : ∀ {T' : List (Int × Cell)} {Cs : List Cell} {q : Nat} {Hc : List Cell}, CpA D.F Ho H T' Cs q Hc → ∀ (p : Nat) (c : Cell), Ho[p]? = some c → Hc[p]? = some c := fun k p c e => by
        rw [k.pre p (Nat.lt_of_lt_of_le (List.getElem?_eq_some_iff.mp e).1 hHo)]; exact pre p c e
      have hwat : ((Ws D.F Ho H.length (Ap ++ c :: Bt)).map encW)[at_]? = some (encW (c, (c.1, ((H.length + tot D.F Ho Ap : Nat) : Int)))) := by
        rw [List.getElem?_map, Ws_app, List.getElem?_append_right (by rw [Ws_length]; omega), Ws_length, hAl, Nat.sub_self]; rfl
      generalize hs : H.length + tot D.F Ho Ap = s at cp hwat
      refine WSS.cons ?_
      repeat walk_at "e"
      refine WSub.list (by walk_at "ob") (by omega) (by omega) (by simpa using hwat) ?_
      repeat walk_at "e"
      refine WSS.cons ?_
      repeat walk_at "e"
      refine WSS.cons ?_
      repeat walk_at "e"
      refine WC.specA r (c_base hB ?_)
      rw [show (if c.1 = 3 then c.2 else c.2 + 1) = bs c from rfl]
      repeat walk_at "e"
      refine WSS.cons ?_
      repeat walk_at "e"
      refine WC.specA r (c_base hB ?_)
      rw [show (if (c.1, (s : Int)).1 = 3 then (c.1, (s : Int)).2 else (c.1, (s : Int)).2 + 1) = ((s + hdn c : Nat) : Int) by unfold hdn; simp only; split <;> simp]
      repeat walk_at "e"
      have hcl2 := cp.a.hlen
      have cokH : COK D.F Hc c := cok.1.ch (Ch.of_pre (preH cp.a))
      have hwdH : wd D.F Hc c = wdn D.F Ho c := by
        rw [← hwn.2.2]; unfold wd; rw [fnOf_ch (Ch.of_pre (preH cp.a)) cok.1.fn cok.2]
      refine WSS.one ?_
      refine WS.forRange (by walk_at "okt") (WRange.one ?_)
      repeat walk_at "e"
      refine WC.specA r (c_width hB w5.st w5.sy w5.ap.b (by omega) hz2 (cokH.cmp cok.2) ?_)
      rw [hwdH]
      repeat walk_at "e"
      rw [← hs] at cp
      have cps := cp.skip
      rw [hs] at cps
      refine ⟨small_zero (by omega) (by omega), fun i ρ' σ' => i ≤ wdn D.F Ho c ∧ ∃ Bt T' Hc, Cp D.F Ho H T T' d (Ap ++ c :: Bt) (s + hdn c + i) Hc ∧
        ρ' (Str.ofString "store") = some (.ref W.S.a) ∧ ρ' (Str.ofString "table") = some (.ref tb) ∧ ρ' (Str.ofString "made") = some (.ref md) ∧ ρ' (Str.ofString "waiting") = some (.ref wt) ∧ ρ' (Str.ofString "at") = some (.int ((at_ : Int) + 1)) ∧ ρ' (Str.ofString "first") = some (enc (d.1, (H.length : Int))) ∧
        ρ' (Str.ofString "source") = some (.int (bs c)) ∧ ρ' (Str.ofString "place") = some (.int ((s + hdn c : Nat) : Int)) ∧
        Wd W Hc D ((wt, .list ((Ws D.F Ho H.length (Ap ++ c :: Bt)).map encW)) :: (md, .idict ((Ms D.F Ho H.length (Ap ++ c :: Bt)).map encP)) :: (tb, .idict (T'.map encP)) :: X) σ',
        ⟨Nat.zero_le _, Bt, T', Hc, cps, by walk_at "lk", by walk_at "lk", by walk_at "lk", by walk_at "lk", by walk_at "lk", by walk_at "lk", by walk_at "lk", by walk_at "lk", w5⟩, ?_, ?_⟩
      rotate_left
      · rw [rangeN_zero (by omega), Int.toNat_natCast]
        rintro ρ2 σ6 ⟨_, Bt, T', Hc, cp, r1, r2, r3, r4, r5, r6, r7, r8, w6⟩
        have hl := cp.a.cslen
        refine whileQ_next (Ho.length + 1 - (at_ + 1)) (by simp at hl; omega) ⟨at_ + 1, _, T', Hc, rfl, by simp; omega, ?_, r1, r2, r3, r4, by simpa using r5, r6, w6⟩
        have : (Ap ++ c :: Bt).take (at_ + 1) = Ap ++ [c] := by rw [← hAl, List.take_append]; simp [List.take_of_length_le]
        rw [this, tot_app]
        simp only [tot, size]
        rw [show H.length + (tot D.F Ho Ap + (hdn c + wdn D.F Ho c + 0)) = s + hdn c + wdn D.F Ho c by omega]
        exact cp
      clear cp cps w5 hwat hcl2 cokH hwdH
      rintro g i ρ2 σ6 hi ⟨_, Bt, T', Hc, cp, r1, r2, r3, r4, r5, r6, r7, r8, w6⟩
      rw [rangeN_zero (by omega), Int.toNat_natCast] at hi
      walk_at "wd"
      have hcl2 := cp.a.hlen
      have htl2 := cp.a.tlen
      have hcs2 := cp.a.cslen
      have hbs : 0 ≤ bs c := by have := (cok.1.cmp cok.2).p; unfold bs; split <;> omega
      obtain ⟨e, it, he, hde, hit, hek⟩ := COK.kid hok cok.1 cok.2 hi
      have kid : Kid D.F Ho c i it := ⟨hi, e, he, hde⟩
      have chH := Ch.of_pre (preH cp.a)
      have hq1 := (args_bd (args_in (A := Ap) (B := Bt) (h := H.length) hi)).2.1
      rw [hs] at hq1
      have hqlt : s + hdn c + i < Hc.length := by rw [cp.a.len]; exact hq1
      have hqz : (0 : Int) ≤ ((s + hdn c : Nat) : Int) + (0 + (i : Int) * 1) := by omega
      have hqe : (((s + hdn c : Nat) : Int) + (0 + (i : Int) * 1)).toNat = s + hdn c + i := by omega
      have hq63 : ((s + hdn c : Nat) : Int) + (0 + (i : Int) * 1) < 2 ^ 63 := by omega
      have hqlt2 : ((s + hdn c : Nat) : Int) + (0 + (i : Int) * 1) < (Hc.map enc).length := by rw [List.length_map]; omega
      repeat walk_at "e"
      refine WSS.cons ?_
      repeat walk_at "e"
      refine WSub.cells (x := e) (by walk_at "ob") (by omega) (by rw [show (bs c + (0 + (i : Int) * 1)).toNat = (bs c).toNat + i by omega]; exact preH cp.a _ _ he) (by omega) ?_
      repeat walk_at "e"
      obtain ⟨nd, hdn'⟩ := hde.mono (preH cp.a)
      refine WC.specA r (c_deref hB w6.st (by omega) hdn' ?_)
      repeat walk_at "e"
      have hpi : ((s + hdn c : Nat) : Int) + (0 + (i : Int) * 1) = ((s + hdn c + i : Nat) : Int) := by omega
      have hq : s + hdn c + i = H.length + tot D.F Ho Ap + hdn c + i := by omega
      have store_ : ∀ {T' : List (Int × Cell)} {Bt : List Cell} {Hc : List Cell} {σ' : Sg} (z : Cell) {X' : List (Addr × O)}, Wd W Hc D X' σ' → Wd W (Hc.set (s + hdn c + i) z) D X' (upd σ' W.S.h (.list ((Hc.map enc).set (((s + hdn c : Nat) : Int) + (0 + (i : Int) * 1)).toNat (enc z)))) := by
        intro T' Bt Hc σ' z X' w
        rw [hqe, ← List.map_set]
        exact w.heap ((Kp.refl _ _).upd (.inl (.head _))) (upd_same _ _ _)
      refine WSS.one ?_
      repeat walk_at "e"
      refine iteB (fun h0 => ?_) (fun h0 => ?_)
      · refine WSS.one ?_
        repeat walk_at "e"
        rw [dget_P]
        cases hl : lkC T' it.2 with
        | some z =>
          refine iteV (fun _ => ?_) (fun h => by simp at h)
          repeat walk_at "m"
          refine WSub.idict (by walk_at "ob") (by rw [dget_P, hl]; rfl) ?_
          repeat walk_at "m"
          refine WSet.list (by walk_at "ob") hqz hq63 hqlt2 ?_
          have w7 := store_ (T' := T') (Bt := Bt) z w6
          repeat walk_at "m"
          exact ⟨hi, Bt, T', _, cp.put hq hi kid hit (.inl ⟨h0, hl⟩), by walk_at "lk", by walk_at "lk", by walk_at "lk", by walk_at "lk", by walk_at "lk", by walk_at "lk", by walk_at "lk", by walk_at "lk", w7⟩
        | none =>
          refine iteV (fun h => by simp at h) (fun _ => ?_)
          repeat walk_at "m"
          refine WSet.idict (by walk_at "ob") (by simp; omega) ?_
          rw [hpi, show (V.tup [.int 0, .int ((s + hdn c + i : Nat) : Int)]) = enc (0, ((s + hdn c + i : Nat) : Int)) from rfl, dput_P hl]
          have w7 := w6.set2 (o' := .idict ((T' ++ [(it.2, ((0 : Int), ((s + hdn c + i : Nat) : Int)))]).map encP))
          repeat walk_at "m"
          exact ⟨hi, Bt, _, _, cp.var hq hi kid hit h0 hl, by walk_at "lk", by walk_at "lk", by walk_at "lk", by walk_at "lk", by walk_at "lk", by walk_at "lk", by walk_at "lk", by walk_at "lk", w7⟩
      · refine WSS.one ?_
        repeat walk_at "e"
        refine WC.specA r (c_is_compound hB ?_)
        refine isBool ?_
        refine iteNB (fun hic => ?_) (fun hic => ?_)
        · repeat walk_at "m"
          refine WSet.list (by walk_at "ob") hqz hq63 hqlt2 ?_
          have w7 := store_ (T' := T') (Bt := Bt) it w6
          repeat walk_at "m"
          exact ⟨hi, Bt, T', _, cp.put hq hi kid hit (.inr (.inl ⟨h0, hic, rfl⟩)), by walk_at "lk", by walk_at "lk", by walk_at "lk", by walk_at "lk", by walk_at "lk", by walk_at "lk", by walk_at "lk", by walk_at "lk", w7⟩
        · refine WSS.one ?_
          repeat walk_at "e"
          rw [dget_P]
          cases hl : lkC (Ms D.F Ho H.length (Ap ++ c :: Bt)) it.2 with
          | some z =>
            refine iteV (fun _ => ?_) (fun h => by simp at h)
            repeat walk_at "m"
            refine WSub.idict (by walk_at "ob") (by rw [dget_P, hl]; rfl) ?_
            repeat walk_at "m"
            refine WSet.list (by walk_at "ob") hqz hq63 hqlt2 ?_
            have w7 := store_ (T' := T') (Bt := Bt) z w6
            repeat walk_at "m"
            exact ⟨hi, Bt, T', _, cp.put hq hi kid hit (.inr (.inr ⟨hic, hl⟩)), by walk_at "lk", by walk_at "lk", by walk_at "lk", by walk_at "lk", by walk_at "lk", by walk_at "lk", by walk_at "lk", by walk_at "lk", w7⟩
          | none =>
            refine iteV (fun h => by simp at h) (fun _ => ?_)
            have hfi := hfn hit hic
            have okI : COK D.F Hc it := hit.ch chH
            repeat walk_at "m"
            refine WC.specA r (c_functor_of hB w6.st (by omega) (okI.cmp hic) ?_)
            rw [fnOf_ch chH hit.fn hic]
            repeat walk_at "m"
            refine WC.specA r (c_new_block hB w6.st w6.sy w6.ap.b hz2 hfi.1 hfi.2.1 (by omega) (by omega) ?_)
            obtain ⟨eb, em⟩ := blk_new hit hic h02 Hc
            rw [eb, em]
            have cp2 := cp.lay (c := c) (by simp) kid hit hic hl
            have hlen2 := cp.a.len
            have w7 : Wd W (Hc ++ newB D.F Ho Hc.length it) D _ _ := w6.heap ((Kp.refl _ _).upd (.inl (.head _))) (upd_same _ _ _)
            generalize upd σ6 W.S.h (.list ((Hc ++ newB D.F Ho Hc.length it).map enc)) = σ7 at w7
            walk_at "wd"
            repeat walk_at "m"
            have hmsl : ((Ms D.F Ho H.length (Ap ++ c :: Bt)).map encP).length ≤ 1000000 := by
              rw [List.length_map, ← List.length_map (f := (·.1)), Ms_keys, List.length_map]; omega
            refine WSet.idict (by walk_at "ob") hmsl ?_
            have eM : dput ((Ms D.F Ho H.length (Ap ++ c :: Bt)).map encP) it.2 (enc (it.1, (Hc.length : Int))) = (Ms D.F Ho H.length (Ap ++ c :: (Bt ++ [it]))).map encP := by
              rw [dput_P hl, show Ap ++ c :: (Bt ++ [it]) = (Ap ++ c :: Bt) ++ [it] by simp, Ms_app (Ap ++ c :: Bt), hlen2]; rfl
            rw [eM]
            have w8 := w7.set1 (o' := .idict ((Ms D.F Ho H.length (Ap ++ c :: (Bt ++ [it]))).map encP))
            generalize upd σ7 md (.idict ((Ms D.F Ho H.length (Ap ++ c :: (Bt ++ [it]))).map encP)) = σ8 at w8
            walk_at "wd"
            repeat walk_at "m"
            refine WSet.list (by walk_at "ob") hqz hq63 (by rw [List.length_map, List.length_append]; omega) ?_
            have w9 := store_ (T' := T') (Bt := Bt) (it.1, (Hc.length : Int)) w8
            generalize upd σ8 W.S.h (.list (((Hc ++ newB D.F Ho Hc.length it).map enc).set (((s + hdn c : Nat) : Int) + (0 + (i : Int) * 1)).toNat (enc (it.1, (Hc.length : Int))))) = σ9 at w9
            walk_at "wd"
            have hwsl : ((Ws D.F Ho H.length (Ap ++ c :: Bt)).map encW).length ≤ 1000000 := by rw [List.length_map, Ws_length]; omega
            repeat walk_at "m"
            have eW : (Ws D.F Ho H.length (Ap ++ c :: Bt)).map encW ++ [.tup [enc it, enc (it.1, (Hc.length : Int))]] = (Ws D.F Ho H.length (Ap ++ c :: (Bt ++ [it]))).map encW := by
              rw [show Ap ++ c :: (Bt ++ [it]) = (Ap ++ c :: Bt) ++ [it] by simp, Ws_app (Ap ++ c :: Bt), hlen2, List.map_append]; rfl
            rw [eW]
            have w10 := w9.set0 (o' := .list ((Ws D.F Ho H.length (Ap ++ c :: (Bt ++ [it]))).map encW))
            rw [show (Ap ++ c :: Bt) ++ [it] = Ap ++ c :: (Bt ++ [it]) by simp] at cp2
            have him : Img T' (Ms D.F Ho H.length (Ap ++ c :: (Bt ++ [it]))) it (it.1, (Hc.length : Int)) := by
              refine .inr (.inr ⟨hic, ?_⟩)
              rw [show Ap ++ c :: (Bt ++ [it]) = (Ap ++ c :: Bt) ++ [it] by simp, Ms_app (Ap ++ c :: Bt), lkC_app, hl, hlen2]
              simp [Ms, lkC]
            exact ⟨hi, Bt ++ [it], T', _, cp2.put hq hi kid hit him, by walk_at "lk", by walk_at "lk", by walk_at "lk", by walk_at "lk", by walk_at "lk", by walk_at "lk", by walk_at "lk", by walk_at "lk", w10⟩
/-! ## a copy held against its term -/
structure Cpd (F Ho H : List Cell) (T : List (Int × Cell)) (x d y : Cell) (H' : List Cell) (T' : List (Int × Cell)) (Cs : List Cell) : Prop where
  der : Der Ho x d
  dok : COK F Ho d
  im : Img T' (Ms F Ho H.length Cs) d y
  tok : TOK Ho H' T'
  pre : ∀ (p : Nat) (c : Cell), H[p]? = some c → H'[p]? = some c
  kids : ∀ A c B, Cs = A ++ c :: B → ∀ i d, Kid F Ho c i d → ∃ z, COK F Ho d ∧ Img T' (Ms F Ho H.length Cs) d z ∧ H'[H.length + tot F Ho A + hdn c + i]? = some z
  head : ∀ A c B, Cs = A ++ c :: B → c.1 = 2 → H'[H.length + tot F Ho A]? = some (6, fnOf Ho c)
  tail : ∀ p c, H.length ≤ p → H'[p]? = some c → ¬ (c.1 = 0 ∧ c.2 < Ho.length) ∧ ¬ (isCmp c ∧ c.2 < H.length)
  len : H'.length = H.length + (if d.1 = 0 ∧ lkC T d.2 = none then 1 else 0) + tot F Ho Cs
  reach : ∀ P : Cell → Prop, (isCmp d → P d) → (∀ c i d, c ∈ Cs → P c → Kid F Ho c i d → isCmp d → P d) → ∀ c ∈ Cs, P c
  tn : ∀ k z, (k, z) ∈ T' → k ∈ T.map (·.1) ∨ (d.1 = 0 ∧ d.2 = k) ∨ ∃ c ∈ Cs, ∃ i e, Kid F Ho c i e ∧ e.1 = 0 ∧ e.2 = k
  t0 : ∃ T2, T' = T ++ T2
  cs : ∀ c ∈ Cs, COK F Ho c ∧ isCmp c
  nd : (Cs.map (·.2)).Nodup
  csl : Cs.length ≤ Ho.length
theorem Done.cpd {F Ho H : List Cell} {T : List (Int × Cell)} {x y : Cell} {H' : List Cell} {T' : List (Int × Cell)} {Cs : List Cell} (h : Done F Ho H T x y H' T' Cs) (tok : TOK Ho H T) (hle : Ho.length ≤ H.length) : ∃ d, Cpd F Ho H T x d y H' T' Cs := by
  have nil : ∀ {A : List Cell} {c : Cell} {B : List Cell}, ([] : List Cell) = A ++ c :: B → False := fun {A c B} e => by cases A <;> cases e
  cases h with
  | @old d der dok h0 hl e1 e2 e3 =>
    subst e1; subst e2; subst e3
    exact ⟨d, der, dok, .inl ⟨h0, hl⟩, tok, fun _ _ h => h, fun _ _ _ e => (nil e).elim, fun _ _ _ e => (nil e).elim, fun p c hp e => by have := (List.getElem?_eq_some_iff.mp e).1; lia, by simp [hl, tot], fun _ _ _ c hc => (nomatch hc),
      fun k z e => .inl (List.mem_map_of_mem (f := (·.1)) e), ⟨[], by simp⟩, by simp, by simp, by simp⟩
  | @new d der dok h0 hl ey e1 e2 e3 =>
    subst e1; subst e2; subst e3; subst ey
    have hp : ∀ (p : Nat) (c : Cell), H[p]? = some c → (H ++ [((0 : Int), (H.length : Int))])[p]? = some c := fun p c e => by rw [List.getElem?_append_left (List.getElem?_eq_some_iff.mp e).1]; exact e
    refine ⟨d, der, dok, .inl ⟨h0, by rw [lkC_app, hl]; simp [lkC]⟩, ⟨fun k z e => ?_, ?_, ?_⟩, hp, fun _ _ _ e => (nil e).elim, fun _ _ _ e => (nil e).elim, fun p c hp e => ?_, by simp [h0, hl, tot], fun _ _ _ c hc => (nomatch hc), fun k z e => ?_, ⟨_, rfl⟩, by simp, by simp, by simp⟩
    · rcases List.mem_append.mp e with e | e
      · obtain ⟨a, b, c⟩ := tok.tab k z e; exact ⟨a, b, hp _ _ c⟩
      · simp only [List.mem_singleton, Prod.mk.injEq] at e
        obtain ⟨_, rfl⟩ := e
        exact ⟨rfl, by simp only; lia, by simp⟩
    · rw [List.map_append, List.nodup_append]
      refine ⟨tok.tk, by simp, fun a ha b hb e => ?_⟩
      simp at hb; subst hb; subst e
      exact lkC_none hl ha
    · rw [List.map_append, List.nodup_append]
      refine ⟨tok.tv, by simp, fun a ha b hb e => ?_⟩
      simp at hb; subst hb; subst e
      obtain ⟨⟨k', z⟩, hm, e⟩ := List.mem_map.mp ha
      have := (List.getElem?_eq_some_iff.mp (tok.tab k' z hm).2.2).1
      simp only at e; lia
    · have := (List.getElem?_eq_some_iff.mp e).1
      have e2 : p = H.length := by simp at this; lia
      subst e2
      rw [List.getElem?_append_right (Nat.le_refl _)] at e
      simp at e; subst e
      refine ⟨by simp; lia, fun h => ?_⟩
      rcases h.1 with h | h <;> simp at h
    · rcases List.mem_append.mp e with e | e
      · exact .inl (List.mem_map_of_mem (f := (·.1)) e)
      · simp only [List.mem_singleton, Prod.mk.injEq] at e
        exact .inr (.inl ⟨h0, e.1.symm⟩)
  | @atom d der dok h0 hc ey e1 e2 e3 =>
    subst e1; subst e2; subst e3; subst ey
    exact ⟨y, der, dok, .inr (.inl ⟨h0, hc, rfl⟩), tok, fun _ _ h => h, fun _ _ _ e => (nil e).elim, fun _ _ _ e => (nil e).elim, fun p c hp e => by have := (List.getElem?_eq_some_iff.mp e).1; lia, by simp [h0, tot], fun _ _ _ c hc => (nomatch hc),
      fun k z e => .inl (List.mem_map_of_mem (f := (·.1)) e), ⟨[], by simp⟩, by simp, by simp, by simp⟩
  | @cmp d der dok hc ey cp =>
    subst ey
    have h0 : d.1 ≠ 0 := by rcases hc with h | h <;> lia
    have a := cp.a
    have fin : ∀ p c i, (p, c, i) ∈ args F Ho H.length Cs → p < H.length + tot F Ho Cs := fun p c i e => (args_bd e).2.1
    refine ⟨d, der, dok, .inr (.inr ⟨hc, ?_⟩), ⟨fun k z e => let ⟨x1, x2, x3, _⟩ := a.tab k z e; ⟨x1, x2, x3⟩, a.tk, a.tv⟩, fun p c e => by rw [a.pre p (List.getElem?_eq_some_iff.mp e).1]; exact e, fun A c B e i d' kid => ?_, fun A c B e h2 => ?_, fun p c hp e => ?_, by simp [h0, a.len],
      fun P hr hs => cp.reach P (hr hc) hs, fun k z e => ?_, cp.t0, a.cs, a.nd, a.cslen⟩
    · exact cp.first
    · subst e
      have hin := args_in (A := A) (B := B) (h := H.length) kid.1
      obtain ⟨d2, z, k2, ok2, im2, hz⟩ := a.lo _ _ _ hin (fin _ _ _ hin)
      have : d2 = d' := by
        obtain ⟨_, e1, h1, h2⟩ := k2
        obtain ⟨_, e2, h3, h4⟩ := kid
        rw [h1] at h3; cases h3
        exact h2.det h4
      subst this
      exact ⟨z, ok2, im2, hz⟩
    · subst e
      exact a.hd _ _ (hdrs_in (by lia))
    · have hlt := (List.getElem?_eq_some_iff.mp e).1
      rw [a.len] at hlt
      rcases cover (F := F) (Ho := Ho) (Cs := Cs) hp hlt with ⟨c', hh⟩ | ⟨c', i, hh⟩
      · rw [a.hd _ _ hh] at e; cases e
        exact ⟨by simp, fun h => by rcases h.1 with h | h <;> simp at h⟩
      · obtain ⟨d2, z, k2, ok2, im2, hz⟩ := a.lo _ _ _ hh (fin _ _ _ hh)
        rw [hz] at e; cases e
        rcases im2 with ⟨q1, q2⟩ | ⟨q1, q2, rfl⟩ | ⟨q1, q2⟩
        · obtain ⟨x1, x2, _⟩ := a.tab _ _ (lkC_mem q2)
          exact ⟨by lia, fun h => by rcases h.1 with h | h <;> lia⟩
        · exact ⟨fun h => q1 h.1, fun h => q2 h.1⟩
        · obtain ⟨A, c2, B, _, _, rfl⟩ := Ms_lk q2
          have hc2 : isCmp c2 := by
            rename_i e1 _
            exact (a.cs c2 (by rw [e1]; simp)).2
          refine ⟨fun h => ?_, fun h => ?_⟩
          · rcases hc2 with h' | h' <;> simp only at h <;> lia
          · simp only at h; lia
    · rcases cp.tn k z e with h | h
      · exact .inl h
      · exact .inr (.inr h)
def Pend (Ho : List Cell) (Wk : List (Cell × Cell)) (d : Cell) : Prop := ∃ p ∈ Wk, Der Ho p.1 d
def Seen (Ho : List Cell) (PT PR : List (Int × Cell)) (Wk : List (Cell × Cell)) (d : Cell) : Prop := (d.1 = 0 → (lkC PT d.2).isSome = true ∨ Pend Ho Wk d) ∧ (isCmp d → (lkC PR d.2).isSome = true ∨ Pend Ho Wk d)
structure Chk (F Ho H : List Cell) (T : List (Int × Cell)) (d : Cell) (T' : List (Int × Cell)) (Cs : List Cell) (PT PR : List (Int × Cell)) (Wk : List (Cell × Cell)) : Prop where
  pt : ∀ k z, lkC PT k = some z → lkC T' k = some z
  ptk : (PT.map (·.1)).Nodup
  pr : ∀ k z, lkC PR k = some z → lkC (Ms F Ho H.length Cs) k = some z
  prk : (PR.map (·.1)).Nodup
  wk : ∀ p ∈ Wk, ∃ e, Der Ho p.1 e ∧ COK F Ho e ∧ Img T' (Ms F Ho H.length Cs) e p.2
  root : Seen Ho PT PR Wk d
  cl : ∀ c ∈ Cs, (lkC PR c.2).isSome = true → ∀ i e, Kid F Ho c i e → Seen Ho PT PR Wk e
  old : ∀ k, k ∈ T.map (·.1) → (lkC PT k).isSome = true
def gs (F Ho : List Cell) (PR : List (Int × Cell)) : List Cell → Nat
  | [] => 0
  | c :: Cs => (if (lkC PR c.2).isSome = true then size F Ho c else 0) + gs F Ho PR Cs
def un (PR : List (Int × Cell)) : List Cell → Nat
  | [] => 0
  | c :: Cs => (if (lkC PR c.2).isSome = true then 0 else 1) + un PR Cs
theorem isSome_app {T : List (Int × Cell)} {k k' : Int} {z : Cell} : (lkC (T ++ [(k', z)]) k).isSome = ((lkC T k).isSome || decide (k' = k)) := by
  rw [lkC_app]
  cases lkC T k with
  | some _ => simp
  | none => simp only [Option.none_or, Option.isSome_none, Bool.false_or, lkC, List.find?_cons, List.find?_nil]; by_cases h : k' = k <;> simp [h]
theorem gs_keep {F Ho : List Cell} {PR : List (Int × Cell)} {a : Int} {z : Cell} : ∀ {Cs : List Cell}, a ∉ Cs.map (·.2) → gs F Ho (PR ++ [(a, z)]) Cs = gs F Ho PR Cs ∧ un (PR ++ [(a, z)]) Cs = un PR Cs
  | [], _ => ⟨rfl, rfl⟩
  | c :: Cs, h => by
    simp only [List.map_cons, List.mem_cons, not_or] at h
    obtain ⟨h1, h2⟩ := gs_keep (F := F) (Ho := Ho) (PR := PR) (z := z) h.2
    simp only [gs, un, h1, h2, isSome_app, h.1, decide_false, Bool.or_false]
    exact ⟨trivial, trivial⟩
theorem gs_add {F Ho : List Cell} {PR : List (Int × Cell)} {z c : Cell} : ∀ {A B : List Cell}, ((A ++ c :: B).map (·.2)).Nodup → lkC PR c.2 = none → gs F Ho (PR ++ [(c.2, z)]) (A ++ c :: B) = gs F Ho PR (A ++ c :: B) + size F Ho c ∧ un (PR ++ [(c.2, z)]) (A ++ c :: B) + 1 = un PR (A ++ c :: B)
  | [], B, nd, hn => by
    simp only [List.nil_append, List.map_cons, List.nodup_cons] at nd
    obtain ⟨h1, h2⟩ := gs_keep (F := F) (Ho := Ho) (PR := PR) (z := z) nd.1
    simp only [List.nil_append, gs, un, h1, h2, isSome_app, hn, Option.isSome_none, decide_true, Bool.or_true, if_true, Bool.false_eq_true, if_false]
    lia
  | a :: A, B, nd, hn => by
    simp only [List.cons_append, List.map_cons, List.nodup_cons] at nd
    obtain ⟨h1, h2⟩ := gs_add (F := F) (Ho := Ho) (PR := PR) (z := z) nd.2 hn
    have hne : c.2 ≠ a.2 := fun e => nd.1 (e ▸ by simp)
    simp only [List.cons_append, gs, un, h1, isSome_app, hne, decide_false, Bool.or_false]
    lia
theorem gs_all {F Ho : List Cell} {PR : List (Int × Cell)} : ∀ {Cs : List Cell}, (∀ c ∈ Cs, (lkC PR c.2).isSome = true) → gs F Ho PR Cs = tot F Ho Cs
  | [], _ => rfl
  | c :: Cs, h => by simp only [gs, tot, gs_all fun c hc => h c (.tail _ hc), h c (.head _), if_true]
theorem gs_nil {F Ho : List Cell} : ∀ (Cs : List Cell), gs F Ho [] Cs = 0 ∧ un [] Cs = Cs.length
  | [] => ⟨rfl, rfl⟩
  | c :: Cs => by
    obtain ⟨h1, h2⟩ := gs_nil (F := F) (Ho := Ho) Cs
    exact ⟨by simp [gs, h1, lkC], by simp [un, h2, lkC]; lia⟩

section
variable {F Ho H : List Cell} {T : List (Int × Cell)} {x d y : Cell} {H' : List Cell} {T' : List (Int × Cell)} {Cs : List Cell} {PT PR PT' PR' : List (Int × Cell)} {Wk Wk' : List (Cell × Cell)} {a b e : Cell}
theorem Seen.next (h : Seen Ho PT PR (Wk ++ [(a, b)]) d) (he : Der Ho a e) (m1 : ∀ k, (lkC PT k).isSome = true → (lkC PT' k).isSome = true) (m2 : ∀ k, (lkC PR k).isSome = true → (lkC PR' k).isSome = true) (sub : ∀ p ∈ Wk, p ∈ Wk')
    (d1 : e.1 = 0 → (lkC PT' e.2).isSome = true) (d2 : isCmp e → (lkC PR' e.2).isSome = true) : Seen Ho PT' PR' Wk' d := by
  have key : Pend Ho (Wk ++ [(a, b)]) d → d = e ∨ Pend Ho Wk' d := by
    rintro ⟨p, hp, hd⟩
    rcases List.mem_append.mp hp with hp | hp
    · exact .inr ⟨p, sub p hp, hd⟩
    · simp at hp; subst hp; exact .inl (hd.det he)
  refine ⟨fun h0 => ?_, fun hc => ?_⟩
  · rcases h.1 h0 with q | q
    · exact .inl (m1 _ q)
    · rcases key q with rfl | q
      · exact .inl (d1 h0)
      · exact .inr q
  · rcases h.2 hc with q | q
    · exact .inl (m2 _ q)
    · rcases key q with rfl | q
      · exact .inl (d2 hc)
      · exact .inr q
theorem Chk.next (k : Chk F Ho H T d T' Cs PT PR (Wk ++ [(a, b)])) (he : Der Ho a e) (h1 : ∀ k z, lkC PT' k = some z → lkC T' k = some z) (h2 : (PT'.map (·.1)).Nodup) (h3 : ∀ k z, lkC PR' k = some z → lkC (Ms F Ho H.length Cs) k = some z) (h4 : (PR'.map (·.1)).Nodup)
    (h5 : ∀ p ∈ Wk', ∃ e, Der Ho p.1 e ∧ COK F Ho e ∧ Img T' (Ms F Ho H.length Cs) e p.2) (m1 : ∀ k, (lkC PT k).isSome = true → (lkC PT' k).isSome = true) (m2 : ∀ k, (lkC PR k).isSome = true → (lkC PR' k).isSome = true) (sub : ∀ p ∈ Wk, p ∈ Wk')
    (d1 : e.1 = 0 → (lkC PT' e.2).isSome = true) (d2 : isCmp e → (lkC PR' e.2).isSome = true) (new : ∀ c ∈ Cs, (lkC PR' c.2).isSome = true → (lkC PR c.2).isSome = true ∨ ∀ i e', Kid F Ho c i e' → Pend Ho Wk' e') : Chk F Ho H T d T' Cs PT' PR' Wk' := by
  refine ⟨h1, h2, h3, h4, h5, k.root.next he m1 m2 sub d1 d2, fun c hc hs i e' kid => ?_, fun j hj => m1 _ (k.old j hj)⟩
  rcases new c hc hs with q | q
  · exact (k.cl c hc q i e' kid).next he m1 m2 sub d1 d2
  · exact ⟨fun _ => .inr (q i e' kid), fun _ => .inr (q i e' kid)⟩
theorem Chk.at_ (k : Chk F Ho H T d T' Cs PT PR (Wk ++ [(a, b)])) : ∃ e, Der Ho a e ∧ COK F Ho e ∧ Img T' (Ms F Ho H.length Cs) e b := k.wk (a, b) (by simp)
/-- nothing new -/
theorem Chk.drop (k : Chk F Ho H T d T' Cs PT PR (Wk ++ [(a, b)])) (he : Der Ho a e) (d1 : e.1 = 0 → (lkC PT e.2).isSome = true) (d2 : isCmp e → (lkC PR e.2).isSome = true) : Chk F Ho H T d T' Cs PT PR Wk :=
  k.next he k.pt k.ptk k.pr k.prk (fun p hp => k.wk p (List.mem_append_left _ hp)) (fun _ h => h) (fun _ h => h) (fun _ h => h) d1 d2 fun _ _ h => .inl h
theorem Chk.var (k : Chk F Ho H T d T' Cs PT PR (Wk ++ [(a, b)])) (he : Der Ho a e) (h0 : e.1 = 0) (hb : lkC T' e.2 = some b) (hn : lkC PT e.2 = none) : Chk F Ho H T d T' Cs (PT ++ [(e.2, b)]) PR Wk := by
  refine k.next he (fun j z hz => ?_) ?_ k.pr k.prk (fun p hp => k.wk p (List.mem_append_left _ hp)) (fun j h => by rw [isSome_app, h]; rfl) (fun _ h => h) (fun _ h => h) (fun _ => by rw [isSome_app]; simp) (fun hc => by rcases hc with h | h <;> lia) fun _ _ h => .inl h
  · rw [lkC_app] at hz
    cases hj : lkC PT j with
    | some z' => rw [hj] at hz; cases hz; exact k.pt j _ hj
    | none =>
      rw [hj] at hz
      simp only [Option.none_or, lkC, List.find?_cons, List.find?_nil] at hz
      by_cases q : e.2 = j
      · simp [q] at hz; subst hz; rw [← q]; exact hb
      · simp [q] at hz
  · rw [List.map_append, List.nodup_append]
    refine ⟨k.ptk, by simp, fun a ha b hb e => ?_⟩
    simp at hb; subst hb; subst e
    exact lkC_none hn ha
theorem Chk.cmp (k : Chk F Ho H T d T' Cs PT PR (Wk ++ [(a, b)])) (he : Der Ho a e) (hc : isCmp e) (hb : lkC (Ms F Ho H.length Cs) e.2 = some b) (hn : lkC PR e.2 = none) {ps : List (Cell × Cell)} (hps : ∀ p ∈ ps, ∃ e, Der Ho p.1 e ∧ COK F Ho e ∧ Img T' (Ms F Ho H.length Cs) e p.2)
    (hu : ∀ c ∈ Cs, c.2 = e.2 → c = e) (hk : ∀ i e', Kid F Ho e i e' → Pend Ho ps e') : Chk F Ho H T d T' Cs PT (PR ++ [(e.2, b)]) (Wk ++ ps) := by
  refine k.next he k.pt k.ptk (fun j z hz => ?_) ?_ (fun p hp => ?_) (fun _ h => h) (fun j h => by rw [isSome_app, h]; rfl) (fun p hp => List.mem_append_left _ hp) (fun h0 => by rcases hc with h | h <;> lia) (fun _ => by rw [isSome_app]; simp) fun c hm hs => ?_
  · rw [lkC_app] at hz
    cases hj : lkC PR j with
    | some z' => rw [hj] at hz; cases hz; exact k.pr j _ hj
    | none =>
      rw [hj] at hz
      simp only [Option.none_or, lkC, List.find?_cons, List.find?_nil] at hz
      by_cases q : e.2 = j
      · simp [q] at hz; subst hz; rw [← q]; exact hb
      · simp [q] at hz
  · rw [List.map_append, List.nodup_append]
    refine ⟨k.prk, by simp, fun a ha b hb e => ?_⟩
    simp at hb; subst hb; subst e
    exact lkC_none hn ha
  · rcases List.mem_append.mp hp with hp | hp
    · exact k.wk p (List.mem_append_left _ hp)
    · exact hps p hp
  · rw [isSome_app, Bool.or_eq_true] at hs
    rcases hs with h | h
    · exact .inl h
    · have := hu c hm (of_decide_eq_true h).symm
      subst this
      refine .inr fun i e' kid => ?_
      obtain ⟨p, hp, hd⟩ := hk i e' kid
      exact ⟨p, List.mem_append_right _ hp, hd⟩
/-- the walk is over -/
theorem Chk.done (k : Chk F Ho H T d T' Cs PT PR []) (c : Cpd F Ho H T x d y H' T' Cs) : gs F Ho PR Cs = tot F Ho Cs ∧ ∀ j, lkC PT j = lkC T' j := by
  have seen : ∀ {e : Cell}, Seen Ho PT PR [] e → (e.1 = 0 → (lkC PT e.2).isSome = true) ∧ (isCmp e → (lkC PR e.2).isSome = true) := fun {e} h =>
    ⟨fun h0 => (h.1 h0).elim (fun q => q) (fun ⟨p, hp, _⟩ => nomatch hp), fun h0 => (h.2 h0).elim (fun q => q) (fun ⟨p, hp, _⟩ => nomatch hp)⟩
  have all : ∀ c ∈ Cs, (lkC PR c.2).isSome = true := c.reach (fun c => (lkC PR c.2).isSome = true) (seen k.root).2 fun c i e hc hs kid he => (seen (k.cl c hc hs i e kid)).2 he
  refine ⟨gs_all all, fun j => ?_⟩
  cases hj : lkC PT j with
  | some z => exact (k.pt j z hj).symm
  | none =>
    cases ht : lkC T' j with
    | none => rfl
    | some z =>
      exfalso
      have : (lkC PT j).isSome = true := by
        rcases c.tn j z (lkC_mem ht) with h | ⟨h0, rfl⟩ | ⟨c', hc, i, e, kid, h0, rfl⟩
        · exact k.old j h
        · exact (seen k.root).1 h0
        · exact (seen (k.cl c' hc (all c' hc) i e kid)).1 h0
      rw [hj] at this; cases this
theorem nodup_inj {α β : Type} {f : α → β} : ∀ {l : List α}, (l.map f).Nodup → ∀ {a b : α}, a ∈ l → b ∈ l → f a = f b → a = b
  | [], _, _, _, h, _, _ => nomatch h
  | c :: l, nd, a, b, ha, hb, e => by
    simp only [List.map_cons, List.nodup_cons] at nd
    rcases List.mem_cons.mp ha with h1 | h1
    · rcases List.mem_cons.mp hb with h2 | h2
      · rw [h1, h2]
      · exact absurd (by rw [← h1, e]; exact List.mem_map_of_mem h2) nd.1
    · rcases List.mem_cons.mp hb with h2 | h2
      · exact absurd (by rw [← h2, ← e]; exact List.mem_map_of_mem h1) nd.1
      · exact nodup_inj nd.2 h1 h2 e
theorem Chk.noval (k : Chk F Ho H T d T' Cs PT PR Wk) (c : Cpd F Ho H T x d y H' T' Cs) (hb : lkC T' e.2 = some b) (hn : lkC PT e.2 = none) : enc b ∉ (PT.map encP).map (·.2) := by
  intro h
  obtain ⟨p, hp, e1⟩ := List.mem_map.mp h
  obtain ⟨⟨j, z⟩, hq, rfl⟩ := List.mem_map.mp hp
  have hz : z = b := enc_inj.mp e1
  subst hz
  have h1 := lkC_mem (k.pt j z (lkC_of_mem k.ptk hq))
  have h2 := lkC_mem hb
  have := nodup_inj c.tok.tv h1 h2 rfl
  simp only [Prod.mk.injEq, and_true] at this
  subst this
  exact lkC_none hn (List.mem_map_of_mem (f := (·.1)) hq)
theorem size_pos {c : Cell} (h : COK F Ho c) (hc : isCmp c) : 0 < size F Ho c := by have := wdn_le h hc; unfold size; lia
theorem Chk.novalR (k : Chk F Ho H T d T' Cs PT PR Wk) (c : Cpd F Ho H T x d y H' T' Cs) (hb : lkC (Ms F Ho H.length Cs) e.2 = some b) (hn : lkC PR e.2 = none) : enc b ∉ (PR.map encP).map (·.2) := by
  intro h
  obtain ⟨p, hp, e1⟩ := List.mem_map.mp h
  obtain ⟨⟨j, z⟩, hq, rfl⟩ := List.mem_map.mp hp
  have hz : z = b := enc_inj.mp e1
  subst hz
  obtain ⟨A, c1, B1, q1, q2, q3⟩ := Ms_lk (k.pr j z (lkC_of_mem k.prk hq))
  obtain ⟨A', c2, B2, r1, r2, r3⟩ := Ms_lk hb
  rw [q3] at r3
  simp only [Prod.mk.injEq] at r3
  have m1 : c1 ∈ Cs := by rw [q1]; simp
  have m2 : c2 ∈ Cs := by rw [r1]; simp
  obtain ⟨_, e2⟩ := tot_lt (F := F) (Ho := Ho) (q1.symm.trans r1) (size_pos (c.cs c1 m1).1 (c.cs c1 m1).2) (size_pos (c.cs c2 m2).1 (c.cs c2 m2).2) (by lia)
  subst e2
  rw [q2] at r2; subst r2
  exact lkC_none hn (List.mem_map_of_mem (f := (·.1)) hq)
theorem Cpd.self (c : Cpd F Ho H T x d y H' T' Cs) (he : COK F Ho e) (im : Img T' (Ms F Ho H.length Cs) e b) : Der H' b b := by
  rcases im with ⟨h0, h⟩ | ⟨h0, hc, rfl⟩ | ⟨hc, h⟩
  · obtain ⟨x1, x2, x3⟩ := c.tok.tab _ _ (lkC_mem h)
    exact ⟨0, .self x1 (by lia) x3⟩
  · exact ⟨0, .here h0 (by rcases he.tag with t | t | t | t | t <;> lia)⟩
  · obtain ⟨A, c1, B1, q1, q2, rfl⟩ := Ms_lk h
    have := (c.cs c1 (by rw [q1]; simp)).2
    exact ⟨0, .here (by rcases this with t | t <;> simp only <;> lia) (by rcases this with t | t <;> simp only <;> lia)⟩
/-- a compound and its copy -/
theorem Cpd.pair (c : Cpd F Ho H T x d y H' T' Cs) (he : COK F Ho e) (hc : isCmp e) (h : lkC (Ms F Ho H.length Cs) e.2 = some b) : ∃ A B, Cs = A ++ e :: B ∧ b = (e.1, ((H.length + tot F Ho A : Nat) : Int)) := by
  obtain ⟨A, c1, B1, q1, q2, q3⟩ := Ms_lk h
  have h1 := c.cs c1 (by rw [q1]; simp)
  have := cmp_uniq h1.1 he h1.2 hc q2
  subst this
  exact ⟨A, B1, q1, q3⟩
end
noncomputable def fd_law : { fd : FuncData // ∀ P, ∃ oc od osl, (hd.heap_1 P).lookup 408 = some ⟨oc, od, .func fd, osl⟩ } := ⟨_, fun P => ⟨_, _, _, by k_is⟩⟩
def nthS : List Stmt → Nat → Stmt
  | s :: _, 0 => s
  | _ :: l, n + 1 => nthS l n
  | [], _ => .Pass default
def forB : Stmt → List Stmt
  | .For _ _ b _ _ => b
  | _ => []
noncomputable def lawEnv (L a : Addr) (cd : Value) : Env := envOf (Str.ofString "law") fd_law.1.scope L a cd
noncomputable def turnB : List Stmt := forB (nthS (bodyOf fd_law.1) 9)
def LRho (W : WA4) (ca tb pt : Addr) (o len : Nat) (bf pr wk : Addr) (ρ : Rho) : Prop :=
  ρ (Str.ofString "urn") = some (.ref W.U) ∧ ρ (Str.ofString "store") = some (.ref W.S.a) ∧ ρ (Str.ofString "cells") = some (.ref ca) ∧ ρ (Str.ofString "oldest") = some (.int o) ∧ ρ (Str.ofString "table") = some (.ref tb) ∧ ρ (Str.ofString "partner") = some (.ref pt) ∧
  ρ (Str.ofString "length") = some (.int len) ∧ ρ (Str.ofString "before") = some (.ref bf) ∧ ρ (Str.ofString "pairs") = some (.ref pr) ∧ ρ (Str.ofString "work") = some (.ref wk)
theorem plainP : ∀ (T : List (Int × Cell)), ∀ q ∈ T.map encP, q.2.plain 60 = true := fun T q hq => by
  obtain ⟨p, _, rfl⟩ := List.mem_map.mp hq; rfl
theorem W2.inValsC {c : Cx} {ρ : Rho} {σ : Sg} {a d : Addr} {T : List (Int × Cell)} {z : Cell} {Q : V → Sg → Prop} (ok : c.ok) (hv : σ a = some (.pred (obVals d))) (h1 : σ d = some (.idict (T.map encP))) (hn : enc z ∉ (T.map encP).map (·.2)) (hQ : Q (.bool false) σ) :
    W2 c (compareOp .In) (enc z) (.ref a) ρ σ Q := by
  refine W2.inVals ok hv h1 rfl (plainP T) ?_
  have : ∀ i : Decidable (enc z ∈ (T.map encP).map (·.2)), @decide _ i = false := fun i => decide_eq_false hn
  rw [this]; exact hQ
theorem nodup_le {l : List Int} : ∀ {m : List Int}, l.Nodup → (∀ x ∈ l, x ∈ m) → l.length ≤ m.length := by
  induction l with
  | nil => intro m _ _; simp
  | cons a l ih =>
    intro m nd h
    simp only [List.nodup_cons] at nd
    have h1 := ih (m := m.erase a) nd.2 fun x hx => (List.mem_erase_of_ne (by rintro rfl; exact nd.1 hx)).mpr (h x (.tail _ hx))
    rw [List.length_erase_of_mem (h a (.head _))] at h1
    have := List.length_pos_of_mem (h a (.head _))
    simp only [List.length_cons]; lia
theorem snoc_ex {α : Type} : ∀ {l : List α}, l ≠ [] → ∃ l' a, l = l' ++ [a]
  | [], h => absurd rfl h
  | [a], _ => ⟨[], a, rfl⟩
  | a :: b :: l, _ => by
    obtain ⟨l', c, e⟩ := snoc_ex (l := b :: l) (by simp)
    exact ⟨a :: l', c, by rw [e]; rfl⟩
theorem law_while {B : Base} (hB : IsLaw B) {A : Around} {gs' : List (Addr × O)} {L fa : Addr} {cd : Value} {n : Nat} (r : Room A (n + 4)) {W : WA4} {D : Sy} {X : List (Addr × O)} {Ho H H' : List Cell} {T T' PT : List (Int × Cell)} {x d y : Cell} {Cs : List Cell} {ca tb pt bf pr wk : Addr}
    (hz2 : D.F.length ≤ 1000) (h02 : ar D.F 0 = 2) (hok : HOK D.F Ho) (hHo : ∃ R, H = Ho ++ R) (z1 : Ho.length ≤ 100) (z2 : H'.length ≤ 10000) (cp : Cpd D.F Ho H T x d y H' T' Cs) {Wk : List (Cell × Cell)} (ck : Chk D.F Ho H T d T' Cs PT [] Wk) (hwk : Wk.length ≤ 1) {g0 : Int} {ρ : Rho} {σ : Sg}
    (w : Wd W H' D ((wk, .list (Wk.map encW)) :: (pr, .idict []) :: (pt, .idict (PT.map encP)) :: X) σ) (hr : LRho W ca tb pt Ho.length H.length bf pr wk ρ) (hg : ρ (Str.ofString "growth") = some (.int g0)) {Q : QS}
    (hQ : ∀ ρ' σ' PT' PR, Chk D.F Ho H T d T' Cs PT' PR [] → LRho W ca tb pt Ho.length H.length bf pr wk ρ' → ρ' (Str.ofString "growth") = some (.int (g0 + gs D.F Ho PR Cs)) → Wd W H' D ((wk, .list []) :: (pr, .idict (PR.map encP)) :: (pt, .idict (PT'.map encP)) :: X) σ' → Q .next ρ' σ') :
    WS ⟨B, A, gs', lawEnv L fa cd⟩ (nthS turnB 8) ρ σ Q := by
  have ok : Cx.ok ⟨B, A, gs', lawEnv L fa cd⟩ := r.ok (c := ⟨B, A, gs', lawEnv L fa cd⟩) rfl rfl rfl
  obtain ⟨R, hR⟩ := hHo
  have preO : ∀ (p : Nat) (c : Cell), Ho[p]? = some c → H'[p]? = some c := fun p c h => cp.pre p c (by rw [hR, List.getElem?_append_left (List.getElem?_eq_some_iff.mp h).1]; exact h)
  have chO := Ch.of_pre preO
  refine WS.loop (fun n ρ' σ' => ∃ PT PR Wk, n = 3 * un PR Cs + Wk.length ∧ Chk D.F Ho H T d T' Cs PT PR Wk ∧ LRho W ca tb pt Ho.length H.length bf pr wk ρ' ∧ ρ' (Str.ofString "growth") = some (.int (g0 + gs D.F Ho PR Cs)) ∧ 3 * un PR Cs + Wk.length ≤ 400 ∧
    Wd W H' D ((wk, .list (Wk.map encW)) :: (pr, .idict (PR.map encP)) :: (pt, .idict (PT.map encP)) :: X) σ') _ ⟨PT, [], Wk, rfl, ck, hr, by rw [(gs_nil Cs).1]; simpa using hg, by rw [(gs_nil (F := D.F) (Ho := Ho) Cs).2]; have := cp.csl; omega, w⟩ ?_
  clear ck w hr hg hwk
  rintro n ρ1 σ1 ⟨PT, PR, Wk, rfl, ck, ⟨r1, r2, r3, r4, r5, r6, r7, r8, r9, r10⟩, hg, hwz, w1⟩
  walk_at "wd"
  repeat walk_at "e"
  rw [List.length_map]
  refine iteB (fun hlt => ?_) (fun hge => ?_)
  rotate_left
  · repeat walk_at "m"
    have : Wk = [] := by cases Wk with
      | nil => rfl
      | cons a l => simp at hge
    subst this
    exact hQ _ _ PT PR ck ⟨r1, r2, r3, r4, r5, r6, r7, r8, r9, r10⟩ hg w1
  obtain ⟨Wk', ⟨a, b⟩, rfl⟩ : ∃ Wk' p, Wk = Wk' ++ [p] := by
    exact snoc_ex (by rintro rfl; simp at hlt)
  obtain ⟨e, he, heok, him⟩ := ck.at_
  have hself := cp.self heok him
  have epop : (Wk' ++ [(a, b)]).map encW = Wk'.map encW ++ [.tup [enc a, enc b]] := by simp [encW]
  refine WSS.cons ?_
  repeat walk_at "e"
  refine WC.pop (by rw [← epop]; exact w1.x0) (by simp at hwz ⊢; omega) ?_
  have w2 := w1.set0 (o' := .list (Wk'.map encW))
  generalize upd σ1 wk (.list (Wk'.map encW)) = σ2 at w2
  walk_at "wd"
  repeat walk_at "e"
  obtain ⟨n1, he1⟩ := he.mono preO
  obtain ⟨n2, hs2⟩ := hself
  refine WSS.cons ?_
  repeat walk_at "e"
  refine WC.specA r (c_deref hB w2.st (by omega) he1 ?_)
  repeat walk_at "e"
  refine WSS.cons ?_
  repeat walk_at "e"
  refine WC.specA r (c_deref hB w2.st (by omega) hs2 ?_)
  repeat walk_at "e"
  have hwl : (Wk' ++ [(a, b)]).length = Wk'.length + 1 := by simp
  have stay : ∀ (ρ : Rho), LRho W ca tb pt Ho.length H.length bf pr wk ρ → LRho W ca tb pt Ho.length H.length bf pr wk ρ := fun _ h => h
  refine WSS.one ?_
  repeat walk_at "e"
  refine iteB (fun h0 => ?_) (fun h0 => ?_)
  · have hb : lkC T' e.2 = some b := by
      rcases him with ⟨_, h⟩ | ⟨h, _⟩ | ⟨h, _⟩
      · exact h
      · exact absurd h0 h
      · rcases h with h | h <;> omega
    obtain ⟨x1, x2, x3⟩ := cp.tok.tab _ _ (lkC_mem hb)
    refine WSS.cons ?_
    repeat walk_at "e"
    refine iteB (fun h => absurd x1 h) (fun _ => ?_)
    repeat walk_at "e"
    refine iteB (fun h => absurd h (by omega)) (fun _ => ?_)
    repeat walk_at "e"
    have hptl : (PT.map encP).length ≤ 1000000 := by
      have : PT.length ≤ T'.length := by
        have h1 : (PT.map (·.1)).length ≤ (T'.map (·.1)).length := by
          refine nodup_le ck.ptk fun k hk => ?_
          obtain ⟨⟨k', z⟩, hm, rfl⟩ := List.mem_map.mp hk
          exact List.mem_map_of_mem (f := (·.1)) (lkC_mem (ck.pt _ _ (lkC_of_mem ck.ptk hm)))
        simpa using h1
      have := cp.tok.len
      simp; omega
    refine WSS.cons ?_
    repeat walk_at "e"
    rw [dget_P]
    cases hl : lkC PT e.2 with
    | some z =>
      refine iteV (fun h => by simp at h) (fun _ => ?_)
      have hz : z = b := by have := ck.pt _ _ hl; rw [hb] at this; exact (Option.some.inj this).symm
      subst hz
      repeat walk_at "e"
      refine WSS.one ?_
      repeat walk_at "e"
      refine WC.setdefault (by walk_at "ob") hptl ?_
      rw [dget_P, hl]
      show WE _ _ _ _ _
      repeat walk_at "e"
      refine iteB (fun h => absurd rfl h) (fun _ => ?_)
      repeat walk_at "e"
      exact whileQ_next (3 * un PR Cs + Wk'.length) (by omega) ⟨PT, PR, Wk', rfl, ck.drop he (fun _ => by rw [hl]; rfl) (fun hc => by rcases hc with h | h <;> omega), ⟨by walk_at "lk", by walk_at "lk", by walk_at "lk", by walk_at "lk", by walk_at "lk", by walk_at "lk", by walk_at "lk", by walk_at "lk", by walk_at "lk", by walk_at "lk"⟩, by walk_at "lk", by omega, w2⟩
    | none =>
      refine iteV (fun _ => ?_) (fun h => by simp at h)
      repeat walk_at "e"
      intro v hv
      have w3 := w2.put (o := .pred (obVals pt)) hv
      generalize upd σ2 v (.pred (obVals pt)) = σ3 at w3
      walk_at "wd"
      repeat walk_at "e"
      refine W2.inValsC ok w3.x0 w3.x3 (ck.noval cp hb hl) ?_
      repeat walk_at "e"
      refine WSS.one ?_
      repeat walk_at "e"
      refine WC.setdefault (by walk_at "ob") hptl ?_
      rw [dget_P, hl]
      show WE _ _ _ _ _
      rw [dput_P hl]
      have w4 := w3.set3 (o' := .idict ((PT ++ [(e.2, b)]).map encP))
      repeat walk_at "e"
      refine iteB (fun h => absurd rfl h) (fun _ => ?_)
      repeat walk_at "e"
      exact whileQ_next (3 * un PR Cs + Wk'.length) (by omega) ⟨_, PR, Wk', rfl, ck.var he h0 hb hl, ⟨by walk_at "lk", by walk_at "lk", by walk_at "lk", by walk_at "lk", by walk_at "lk", by walk_at "lk", by walk_at "lk", by walk_at "lk", by walk_at "lk", by walk_at "lk"⟩, by walk_at "lk", by omega, w4.tl⟩
  · refine WSS.one ?_
    repeat walk_at "e"
    refine WC.specA r (c_is_compound hB ?_)
    refine isBool ?_
    refine iteNB (fun hc => ?_) (fun hc => ?_)
    · have hb : b = e := by
        rcases him with ⟨h, _⟩ | ⟨_, _, h⟩ | ⟨h, _⟩
        · exact absurd h h0
        · exact h
        · exact absurd h hc
      refine WSS.one ?_
      repeat walk_at "e"
      refine iteB (fun h => absurd hb h) (fun _ => ?_)
      repeat walk_at "e"
      exact whileQ_next (3 * un PR Cs + Wk'.length) (by omega) ⟨PT, PR, Wk', rfl, ck.drop he (fun h => absurd h h0) (fun h => absurd h hc), ⟨by walk_at "lk", by walk_at "lk", by walk_at "lk", by walk_at "lk", by walk_at "lk", by walk_at "lk", by walk_at "lk", by walk_at "lk", by walk_at "lk", by walk_at "lk"⟩, by walk_at "lk", by omega, w2⟩
    · have hb : lkC (Ms D.F Ho H.length Cs) e.2 = some b := by
        rcases him with ⟨h, _⟩ | ⟨_, h, _⟩ | ⟨_, h⟩
        · exact absurd h h0
        · exact absurd hc h
        · exact h
      refine WSS.one ?_
      repeat walk_at "e"
      rw [dget_P]
      cases hl : lkC PR e.2 with
      | some z =>
        have hz : z = b := by have := ck.pr _ _ hl; rw [hb] at this; exact (Option.some.inj this).symm
        subst hz
        refine iteV (fun _ => ?_) (fun h => by simp at h)
        refine WSS.one ?_
        repeat walk_at "e"
        refine WSub.idict (by walk_at "ob") (by rw [dget_P, hl]; rfl) ?_
        repeat walk_at "e"
        refine iteB (fun h => absurd rfl h) (fun _ => ?_)
        repeat walk_at "e"
        exact whileQ_next (3 * un PR Cs + Wk'.length) (by omega) ⟨PT, PR, Wk', rfl, ck.drop he (fun h => absurd h h0) (fun _ => by rw [hl]; rfl), ⟨by walk_at "lk", by walk_at "lk", by walk_at "lk", by walk_at "lk", by walk_at "lk", by walk_at "lk", by walk_at "lk", by walk_at "lk", by walk_at "lk", by walk_at "lk"⟩, by walk_at "lk", by omega, w2⟩
      | none =>
        refine iteV (fun h => by simp at h) (fun _ => ?_)
        obtain ⟨Aa, Bb, hCs, rfl⟩ := cp.pair heok hc hb
        refine WSS.cons ?_
        repeat walk_at "e"
        refine iteB (fun h => absurd rfl h) (fun _ => ?_)
        repeat walk_at "e"
        refine iteB (fun h => absurd h (by simp only; omega)) (fun _ => ?_)
        repeat walk_at "e"
        intro v hv
        have w3 := w2.put (o := .pred (obVals pr)) hv
        generalize upd σ2 v (.pred (obVals pr)) = σ3 at w3
        walk_at "wd"
        repeat walk_at "e"
        refine W2.inValsC ok w3.x0 w3.x2 (ck.novalR cp hb hl) ?_
        repeat walk_at "e"
        have hn3 := wdn_le heok hc
        have hsz : size D.F Ho e = hdn e + wdn D.F Ho e := rfl
        generalize hs : H.length + tot D.F Ho Aa = s at *
        have hbs : bs (e.1, (s : Int)) = ((s + hdn e : Nat) : Int) := by unfold bs hdn; simp only; split <;> simp
        have hfe : fnOf H' e = fnOf Ho e := fnOf_ch chO heok.fn hc
        have hfn : fnOf H' (e.1, (s : Int)) = fnOf Ho e := by
          unfold fnOf
          by_cases h3 : e.1 = 3
          · simp [h3]
          · have h2 : e.1 = 2 := by rcases hc with h | h; exact h; exact absurd h h3
            have := cp.head Aa e Bb hCs h2
            rw [hs] at this
            simp only [h3, if_false, Int.toNat_natCast, this]
            unfold fnOf; rw [if_neg h3]; rfl
        have okE : COK D.F H' e := heok.ch chO
        have okN : CmpOK D.F H' (e.1, (s : Int)) := by
          refine ⟨hc, by simp, fun h2 => ?_⟩
          have := cp.head Aa e Bb hCs h2
          rw [hs] at this
          have hl := (List.getElem?_eq_some_iff.mp this).1
          obtain ⟨_, q2, q3⟩ := (heok.cmp hc).f h2
          rw [hfn]
          exact ⟨by simp only; omega, q2, q3⟩
        have hwE : wd D.F H' e = wdn D.F Ho e := by
          rw [← hn3.2.2]; unfold wd; rw [hfe]
        refine WSS.cons ?_
        repeat walk_at "e"
        refine WC.specA r (c_functor_of hB w3.st (by omega) okN ?_)
        repeat walk_at "e"
        refine WC.specA r (c_functor_of hB w3.st (by omega) (okE.cmp hc) ?_)
        rw [hfn, hfe]
        repeat walk_at "e"
        refine iteB (fun h => absurd rfl h) (fun _ => ?_)
        repeat walk_at "e"
        refine WSS.cons ?_
        repeat walk_at "e"
        have hprl : (PR.map encP).length ≤ 1000000 := by
          have h1 : (PR.map (·.1)).length ≤ (Cs.map (·.2)).length := nodup_le ck.prk fun k hk => by
            obtain ⟨⟨k', z⟩, hm, rfl⟩ := List.mem_map.mp hk
            rw [← Ms_keys (F := D.F) (Ho := Ho) Cs H.length]
            exact List.mem_map_of_mem (f := (·.1)) (lkC_mem (ck.pr _ _ (lkC_of_mem ck.prk hm)))
          have := cp.csl
          simp at h1 ⊢; omega
        refine WSet.idict (by walk_at "ob") hprl ?_
        rw [dput_P hl]
        have w4 := w3.set2 (o' := .idict ((PR ++ [(e.2, (e.1, (s : Int)))]).map encP))
        generalize upd σ3 pr (.idict ((PR ++ [(e.2, (e.1, (s : Int)))]).map encP)) = σ4 at w4
        have w5 := w4.tl
        walk_at "wd"
        repeat walk_at "e"
        refine WSS.cut (fun ρ' σ' => σ' = σ4 ∧ LRho W ca tb pt Ho.length H.length bf pr wk ρ' ∧ ρ' (Str.ofString "old") = some (enc e) ∧ ρ' (Str.ofString "new") = some (enc (e.1, (s : Int))) ∧ ρ' (Str.ofString "growth") = some (.int (g0 + gs D.F Ho PR Cs + size D.F Ho e))) ?_ ?_
        · repeat walk_at "e"
          refine WC.specA r (c_width hB w5.st w5.sy w5.ap.b (by omega) hz2 (okE.cmp hc) ?_)
          rw [hwE]
          repeat walk_at "e"
          refine iteB (fun h => ?_) (fun h => ?_)
          · repeat walk_at "e"
            refine ⟨rfl, rfl, ⟨by walk_at "lk", by walk_at "lk", by walk_at "lk", by walk_at "lk", by walk_at "lk", by walk_at "lk", by walk_at "lk", by walk_at "lk", by walk_at "lk", by walk_at "lk"⟩, by walk_at "lk", by walk_at "lk", ?_⟩
            rw [updR_same]
            have : hdn e = 1 := by unfold hdn; rw [if_neg (by omega)]
            congr 2; rw [hsz]; omega
          · repeat walk_at "e"
            refine ⟨rfl, rfl, ⟨by walk_at "lk", by walk_at "lk", by walk_at "lk", by walk_at "lk", by walk_at "lk", by walk_at "lk", by walk_at "lk", by walk_at "lk", by walk_at "lk", by walk_at "lk"⟩, by walk_at "lk", by walk_at "lk", ?_⟩
            rw [updR_same]
            have : hdn e = 0 := by unfold hdn; rw [if_pos (by rcases hc with h' | h'; exact absurd h' h; exact h')]
            congr 2; rw [hsz]; omega
        rintro ρ2 _ ⟨rfl, ⟨r1, r2, r3, r4, r5, r6, r7, r8, r9, r10⟩, ro, rn, rg⟩
        refine WSS.one ?_
        refine WS.forRange ok (WRange.two ?_)
        repeat walk_at "e"
        refine WC.specA r (c_width hB w5.st w5.sy w5.ap.b (by omega) hz2 (okE.cmp hc) ?_)
        rw [hwE]
        repeat walk_at "e"
        have hrn : rangeN 1 (1 + (wdn D.F Ho e : Int)) 1 = wdn D.F Ho e := by
          unfold rangeN; rw [rangeSize_one]; split <;> omega
        refine ⟨small_one (by omega) (by omega) (by omega) (by omega), fun i ρ' σ' => i ≤ wdn D.F Ho e ∧ ∃ ps : List (Cell × Cell), ps.length = i ∧ (∀ p ∈ ps, ∃ e, Der Ho p.1 e ∧ COK D.F Ho e ∧ Img T' (Ms D.F Ho H.length Cs) e p.2) ∧ (∀ j, j < i → ∃ p, ps[j]? = some p ∧ Ho[(bs e).toNat + j]? = some p.1) ∧
          LRho W ca tb pt Ho.length H.length bf pr wk ρ' ∧ ρ' (Str.ofString "old") = some (enc e) ∧ ρ' (Str.ofString "new") = some (enc (e.1, (s : Int))) ∧ ρ' (Str.ofString "growth") = some (.int (g0 + gs D.F Ho PR Cs + size D.F Ho e)) ∧
          Wd W H' D ((wk, .list ((Wk' ++ ps).map encW)) :: (pr, .idict ((PR ++ [(e.2, (e.1, (s : Int)))]).map encP)) :: (pt, .idict (PT.map encP)) :: X) σ', ⟨Nat.zero_le _, [], rfl, by simp, by simp, ⟨r1, r2, r3, r4, r5, r6, r7, r8, r9, r10⟩, ro, rn, rg, by simpa using w5⟩, ?_, ?_⟩
        · rintro g i ρ3 σ5 hi ⟨_, ps, hpl, hps, hpj, ⟨r1, r2, r3, r4, r5, r6, r7, r8, r9, r10⟩, ro, rn, rg, w6⟩
          rw [hrn] at hi
          walk_at "wd"
          obtain ⟨ei, di, hei, hdi, hdok, _⟩ := COK.kid hok heok hc hi
          obtain ⟨z, _, hzim, hz⟩ := cp.kids Aa e Bb hCs i di ⟨hi, ei, hei, hdi⟩
          rw [hs] at hz
          have hb0 : 0 ≤ bs e := by have := (heok.cmp hc).p; unfold bs; split <;> omega
          have hapl : ((Wk' ++ ps).map encW).length ≤ 1000000 := by simp; omega
          repeat walk_at "m"
          refine WC.specA r (c_arg (F := D.F) hB w6.st (by omega) (y := ei) (by omega) (by rw [show (bs e + (1 + (i : Int) * 1) - 1).toNat = (bs e).toNat + i by omega]; exact preO _ _ hei) ?_)
          repeat walk_at "m"
          refine WC.specA r (c_arg (F := D.F) hB w6.st (by omega) (y := z) (by rw [hbs]; omega) (by rw [hbs, show (((s + hdn e : Nat) : Int) + (1 + (i : Int) * 1) - 1).toNat = s + hdn e + i by omega]; exact hz) ?_)
          repeat walk_at "m"
          refine ⟨hi, ps ++ [(ei, z)], by simp [hpl], fun p hp => ?_, fun j hj => ?_, ⟨by walk_at "lk", by walk_at "lk", by walk_at "lk", by walk_at "lk", by walk_at "lk", by walk_at "lk", by walk_at "lk", by walk_at "lk", by walk_at "lk", by walk_at "lk"⟩, by walk_at "lk", by walk_at "lk", by walk_at "lk", ?_⟩
          · rcases List.mem_append.mp hp with hp | hp
            · exact hps p hp
            · simp at hp; subst hp; exact ⟨di, hdi, hdok, hzim⟩
          · by_cases hji : j < i
            · obtain ⟨p, h1, h2⟩ := hpj j hji
              exact ⟨p, by rw [List.getElem?_append_left (by omega)]; exact h1, h2⟩
            · have : j = i := by omega
              subst this
              exact ⟨(ei, z), by rw [List.getElem?_append_right (by omega), hpl]; simp, hei⟩
          · have e1 : (Wk' ++ (ps ++ [(ei, z)])).map encW = (Wk' ++ ps).map encW ++ [.tup [enc ei, enc z]] := by simp [encW]
            rw [e1]
            exact w6.set0
        · rw [hrn]
          rintro ρ3 σ5 ⟨_, ps, hpl, hps, hpj, hrr, ro, rn, rg, w6⟩
          obtain ⟨g1, g2⟩ := gs_add (F := D.F) (Ho := Ho) (PR := PR) (z := (e.1, (s : Int))) (A := Aa) (B := Bb) (by rw [← hCs]; exact cp.nd) hl
          rw [← hCs] at g1 g2
          refine whileQ_next (3 * un (PR ++ [(e.2, (e.1, (s : Int)))]) Cs + (Wk' ++ ps).length) (by simp; omega) ⟨PT, _, Wk' ++ ps, rfl, ck.cmp he hc hb hl hps (fun c hc' hce => ?_) (fun i e' kid => ?_), hrr, ?_, by simp; omega, w6⟩
          · exact cmp_uniq (cp.cs c hc').1 heok (cp.cs c hc').2 hc hce
          · obtain ⟨hi, e2, h1, h2⟩ := kid
            obtain ⟨p, q1, q2⟩ := hpj i hi
            rw [h1] at q2
            exact ⟨p, List.mem_of_getElem? q1, by rw [← Option.some.inj q2]; exact h2⟩
          · rw [rg, g1]; congr 2; omega
theorem hok_set {F H : List Cell} (h : HOK F H) {q : Nat} {c v : Cell} (hq : H[q]? = some c) (hc : c.1 ≠ 6) (hv : COK F H v) (hl : v.1 = 0 → v.2 ≤ q) : HOK F (H.set q v) ∧ Ch H (H.set q v) := by
  have hv6 : v.1 ≠ 6 := by rcases hv.tag with t | t | t | t | t <;> lia
  have ch := Ch.set hq hc hv6
  refine ⟨fun p c' e hc' => ?_, ch⟩
  rw [List.getElem?_set] at e
  split at e
  · rename_i e'
    subst e'
    split at e
    · cases e; exact ⟨hv.ch ch, fun h0 => by have := hl h0; lia⟩
    · cases e
  · exact ⟨(h p c' e hc').1.ch ch, (h p c' e hc').2⟩
theorem sameD_true {T PT : List (Int × Cell)} (tk : (T.map (·.1)).Nodup) (pk : (PT.map (·.1)).Nodup) (h : ∀ k, lkC PT k = lkC T k) : sameD (T.map encP) (PT.map encP) = true := by
  have mem : ∀ {A B : List (Int × Cell)}, (A.map (·.1)).Nodup → (∀ k, lkC A k = lkC B k) → ∀ x ∈ A.map (·.1), x ∈ B.map (·.1) := by
    intro A B nd h x hx
    obtain ⟨⟨k, z⟩, hm, rfl⟩ := List.mem_map.mp hx
    have := lkC_of_mem nd hm
    rw [h] at this
    exact List.mem_map_of_mem (f := (·.1)) (lkC_mem this)
  have h1 := nodup_le tk (mem tk fun k => (h k).symm)
  have h2 := nodup_le pk (mem pk h)
  unfold sameD
  rw [Bool.and_eq_true]
  refine ⟨by simp at h1 h2 ⊢; lia, ?_⟩
  rw [List.all_eq_true]
  intro q hq
  obtain ⟨⟨k, z⟩, hm, rfl⟩ := List.mem_map.mp hq
  have : dget (PT.map encP) (encP (k, z)).1 = some (enc z) := by
    rw [dget_P]; show (lkC PT k).map enc = _
    rw [h, lkC_of_mem tk hm]; rfl
  rw [this]
  simp [encP]
theorem plains_enc (l : List Cell) : V.plains 59 (l.map enc) = true := by
  induction l with
  | nil => rfl
  | cons a l ih => simp only [List.map_cons, V.plains, ih, Bool.and_true]; rfl
theorem W2.inTup2 {c : Cx} {ρ : Rho} {σ : Sg} {t a b : Int} {Q : V → Sg → Prop} (hu : c.A.units + 70 < cLine) (hQ : Q (.bool (decide (t = a ∨ t = b))) σ) : W2 c (compareOp .In) (.int t) (.tup [.int a, .int b]) ρ σ Q := by
  refine W2.inTup hu rfl rfl ?_
  have : ∀ i : Decidable (V.int t ∈ [V.int a, V.int b]), @decide _ i = decide (t = a ∨ t = b) := fun i => by by_cases h : t = a ∨ t = b <;> simp [h]
  rw [this]; exact hQ
theorem law_body {B : Base} (hB : IsLaw B) {A : Around} {gs' : List (Addr × O)} {L fa : Addr} {cd : Value} (r : Room A 10) {sa : Addr} {vs : List Value} {ns : List Int} (hl : B.h₀.IsList sa vs.toArray) (hi : IntsAre vs ns) (hz : ns.length ≤ 63) :
    WSS ⟨B, A, gs', lawEnv L fa cd⟩ (bodyOf fd_law.1) (rho0 [Str.ofString "script"] [.raw (.ref sa)]) (fun _ => none) fun fl _ _ => fl = .ret (.bool true) := by
  have ok : Cx.ok ⟨B, A, gs', lawEnv L fa cd⟩ := r.ok (c := ⟨B, A, gs', lawEnv L fa cd⟩) rfl rfl rfl
  refine WSS.cons (WS.assign (WE.list (WL.cons (WE.cint ?_))))
  refine WL.cons ?_
  refine WE.sliceBase hl hi (by omega) ?_ (fun _ _ => rfl)
  repeat walk_at "e"
  refine ⟨50, rfl, fun l hfl => ?_⟩
  generalize hns : ns.take 50 = ns'
  have hns' : ns'.length ≤ 50 := by rw [← hns, List.length_take]; omega
  repeat walk_at "e"
  intro U hU
  have hl1 : upd (fun _ => none) l (.list (ns'.map V.int)) l = some (.list (ns'.map V.int)) := upd_same _ _ _
  have neU : U ≠ l := (fr_upd hU).1
  generalize upd (fun _ => none) l (.list (ns'.map V.int)) = σ0 at hl1 hU
  have un1 : UrnAt U l ns' (upd σ0 U (.list [.int 0, .ref l, .int 0])) := ⟨⟨0, 0, upd_same _ _ _, by omega⟩, upd_at (Ne.symm neU) hl1, neU, by omega⟩
  generalize upd σ0 U (.list [.int 0, .ref l, .int 0]) = σ1 at un1
  repeat walk_at "e"
  refine WSS.cons ?_
  repeat walk_at "e"
  refine c_Symbols hB (r.mono (by omega)) fun Y σ2 f1 f2 f3 f4 f5 f6 kp1 sy => ?_
  repeat walk_at "e"
  refine WSS.cons ?_
  repeat walk_at "e"
  refine c_Store hB (r.mono (by omega)) fun S σ3 hSb g1 g2 g3 kp2 st => ?_
  repeat walk_at "e"
  obtain ⟨u0, k0, hu0, _⟩ := un1.u
  have un2 := un1.kp kp1 (by simp)
  obtain ⟨u1, k1, hu1, _⟩ := un2.u
  have w0 : Wd ⟨S, Y, U, l, ns'⟩ [] D0 [] σ3 :=
    ⟨un2.kp kp2 (by simp), st, sy.kp kp2 (by simp), ⟨hSb, ne_fr g3 sy.tx, ne_fr g3 sy.fu⟩, ne_fr' hu1 g3, ne_fr' hu0 f3, ne_fr' hu0 f5, ne_fr' un2.li g3, ne_fr' un1.li f3, ne_fr' un1.li f5, ne_fr g2 sy.an, by simp, by simp, by simp⟩
  refine WSS.cons ?_
  repeat walk_at "e"
  refine WC.specA r (c_things hB (W := ⟨S, Y, U, l, ns'⟩) w0 fun σ4 ca na cs H D w1 th hc3 hc8 => ?_)
  generalize hW : (⟨S, Y, U, l, ns'⟩ : WA4) = W at w1
  have eS : S = W.S := by rw [← hW]
  have eU : U = W.U := by rw [← hW]
  have eY : Y = W.Y := by rw [← hW]
  rw [eS, eU]
  clear w0 un1 un2 sy st g1 g2 g3 f1 f2 f3 f4 f5 f6 kp1 kp2 hu0 hu1
  repeat walk_at "e"
  have hcl : ((cs.map enc).length : Int) = cs.length := by simp
  have hcl2 : (cs.map enc).length ≤ 1000000 := by simp; omega
  walk_at "wd"
  refine WSS.cons ?_
  repeat walk_at "e"
  rw [hcl]
  have hpk : ∀ {σ' : Sg} {k : Int} {X : List (Addr × O)} {H : List Cell} {D : Sy}, Wd W H D X σ' → 0 ≤ k → k < cs.length → ∃ c, c ∈ cs ∧ (cs.map enc)[((-1 - k : Int) + ((cs.map enc).length : Int)).toNat]? = some (enc c) ∧ (-1 - k : Int) < 0 ∧ -(((cs.map enc).length : Nat) : Int) ≤ -1 - k ∧ -(2 ^ 63) ≤ (-1 - k : Int) := by
    intro σ' k X H D _ h0 h1
    have hlt : ((-1 - k : Int) + (cs.length : Int)).toNat < cs.length := by omega
    refine ⟨cs[((-1 - k : Int) + (cs.length : Int)).toNat], List.getElem_mem _, ?_, by omega, by rw [hcl]; omega, by omega⟩
    rw [hcl, List.getElem?_map, List.getElem?_eq_getElem hlt]; rfl
  refine WC.specA r (c_pick hB w1.un (by omega) (log2_small (by omega)) fun k σ5 hk0 hk1 kp un => ?_)
  have w2 := w1.pick kp un
  repeat walk_at "e"
  obtain ⟨cl, hclm, hcle, hc1, hc2, hc3'⟩ := hpk w2 hk0 hk1
  refine WSub.listNeg w2.x0 hc1 hc2 hc3' hcle ?_
  repeat walk_at "e"
  have hHz := th.hz
  obtain ⟨dl, ⟨nl, hdl⟩, hdlok, hdlself⟩ := th.ok.der (th.cok cl hclm)
  refine WC.specA r (c_deref hB w2.st (by omega) hdl ?_)
  repeat walk_at "e"
  obtain ⟨c00, c01⟩ := th.c0 (by omega)
  have c0ok := th.cok _ (List.mem_of_getElem? c00)
  have hc0e : (cs.map enc)[(0 : Int).toNat]? = some (enc (0, 0)) := by rw [List.getElem?_map]; show Option.map enc cs[0]? = _; rw [c00]; rfl
  refine WSS.cut (fun ρ' σ' => ∃ Ho, Wd W Ho D [(ca, .list (cs.map enc))] σ' ∧ HOK D.F Ho ∧ (∀ c ∈ cs, COK D.F Ho c) ∧ Ho.length = H.length ∧ ρ' (Str.ofString "urn") = some (.ref W.U) ∧ ρ' (Str.ofString "store") = some (.ref W.S.a) ∧ ρ' (Str.ofString "cells") = some (.ref ca)) ?_ ?_
  · repeat walk_at "e"
    refine WC.specA r (c_pick hB w2.un (by decide) (by decide) fun k2 σ6 hk0' hk1' kp un => ?_)
    have w3 := w2.pick kp un
    walk_at "wd"
    repeat walk_at "e"
    refine iteB (fun _ => ?_) (fun _ => ?_)
    · refine WSS.one ?_
      repeat walk_at "e"
      refine iteB (fun h0 => ?_) (fun h0 => ?_)
      · refine WSS.one ?_
        repeat walk_at "e"
        refine WSub.list w3.x0 (by decide) (by decide) hc0e ?_
        repeat walk_at "e"
        obtain ⟨q0, _⟩ := hdlok.ref h0
        have hself := hdlself h0
        have hq := (List.getElem?_eq_some_iff.mp hself).1
        have edl : dl = (0, dl.2) := Prod.ext h0 rfl
        rw [edl]
        refine WC.specA r (c_bind_pair hB w3.st (by simp; omega) (by decide) q0 (by simp; omega) (fun he => ?_) (fun hlt => ?_))
        · repeat walk_at "e"
          exact ⟨rfl, H, w3, th.ok, th.cok, rfl, by walk_at "lk", by walk_at "lk", by walk_at "lk"⟩
        · obtain ⟨hh, ch⟩ := hok_set th.ok hself (by omega) c0ok (fun _ => by simp only; omega)
          have w4 : Wd W (H.set dl.2.toNat (0, 0)) D [(ca, .list (cs.map enc))] (upd σ6 W.S.h (.list ((H.map enc).set dl.2.toNat (enc (0, 0))))) := w3.heap ((Kp.refl _ _).upd (.inl (.head _))) (by rw [upd_same, List.map_set])
          repeat walk_at "e"
          exact ⟨rfl, _, w4, hh, fun c hc => (th.cok c hc).ch ch, by simp, by walk_at "lk", by walk_at "lk", by walk_at "lk"⟩
      · refine WSS.one ?_
        repeat walk_at "e"
        refine WSub.list w3.x0 (by decide) (by decide) hc0e ?_
        repeat walk_at "e"
        have h0lt := (List.getElem?_eq_some_iff.mp c01).1
        refine WC.specA r (c_bind hB w3.st (by simp; omega) (by decide) (by simp; omega) _ ?_)
        obtain ⟨hh, ch⟩ := hok_set th.ok c01 (by decide) hdlok (fun h => absurd h h0)
        have w4 : Wd W (H.set 0 dl) D [(ca, .list (cs.map enc))] (upd σ6 W.S.h (.list ((H.map enc).set (0 : Int).toNat (enc dl)))) := w3.heap ((Kp.refl _ _).upd (.inl (.head _))) (by rw [upd_same, List.map_set]; rfl)
        repeat walk_at "e"
        exact ⟨rfl, _, w4, hh, fun c hc => (th.cok c hc).ch ch, by simp, by walk_at "lk", by walk_at "lk", by walk_at "lk"⟩
    · repeat walk_at "e"
      exact ⟨rfl, H, w3, th.ok, th.cok, rfl, by walk_at "lk", by walk_at "lk", by walk_at "lk"⟩
  have hD := th.d
  clear hdlself hdlok hdl hcle hclm hc1 hc2 hc3' un kp hk0 hk1
  rintro ρ5 σ7 ⟨Ho, w3, hok, hcok, hHl, r1, r2, r3⟩
  clear w1 w2
  have hfit := (d_fits hD).2.2.1
  have h02 : ar D.F 0 = 2 := by rcases hD with rfl | rfl; exact d_ar0; exact d_ar30
  walk_at "wd"
  refine WSS.cons ?_
  repeat walk_at "e"
  rw [List.length_map]
  refine WSS.cons ?_
  repeat walk_at "e"
  refine WE.idict fun tb htb => ?_
  have w4 := w3.put (o := .idict []) htb
  generalize upd σ7 tb (.idict []) = σ8 at w4
  repeat walk_at "e"
  refine WSS.cons ?_
  repeat walk_at "e"
  refine WE.idict fun pt hpt => ?_
  have w5 := w4.put (o := .idict []) hpt
  generalize upd σ8 pt (.idict []) = σ9 at w5
  repeat walk_at "e"
  refine WSS.cons ?_
  refine WS.forRange ok (WRange.one ?_)
  repeat walk_at "e"
  refine ⟨small_zero (by decide) (by decide), fun i ρ σ => i ≤ 2 ∧ ∃ T PT H, Wd W H D [(pt, .idict (PT.map encP)), (tb, .idict (T.map encP)), (ca, .list (cs.map enc))] σ ∧ (∃ R, H = Ho ++ R) ∧ H.length ≤ Ho.length + i * 301 ∧ TOK Ho H T ∧ (PT.map (·.1)).Nodup ∧ (∀ k, lkC PT k = lkC T k) ∧
    ρ (Str.ofString "urn") = some (.ref W.U) ∧ ρ (Str.ofString "store") = some (.ref W.S.a) ∧ ρ (Str.ofString "cells") = some (.ref ca) ∧ ρ (Str.ofString "oldest") = some (.int Ho.length) ∧ ρ (Str.ofString "table") = some (.ref tb) ∧ ρ (Str.ofString "partner") = some (.ref pt),
    ⟨by omega, [], [], Ho, w5, ⟨[], by simp⟩, by omega, ⟨by simp, by simp, by simp⟩, by simp, fun _ => rfl, by walk_at "lk", by walk_at "lk", by walk_at "lk", by walk_at "lk", by walk_at "lk", by walk_at "lk"⟩, ?_, ?_⟩
  rotate_left
  · rw [rangeN_zero (by decide)]
    rintro ρ6 σ10 ⟨_, T, PT, H1, w6, hpre, hlen, tok, ptk, heq, r1, r2, r3, r4, r5, r6⟩
    refine WSS.one ?_
    repeat walk_at "e"
    refine W2.eqDict ok.units w6.x1 w6.x0 (plainP T) (plainP PT) ?_
    rw [sameD_true tok.tk ptk heq]
  clear w3 w4 w5
  rintro g i ρ6 σ10 hi2 ⟨_, T, PT, H1, w6, ⟨R, hR⟩, hlen, tok, ptk, heq, r1, r2, r3, r4, r5, r6⟩
  rw [rangeN_zero (by decide)] at hi2
  have hi2' : i < 2 := hi2
  have preO : ∀ (p : Nat) (c : Cell), Ho[p]? = some c → H1[p]? = some c := fun p c h => by rw [hR, List.getElem?_append_left (List.getElem?_eq_some_iff.mp h).1]; exact h
  have hle : Ho.length ≤ H1.length := by rw [hR]; simp
  walk_at "wd"
  repeat walk_at "e"
  refine WSS.cons ?_
  repeat walk_at "e"
  rw [hcl]
  refine WC.specA r (c_pick hB w6.un (by omega) (log2_small (by omega)) fun k σ11 hk0 hk1 kp un => ?_)
  have w7 := w6.pick kp un
  repeat walk_at "e"
  obtain ⟨ct, hctm, hcte, hc1, hc2, hc3'⟩ := hpk w7 hk0 hk1
  refine WSub.listNeg w7.x2 hc1 hc2 hc3' hcte ?_
  walk_at "wd"
  repeat walk_at "e"
  have hctok := hcok ct hctm
  obtain ⟨dt, hdt, hdtok, _⟩ := hok.der hctok
  obtain ⟨nt, hdt'⟩ := hdt.mono preO
  refine WSS.cons ?_
  repeat walk_at "e"
  refine WC.specA r (c_deref hB w7.st (by omega) hdt' ?_)
  repeat walk_at "e"
  refine WSS.cons ?_
  repeat walk_at "e"
  rw [List.length_map]
  refine WSS.cut (fun ρ' σ' => σ' = σ11 ∧ ρ' (Str.ofString "urn") = some (.ref W.U) ∧ ρ' (Str.ofString "store") = some (.ref W.S.a) ∧ ρ' (Str.ofString "cells") = some (.ref ca) ∧ ρ' (Str.ofString "oldest") = some (.int Ho.length) ∧ ρ' (Str.ofString "table") = some (.ref tb) ∧ ρ' (Str.ofString "partner") = some (.ref pt) ∧
    ρ' (Str.ofString "top_x") = some (enc ct) ∧ ρ' (Str.ofString "length") = some (.int H1.length) ∧ ρ' (Str.ofString "growth") = some (.int (if dt.1 = 0 ∧ lkC T dt.2 = none then 1 else 0))) ?_ ?_
  · repeat walk_at "e"
    refine iteB (fun h0 => ?_) (fun h0 => ?_)
    · repeat walk_at "e"
      rw [dget_P]
      cases hl : lkC T dt.2 with
      | some z =>
        refine iteV (fun h => by simp at h) (fun _ => ?_)
        repeat walk_at "e"
        exact ⟨rfl, rfl, by walk_at "lk", by walk_at "lk", by walk_at "lk", by walk_at "lk", by walk_at "lk", by walk_at "lk", by walk_at "lk", by walk_at "lk", by rw [updR_same]; simp⟩
      | none =>
        refine iteV (fun _ => ?_) (fun h => by simp at h)
        repeat walk_at "e"
        exact ⟨rfl, rfl, by walk_at "lk", by walk_at "lk", by walk_at "lk", by walk_at "lk", by walk_at "lk", by walk_at "lk", by walk_at "lk", by walk_at "lk", by rw [updR_same]; simp [h0]⟩
    · repeat walk_at "e"
      exact ⟨rfl, rfl, by walk_at "lk", by walk_at "lk", by walk_at "lk", by walk_at "lk", by walk_at "lk", by walk_at "lk", by walk_at "lk", by walk_at "lk", by rw [updR_same]; simp [h0]⟩
  rintro ρ7 σq ⟨rfl, r1, r2, r3, r4, r5, r6, r7, r8, r9⟩
  generalize hgr : (if dt.1 = 0 ∧ lkC T dt.2 = none then 1 else 0 : Int) = gr at r9
  refine WSS.cons ?_
  repeat walk_at "e"
  intro bf hbf
  have w8 := w7.put (o := .list (H1.map enc)) hbf
  generalize upd σq bf (.list (H1.map enc)) = σ12 at w8
  have w9 := w8.perm (X' := [(tb, .idict (T.map encP)), (bf, .list (H1.map enc)), (pt, .idict (PT.map encP)), (ca, .list (cs.map enc))]) (((List.Perm.swap _ _ _).cons _).trans (List.Perm.swap _ _ _))
  repeat walk_at "e"
  refine WSS.cons ?_
  repeat walk_at "e"
  refine WC.specA r (c_copy hB w9 (by omega) h02 ⟨R, hR⟩ hok hctok tok (by omega) (by omega) fun σ13 y H2 T2 Cs dn w10 => ?_)
  obtain ⟨d2, cp⟩ := dn.cpd tok hle
  have ed : d2 = dt := cp.der.det hdt
  subst ed
  have hcpl := cp.len
  have htl := tot_le cp.cs
  have hcsl := cp.csl
  repeat walk_at "e"
  refine WSS.cons ?_
  repeat walk_at "e"
  refine WE.idict fun pr hpr => ?_
  have w11 := w10.put (o := .idict (([] : List (Int × Cell)).map encP)) hpr
  rw [show O.idict [] = O.idict (([] : List (Int × Cell)).map encP) from rfl]
  generalize upd σ13 pr (.idict (([] : List (Int × Cell)).map encP)) = σ14 at w11
  repeat walk_at "e"
  refine WSS.cons ?_
  repeat walk_at "e"
  intro wk hwk
  have w12 := w11.put (o := .list ([(ct, y)].map encW)) hwk
  rw [show ([.tup [enc ct, enc y]] : List V) = [(ct, y)].map encW from rfl]
  generalize upd σ14 wk (.list ([(ct, y)].map encW)) = σ15 at w12
  repeat walk_at "e"
  have ck : Chk D.F Ho H1 T d2 T2 Cs PT [] [(ct, y)] := by
    have pend : Pend Ho [(ct, y)] d2 := ⟨(ct, y), .head _, hdt⟩
    refine ⟨fun k z hkz => ?_, ptk, fun k z hkz => by simp [lkC] at hkz, by simp, fun p hp => ?_, ⟨fun _ => .inr pend, fun _ => .inr pend⟩, fun c _ hs => by simp [lkC] at hs, fun k hkm => ?_⟩
    · rw [heq] at hkz
      obtain ⟨Tx, e⟩ := cp.t0
      rw [e]; exact lkC_app_l hkz
    · simp at hp; subst hp; exact ⟨d2, hdt, hdtok, cp.im⟩
    · rw [heq]
      obtain ⟨⟨k', z⟩, hm, rfl⟩ := List.mem_map.mp hkm
      rw [lkC_of_mem tok.tk hm]; rfl
  have w13 := w12.perm (X' := [(wk, .list ([(ct, y)].map encW)), (pr, .idict (([] : List (Int × Cell)).map encP)), (pt, .idict (PT.map encP)), (tb, .idict (T2.map encP)), (bf, .list (H1.map enc)), (ca, .list (cs.map enc))])
    ((((List.Perm.swap _ _ _).cons _).trans (List.Perm.swap _ _ _)).cons _ |>.cons _)
  refine WSS.cons ?_
  have hgcpl : (H2.length : Int) = H1.length + gr + tot D.F Ho Cs := by
    rw [← hgr]
    split at hcpl
    · rename_i hq; rw [if_pos hq]; omega
    · rename_i hq; rw [if_neg hq]; omega
  have hgr01 : 0 ≤ gr ∧ gr ≤ 1 := by rw [← hgr]; split <;> omega
  refine law_while (n := 5) (ca := ca) (tb := tb) (bf := bf) (pr := pr) (wk := wk) hB (r.mono (by omega)) (by omega) h02 hok ⟨R, hR⟩ (by omega) (by omega) cp ck (by simp) w13 ⟨by walk_at "lk", by walk_at "lk", by walk_at "lk", by walk_at "lk", by walk_at "lk", by walk_at "lk", by walk_at "lk", by walk_at "lk", by walk_at "lk", by walk_at "lk"⟩ (g0 := gr) (by walk_at "lk") fun ρ8 σ16 PT' PR ckd hrr rg w14 => ?_
  obtain ⟨r1, r2, r3, r4, r5, r6, r7, r8, r9, r10⟩ := hrr
  obtain ⟨hgs, heq'⟩ := ckd.done cp
  rw [hgs] at rg
  walk_at "wd"
  repeat walk_at "e"
  have htake : (H2.map enc).take H1.length = H1.map enc := by
    rw [← List.map_take]
    congr 1
    apply List.ext_getElem?
    intro p
    rw [List.getElem?_take]
    split
    · rename_i hp
      rw [List.getElem?_eq_getElem hp]
      exact cp.pre p _ (List.getElem?_eq_getElem hp)
    · rename_i hp
      rw [List.getElem?_eq_none (by omega)]
  refine WSS.cut (fun ρ' σ' => Wd W H2 D [(pt, .idict (PT'.map encP)), (tb, .idict (T2.map encP)), (ca, .list (cs.map enc))] σ' ∧ ρ' (Str.ofString "urn") = some (.ref W.U) ∧ ρ' (Str.ofString "store") = some (.ref W.S.a) ∧ ρ' (Str.ofString "cells") = some (.ref ca) ∧ ρ' (Str.ofString "oldest") = some (.int Ho.length) ∧
    ρ' (Str.ofString "table") = some (.ref tb) ∧ ρ' (Str.ofString "partner") = some (.ref pt) ∧ ρ' (Str.ofString "length") = some (.int H1.length)) ?_ ?_
  · repeat walk_at "e"
    rw [List.length_map]
    refine iteB (fun h => absurd hgcpl (by omega)) (fun _ => ?_)
    repeat walk_at "e"
    refine ⟨W.S.h, H2.map enc, H1.map enc, rfl, by walk_at "ob", by simp; omega, by simp only [cutList]; rw [if_pos (by omega), Int.toNat_natCast, htake], fun b hb => ?_⟩
    have w15 := w14.put (o := .list (H1.map enc)) hb
    generalize upd σ16 b (.list (H1.map enc)) = σ17 at w15
    repeat walk_at "e"
    refine W2.neList ok.units w15.x0 w15.x5 (plains_enc _) (plains_enc _) ?_
    have : ∀ i : Decidable (H1.map enc ≠ H1.map enc), @decide _ i = false := fun i => decide_eq_false (by simp)
    rw [this]
    repeat walk_at "e"
    exact ⟨rfl, w15.tl.tl.tl.sub (((List.sublist_cons_self _ _).cons_cons _).cons_cons _), by walk_at "lk", by walk_at "lk", by walk_at "lk", by walk_at "lk", by walk_at "lk", by walk_at "lk", by walk_at "lk"⟩
  rintro ρ9 σ17 ⟨w15, r1, r2, r3, r4, r5, r6, r7⟩
  walk_at "wd"
  refine WSS.one ?_
  refine WS.forList (by walk_at "okt") ?_
  repeat walk_at "e"
  refine ⟨W.S.h, H2.map enc, (H2.map enc).drop H1.length, rfl, by walk_at "ob", by simp; omega, by simp only [cutList]; rw [if_pos (by omega), Int.toNat_natCast], fun b hb => ?_⟩
  have w16 := w15.put (o := .list ((H2.map enc).drop H1.length)) hb
  refine ⟨b, _, rfl, upd_same _ _ _, fun k ρ σ => Wd W H2 D [(b, .list ((H2.map enc).drop H1.length)), (pt, .idict (PT'.map encP)), (tb, .idict (T2.map encP)), (ca, .list (cs.map enc))] σ ∧ ρ (Str.ofString "urn") = some (.ref W.U) ∧ ρ (Str.ofString "store") = some (.ref W.S.a) ∧ ρ (Str.ofString "cells") = some (.ref ca) ∧ ρ (Str.ofString "oldest") = some (.int Ho.length) ∧
    ρ (Str.ofString "table") = some (.ref tb) ∧ ρ (Str.ofString "partner") = some (.ref pt) ∧ ρ (Str.ofString "length") = some (.int H1.length), ⟨w16, r1, r2, r3, r4, r5, r6, r7⟩, ?_, ?_, ?_⟩
  · rintro k ρ σ ⟨w, _⟩; exact w.x0
  · rintro g2 k v ρ10 σ18 hk hv ⟨w17, r1, r2, r3, r4, r5, r6, r7⟩
    obtain ⟨cell, hce, rfl⟩ : ∃ cell, H2[H1.length + k]? = some cell ∧ enc cell = v := by
      rw [List.getElem?_drop, List.getElem?_map, Option.map_eq_some_iff] at hv
      exact hv
    obtain ⟨t1, t2⟩ := cp.tail _ _ (Nat.le_add_right _ _) hce
    have fin : ∀ ρ : Rho, (ρ (Str.ofString "urn") = some (.ref W.U) ∧ ρ (Str.ofString "store") = some (.ref W.S.a) ∧ ρ (Str.ofString "cells") = some (.ref ca) ∧ ρ (Str.ofString "oldest") = some (.int Ho.length) ∧ ρ (Str.ofString "table") = some (.ref tb) ∧ ρ (Str.ofString "partner") = some (.ref pt) ∧ ρ (Str.ofString "length") = some (.int H1.length)) →
        Wd W H2 D [(b, .list ((H2.map enc).drop H1.length)), (pt, .idict (PT'.map encP)), (tb, .idict (T2.map encP)), (ca, .list (cs.map enc))] σ18 ∧ ρ (Str.ofString "urn") = some (.ref W.U) ∧ ρ (Str.ofString "store") = some (.ref W.S.a) ∧ ρ (Str.ofString "cells") = some (.ref ca) ∧ ρ (Str.ofString "oldest") = some (.int Ho.length) ∧
    ρ (Str.ofString "table") = some (.ref tb) ∧ ρ (Str.ofString "partner") = some (.ref pt) ∧ ρ (Str.ofString "length") = some (.int H1.length) := fun ρ h => ⟨w17, h⟩
    have okp : Cx.ok ((Cx.push ⟨B, A, gs', lawEnv L fa cd⟩ g).push g2) := Cx.ok.push (Cx.ok.push ok _) _
    repeat walk_at "e"
    refine WSS.one ?_
    refine WS.ifS (WT.or2 (WT.and2 ?_))
    repeat walk_at "e"
    refine iteB (fun h0 => ?_) (fun h0 => ?_)
    · repeat walk_at "e"
      refine iteB (fun h => absurd ⟨h0, h⟩ t1) (fun _ => ?_)
      repeat walk_at "e"
      refine W2.inTup2 okp.units ?_
      repeat walk_at "e"
      refine iteB (fun hin => ?_) (fun _ => ?_)
      · omega
      · repeat walk_at "e"
        exact fin _ ⟨by walk_at "lk", by walk_at "lk", by walk_at "lk", by walk_at "lk", by walk_at "lk", by walk_at "lk", by walk_at "lk"⟩
    · repeat walk_at "e"
      repeat walk_at "e"
      refine W2.inTup2 okp.units ?_
      repeat walk_at "e"
      refine iteB (fun hin => ?_) (fun _ => ?_)
      · have hcc : isCmp cell := hin.symm
        repeat walk_at "e"
        refine iteB (fun h => absurd ⟨hcc, h⟩ t2) (fun _ => ?_)
        repeat walk_at "e"
        exact fin _ ⟨by walk_at "lk", by walk_at "lk", by walk_at "lk", by walk_at "lk", by walk_at "lk", by walk_at "lk", by walk_at "lk"⟩
      · repeat walk_at "e"
        exact fin _ ⟨by walk_at "lk", by walk_at "lk", by walk_at "lk", by walk_at "lk", by walk_at "lk", by walk_at "lk", by walk_at "lk"⟩
  · rintro ρ10 σ18 ⟨w17, r1, r2, r3, r4, r5, r6, r7⟩
    repeat walk_at "e"
    refine ⟨by omega, T2, PT', H2, w17.tl, ⟨H2.drop Ho.length, ?_⟩, by omega, cp.tok, ckd.ptk, heq', r1, r2, r3, r4, r5, r6⟩
    have : H2.take Ho.length = Ho := by
      apply List.ext_getElem?
      intro p
      rw [List.getElem?_take]
      split
      · rename_i hp
        rw [List.getElem?_eq_getElem hp]
        exact cp.pre p _ (preO p _ (List.getElem?_eq_getElem hp))
      · rename_i hp
        rw [List.getElem?_eq_none (by omega)]
    exact (List.take_append_drop Ho.length H2).symm.trans (by rw [this])
theorem law_end {w : World} {s₁ : Shared} {mg mb : Str → Option Value} {p : Program} {loose : List Str} (KX : (hd.heap_1 w.params).In s₁.heap) (T : TopRead p loose mg mb s₁.heap) {sa : Addr} {vs : List Value} {ns : List Int} (hL : s₁.heap.IsList sa vs.toArray) (hI : IntsAre vs ns) (hc : ¬ ((63 : Int) < ns.length))
    {h₁ : Heap} {tk : Nat} {m : Str → Option Value} (F : Fr s₁.heap s₁.heap.objs.size h₁ m) (hm : m (Str.ofString "script") = some (.ref sa)) {fa : Addr} {cd : Value} {prog : Program} {Q : Flow → Shared → Prop} {E : Value → Shared → Prop}
    (hQ : ∀ s', (∀ b o, s₁.heap.get? b = some o → s'.heap.get? b = some o) → s'.os = s₁.os → s'.gens = s₁.gens → Q (.ret (.bool true)) s') :
    wpAny (model prog w) (callerA.deeper (lawEnv s₁.heap.objs.size fa cd)) (execs (bodyOf fd_law.1) (lawEnv s₁.heap.objs.size fa cd)) Q E { s₁ with heap := h₁, toks := tk } := by
  let B : Base := ⟨prog, w, hd.heap_1 w.params, s₁.heap, s₁, mg, mb, p, loose, KX, T⟩
  have hB : IsLaw B := rfl
  have r : Room (callerA.deeper (lawEnv s₁.heap.objs.size fa cd)) 10 := ⟨rfl, by show 1 + claimMargin + 1 + 10 < recursionLimit; decide +kernel, by show 4 + 3 + 4 * 10 + 100 < cLine; decide +kernel⟩
  have I : Inv B [(s₁.heap.objs.size, .frame (rho0 [Str.ofString "script"] [.raw (.ref sa)]))] (fun _ => none) { s₁ with heap := h₁, toks := tk } := by
    have I0 : Inv B [] (fun _ => none) s₁ := ⟨fun _ _ e => e, Nat.le_refl _, fun _ _ e => (nomatch e), fun _ e => (nomatch e), by simp, s₁.heap, s₁.toks, rfl⟩
    refine Inv.push I0 (Nat.le_refl _) F.keep ⟨m, F.ns, fun x v e => ?_⟩
    by_cases hx : x = Str.ofString "script"
    · subst hx
      rw [rho0_hit (by simp)] at e
      cases e
      exact ⟨_, hm, by simp [Rel]⟩
    · rw [rho0_miss hx] at e
      simp [rho0] at e
  have hb := law_body (B := B) hB (A := callerA.deeper (lawEnv s₁.heap.objs.size fa cd)) (gs' := []) (L := s₁.heap.objs.size) (fa := fa) (cd := cd) r hL hI (by lia)
  refine wpAny_mono (hb _ I) (fun f s' ⟨_, fl, ρ', σ', I', rf, q⟩ => ?_) fun _ _ z => z.elim
  subst q
  simp only [RelF, Rel] at rf
  obtain ⟨x, rfl, rfl⟩ := rf
  obtain ⟨h', tk', e⟩ := I'.sh
  exact hQ s' I'.base (by rw [e]) (by rw [e])
theorem law_holds.tw10983241140555628109 : True := trivial
theorem law_holds.tw11846676642670509255 : True := trivial
theorem law_holds.tw1414043511812021011 : True := trivial
theorem law_holds.tw14160533322030094474 : True := trivial
theorem law_holds.tw447027507633508388 : True := trivial
theorem law_holds.tw6860709855171689206 : True := trivial
theorem law_holds.tw9168033884955339765 : True := trivial
theorem law_holds.tw3974387499553966400 : True := trivial
theorem law_holds.tw9288214680346807717 : True := trivial
theorem law_holds.tw5950301352895977177 : True := trivial
theorem law_holds.tw10028117763298573888 : True := trivial
theorem law_holds.tw12847567107135931479 : True := trivial
theorem law_holds.tw2695550118857162214 : True := trivial
theorem law_holds.tw16805829885119392726 : True := trivial
theorem law_holds.tw3035144380315620824 : True := trivial
theorem law_holds.tw4992725456586698614 : True := trivial
theorem law_holds.tw8514742172934523775 : True := trivial
theorem law_holds.tw17934067817069507646 : True := trivial
theorem law_holds.tw7696488724909661519 : True := trivial
theorem law_holds.tw11097350217990362986 : True := trivial
theorem law_holds.tw3307954989432871184 : True := trivial
theorem law_holds.tw2503670479209048990 : True := trivial
theorem law_holds.tw1096898596823417342 : True := trivial
theorem law_holds.tw18326849912455186884 : True := trivial
theorem law_holds.tw3253568177066640346 : True := trivial
theorem law_holds.tw1784627337472249616 : True := trivial
theorem law_holds.tw16893121556090616931 : True := trivial
theorem law_holds.tw10007947361888340627 : True := trivial
theorem law_holds.tw14872900085578418628 : True := trivial
theorem law_holds.tw12481875629721207810 : True := trivial
theorem law_holds.tw14497384708736915567 : True := trivial
theorem law_holds.tw3756308257209627903 : True := trivial
theorem law_holds.tw18261290160731607033 : True := trivial
theorem law_holds.tw6727219029552735585 : True := trivial
theorem law_holds.tw2907507879108658156 : True := trivial
theorem law_holds.tw12134408205421670959 : True := trivial
theorem law_holds.tw7408472829698581751 : True := trivial
theorem law_holds.tw1341266762083198811 : True := trivial
theorem law_holds.tw7495221243884187115 : True := trivial
theorem law_holds.tw4524032621918665186 : True := trivial
theorem law_holds.tw8890443458166856008 : True := trivial
theorem law_holds.tw12459966957829302596 : True := trivial
theorem law_holds.tw8984152853971343422 : True := trivial
theorem law_holds.tw5045712524691215523 : True := trivial
theorem law_holds.tw17993387198741990920 : True := trivial
theorem law_holds.tw2090888555730037645 : True := trivial
theorem law_holds.tw12889056044993165476 : True := trivial
theorem law_holds.tw9889521400790421688 : True := trivial
theorem law_holds.tw10301956948240465243 : True := trivial
theorem law_holds.tw11133525997344109421 : True := trivial
theorem law_holds.tw6265907326580845545 : True := trivial
theorem law_holds.tw18388893480867403737 : True := trivial
theorem law_holds.tw7769649832755249146 : True := trivial
theorem law_holds.tw5858263632927829637 : True := trivial
theorem law_holds.tw5506821171919863439 : True := trivial
theorem law_holds.tw13397297893571687751 : True := trivial
theorem law_holds.tw6667284449218939238 : True := trivial
theorem law_holds.tw17713402740875732926 : True := trivial
theorem law_holds.tw11484002064277903863 : True := trivial
theorem law_holds.tw14774650325386425613 : True := trivial
theorem law_holds.tw1670043908289496885 : True := trivial
theorem law_holds.tw2269544990204364226 : True := trivial
theorem law_holds.tw179590077315354965 : True := trivial
theorem law_holds.tw6896717019858035522 : True := trivial
theorem law_holds.tw13429453918920967058 : True := trivial
theorem law_holds.tw15609566024721092083 : True := trivial
theorem law_holds.tw3850334171643177529 : True := trivial
theorem law_holds.tw9606376775287448836 : True := trivial
theorem law_holds.tw6746360682218282392 : True := trivial
theorem law_holds.tw1496123403401453975 : True := trivial
theorem law_holds.tw3186734533307500241 : True := trivial
theorem law_holds.tw12116493165278983582 : True := trivial
theorem law_holds.tw1031057903888850656 : True := trivial
theorem law_holds.tw1385162719727133579 : True := trivial
theorem law_holds.tw3329330481660614911 : True := trivial
theorem law_holds.tw5920216800500632969 : True := trivial
theorem law_holds.tw16461882675039125421 : True := trivial
theorem law_holds.tw8860054118572591635 : True := trivial
theorem law_holds.tw16009327648451700120 : True := trivial
theorem law_holds.tw907578622648922086 : True := trivial
theorem law_holds.tw15732109348078318572 : True := trivial
theorem law_holds.tw11690447701083486646 : True := trivial
theorem law_holds.tw13113305378903851012 : True := trivial
theorem law_holds.tw16760957895259694429 : True := trivial
theorem law_holds.tw15661869461025623997 : True := trivial
theorem law_holds.tw15726739188670627701 : True := trivial
theorem law_holds.tw2152083551845799040 : True := trivial
theorem law_holds.tw18090433342136740992 : True := trivial
theorem law_holds.tw13983371404066579822 : True := trivial
theorem law_holds.tw3776956092104397036 : True := trivial
theorem law_holds.tw15150646450996357022 : True := trivial
theorem law_holds.tw4581845663705801772 : True := trivial
theorem law_holds.tw9423440377400516374 : True := trivial
theorem law_holds.tw5769158387606399586 : True := trivial
theorem law_holds.tw11426015686315989412 : True := trivial
theorem law_holds.tw6499956759230125245 : True := trivial
theorem law_holds.tw11100686419730198450 : True := trivial
theorem law_holds.tw10829313771624777081 : True := trivial
theorem law_holds.tw10516828495840041881 : True := trivial
theorem law_holds.tw3682559726232862161 : True := trivial
theorem law_holds.tw15154110283740273250 : True := trivial
theorem law_holds.tw17923851452625207687 : True := trivial
theorem law_holds.tw14822640431511872941 : True := trivial
theorem law_holds.tw10222300733896627045 : True := trivial
theorem law_holds.tw8266603773606604290 : True := trivial
theorem law_holds.tw14925382992726071281 : True := trivial
theorem law_holds.tw18051328159682125866 : True := trivial
theorem law_holds.tw6507877686720480950 : True := trivial
theorem law_holds.tw15051740841830852519 : True := trivial
theorem law_holds.tw16935243356766158856 : True := trivial
theorem law_holds.tw4370086069003782432 : True := trivial
theorem law_holds.tw59864651932915081 : True := trivial
theorem law_holds.tw41732636909640268 : True := trivial
theorem law_holds.tw1762888911704233025 : True := trivial
theorem law_holds.tw16470317323979864763 : True := trivial
theorem law_holds.tw2618386414584295968 : True := trivial
theorem law_holds.tw11017292853192552079 : True := trivial
theorem law_holds.tw5389484754426515990 : True := trivial
theorem law_holds.tw8249079356659094474 : True := trivial
theorem law_holds.tw9849722394096787677 : True := trivial
theorem law_holds.tw12296726922439171297 : True := trivial
theorem law_holds.tw4889031023730116350 : True := trivial
theorem law_holds.tw13766487248619392586 : True := trivial
theorem law_holds.tw17253691774821329096 : True := trivial
theorem law_holds.tw15034731701347546215 : True := trivial
theorem law_holds.tw8857742495270377987 : True := trivial
theorem law_holds.tw1928719863018725356 : True := trivial
theorem law_holds.tw8570087061310353148 : True := trivial
theorem law_holds.tw10666784280354678857 : True := trivial
theorem law_holds.tw1053317679998426468 : True := trivial
theorem law_holds.tw2006301483956418059 : True := trivial
theorem law_holds.tw3850375180904979519 : True := trivial
theorem law_holds.tw2075624079617657780 : True := trivial
theorem law_holds.tw12149405283708829123 : True := trivial
theorem law_holds.tw9875236377963488844 : True := trivial
theorem law_holds.tw3494445600050047599 : True := trivial
theorem law_holds.tw10371022188087798493 : True := trivial
theorem law_holds.tw5455921660152230842 : True := trivial
theorem law_holds.tw11677100312832694166 : True := trivial
theorem law_holds.tw14789792462180790578 : True := trivial
theorem law_holds.tw3366817510852727610 : True := trivial
theorem law_holds.tw676263390381983339 : True := trivial
theorem law_holds.tw5117662029339320154 : True := trivial
theorem law_holds.tw11586273756423631628 : True := trivial
theorem law_holds.tw9779807473162285230 : True := trivial
theorem law_holds.tw11437619114101698056 : True := trivial
theorem law_holds.tw4441770287765753910 : True := trivial
theorem law_holds.tw12456547296908542839 : True := trivial
theorem law_holds.tw1819975233463548508 : True := trivial
theorem law_holds.tw13182730311906835528 : True := trivial
theorem law_holds.tw13220211186989608806 : True := trivial
theorem law_holds.tw17171095479747340766 : True := trivial
theorem law_holds.tw6677821561840896501 : True := trivial
theorem law_holds.tw3979707639553702691 : True := trivial
theorem law_holds.tw11625900857008200698 : True := trivial
theorem law_holds.tw602461330855297101 : True := trivial
theorem law_holds.tw16106779387088534511 : True := trivial
theorem law_holds.tw4037582482628031876 : True := trivial
theorem law_holds.tw699380112222796084 : True := trivial
theorem law_holds.tw7120836010843673076 : True := trivial
theorem law_holds.tw160851071654074740 : True := trivial
theorem law_holds.tw7404543985812422374 : True := trivial
theorem law_holds.tw13800757232730249582 : True := trivial
theorem law_holds.tw3742325753681652743 : True := trivial
theorem law_holds.tw17255088995462705879 : True := trivial
theorem law_holds.tw1689763614830377041 : True := trivial
theorem law_holds.tw575232530192455986 : True := trivial
theorem law_holds.tw10968802771074238664 : True := trivial
theorem law_holds.tw3943428198234077543 : True := trivial
theorem law_holds.tw11881114122080957857 : True := trivial
theorem law_holds.tw1909877003179415225 : True := trivial
theorem law_holds.tw10566571302883470556 : True := trivial
theorem law_holds.tw14354538779393863138 : True := trivial
theorem law_holds.tw15759456685926392790 : True := trivial
theorem law_holds.tw10817052189556005596 : True := trivial
theorem law_holds.tw14983226153234331074 : True := trivial
theorem law_holds.tw2055734563569237896 : True := trivial
theorem law_holds.tw13280740594461564331 : True := trivial
theorem law_holds.tw2856731137302751260 : True := trivial
theorem law_holds.tw13392613628428298086 : True := trivial
theorem law_holds.tw11966672015165255308 : True := trivial
theorem law_holds.tw6564709946809587534 : True := trivial
theorem law_holds.tw17180001009569633970 : True := trivial
theorem law_holds.tw10024239376800412576 : True := trivial
theorem law_holds.tw3896150654470677357 : True := trivial
theorem law_holds.tw8472228645029834797 : True := trivial
theorem law_holds.tw6911747868599837429 : True := trivial
theorem law_holds.tw7408322871517469003 : True := trivial
theorem law_holds.tw8957123355933967898 : True := trivial
theorem law_holds.tw16462895619179043833 : True := trivial
theorem law_holds.tw7472407996622490835 : True := trivial
theorem law_holds.tw10441050188594101415 : True := trivial
theorem law_holds.tw8970147916757833333 : True := trivial
theorem law_holds.tw3927331946688356228 : True := trivial
theorem law_holds.tw2102315897755806987 : True := trivial
theorem law_holds.tw16883458599210261866 : True := trivial
theorem law_holds.tw17345407343664743607 : True := trivial
theorem law_holds.tw16406091861079842607 : True := trivial
theorem law_holds.tw14498155544194170393 : True := trivial
theorem law_holds.tw6881874429007886204 : True := trivial
theorem law_holds.tw4072507727158212662 : True := trivial
theorem law_holds.tw11544315989524547432 : True := trivial
theorem law_holds.tw8441880690091102137 : True := trivial
theorem law_holds.tw13478230802861573701 : True := trivial
theorem law_holds.tw12889673554181485818 : True := trivial
theorem law_holds.tw14377833709258309704 : True := trivial
theorem law_holds.tw2578278018795888234 : True := trivial
theorem law_holds.tw11126432536435168541 : True := trivial
theorem law_holds.tw4008084134468147086 : True := trivial
theorem law_holds.tw850272041215511910 : True := trivial
theorem law_holds.tw8806649888931605024 : True := trivial
theorem law_holds.tw14571795756577361901 : True := trivial
theorem law_holds.tw9843604407834444796 : True := trivial
theorem law_holds.tw14289194402921355359 : True := trivial
theorem law_holds.tw5037970770195530229 : True := trivial
theorem law_holds.tw12645607732203181651 : True := trivial
theorem law_holds.tw4818577856007422655 : True := trivial
theorem law_holds.tw8909828626151137519 : True := trivial
theorem law_holds.tw16273140198857503625 : True := trivial
theorem law_holds.tw12780804625047726367 : True := trivial
theorem law_holds.tw18254337876149969668 : True := trivial
theorem law_holds.tw8481075993509181622 : True := trivial
theorem law_holds.tw10368410895845634921 : True := trivial
theorem law_holds.tw660297872995803996 : True := trivial
theorem law_holds.tw3005452535816212104 : True := trivial
theorem law_holds.tw4593294709026258786 : True := trivial
theorem law_holds.tw8040771413219435098 : True := trivial
theorem law_holds.tw15162217921772873613 : True := trivial
theorem law_holds.tw2175471002772951711 : True := trivial
theorem law_holds.tw653560878884961445 : True := trivial
theorem law_holds.tw6719018230134327050 : True := trivial
theorem law_holds.tw4916342969005030805 : True := trivial
theorem law_holds.tw14988988175077273356 : True := trivial
theorem law_holds.tw11182679623053108816 : True := trivial
theorem law_holds.tw12394330538082041428 : True := trivial
theorem law_holds.tw2143268655074302082 : True := trivial
theorem law_holds.tw5112083995522966620 : True := trivial
theorem law_holds.tw607667584577438428 : True := trivial
theorem law_holds.tw3910120701321347557 : True := trivial
theorem law_holds.tw13028658284911697911 : True := trivial
theorem law_holds.tw14883556706271630602 : True := trivial
theorem law_holds.tw12831907817818079685 : True := trivial
theorem law_holds.tw10242277825702978295 : True := trivial
theorem law_holds.tw718173064312146323 : True := trivial
theorem law_holds.tw17911580528928914924 : True := trivial
theorem law_holds.tw10486713781251687710 : True := trivial
theorem law_holds.tw4614512636035447770 : True := trivial
theorem law_holds.tw8634839017697508684 : True := trivial
theorem law_holds.tw5512074849013662287 : True := trivial
theorem law_holds.tw4515466672771955728 : True := trivial
theorem law_holds.tw9529696498207198238 : True := trivial
theorem law_holds.tw1832781179975386347 : True := trivial
theorem law_holds.tw15829985883664642994 : True := trivial
theorem law_holds.tw3850404396616230974 : True := trivial
theorem law_holds.tw8835965917227929528 : True := trivial
theorem law_holds.tw7356724547972884604 : True := trivial
theorem law_holds.tw908389787484368193 : True := trivial
theorem law_holds.tw10108825076125807744 : True := trivial
theorem law_holds.tw3046938939346580660 : True := trivial
theorem law_holds.tw11330957891505755796 : True := trivial
theorem law_holds.tw2136269947727277649 : True := trivial
theorem law_holds.tw8666519363043736892 : True := trivial
theorem law_holds.tw1973129929022764952 : True := trivial
theorem law_holds.tw8386679336120195906 : True := trivial
theorem law_holds.tw6861490101519172755 : True := trivial
theorem law_holds.tw8191475993861738794 : True := trivial
theorem law_holds.tw13154458805202713791 : True := trivial
theorem law_holds.tw5451054884063135654 : True := trivial
theorem law_holds.tw1773585624013562120 : True := trivial
theorem law_holds.tw11946340739361827192 : True := trivial
theorem law_holds.tw17499823404086765753 : True := trivial
theorem law_holds.tw13958071646730322851 : True := trivial
theorem law_holds.tw5989267464594152519 : True := trivial
theorem law_holds.tw13276130131300722947 : True := trivial
theorem law_holds.tw6544857814315514376 : True := trivial
theorem law_holds.tw3882201998751590657 : True := trivial
theorem law_holds.tw8854015012368427407 : True := trivial
theorem law_holds.tw3136910860242942599 : True := trivial
theorem law_holds.tw11223184984439025696 : True := trivial
theorem law_holds.tw15617896438947887921 : True := trivial
theorem law_holds.tw1791086108937442324 : True := trivial
theorem law_holds.tw194939583717160490 : True := trivial
theorem law_holds.tw8984712037535005518 : True := trivial
theorem law_holds.tw2558664710541493025 : True := trivial
theorem law_holds.tw8652346329174877282 : True := trivial
theorem law_holds.tw13650905803964671038 : True := trivial
theorem law_holds.tw16074064945343616743 : True := trivial
theorem law_holds.tw1622690429015379626 : True := trivial
theorem law_holds.tw3390839446522356110 : True := trivial
theorem law_holds.tw7311554392007033315 : True := trivial
theorem law_holds.tw11404014056486942332 : True := trivial
theorem law_holds.tw17899081815984039989 : True := trivial
theorem law_holds.tw7304591109411159013 : True := trivial
theorem law_holds.tw14904137174637212347 : True := trivial
theorem law_holds.tw10841264019214440115 : True := trivial
theorem law_holds.tw4146061822495498468 : True := trivial
theorem law_holds.tw15140378357190847165 : True := trivial
theorem law_holds.tw6776455111828631412 : True := trivial
theorem law_holds.tw13468313569152143045 : True := trivial
theorem law_holds.tw5212653520564569363 : True := trivial
theorem law_holds.tw17974257514489008736 : True := trivial
theorem law_holds.tw5731563423909890137 : True := trivial
theorem law_holds.tw4439653461905209652 : True := trivial
theorem law_holds.tw10296202853966499060 : True := trivial
theorem law_holds.tw123295346585929383 : True := trivial
theorem law_holds.tw10609929442622069884 : True := trivial
theorem law_holds.tw9207643191828677137 : True := trivial
theorem law_holds.tw6709271908398517637 : True := trivial
theorem law_holds.tw16563099163409725306 : True := trivial
theorem law_holds.tw15191720212996534143 : True := trivial
theorem law_holds.tw2644310842459337959 : True := trivial
theorem law_holds.tw13402424001964919149 : True := trivial
theorem law_holds.tw8090398218944221479 : True := trivial
theorem law_holds.tw14746732674962391887 : True := trivial
theorem law_holds.tw5640673133297012132 : True := trivial
theorem law_holds.tw3028213030429885723 : True := trivial
theorem law_holds.tw14828999820898988419 : True := trivial
theorem law_holds.tw14646867148444618371 : True := trivial
theorem law_holds.tw13336368349410954346 : True := trivial
theorem law_holds.tw17274716441693411508 : True := trivial
theorem law_holds.tw498061464947678834 : True := trivial
theorem law_holds.tw12291295341487003417 : True := trivial
theorem law_holds.tw10465528174321978529 : True := trivial
theorem law_holds.tw1258919526383655059 : True := trivial
theorem law_holds.tw15352839923633478061 : True := trivial
theorem law_holds.tw15293083901398250104 : True := trivial
theorem law_holds.tw9992725586745946429 : True := trivial
theorem law_holds.tw445335354869643106 : True := trivial
theorem law_holds.tw10442559174759676424 : True := trivial
theorem law_holds.tw14991590004735058009 : True := trivial
theorem law_holds.tw13281950902743806629 : True := trivial
theorem law_holds.tw8790382262760724670 : True := trivial
theorem law_holds.tw3033269912633744064 : True := trivial
theorem law_holds.tw3912811242725288453 : True := trivial
theorem law_holds.tw14997073306097389879 : True := trivial
theorem law_holds.tw14596297492920191028 : True := trivial
theorem law_holds.tw16098122237329998606 : True := trivial
theorem law_holds.tw12977093529070104392 : True := trivial
theorem law_holds.tw7185456241796803578 : True := trivial
theorem law_holds.tw15694993059591697976 : True := trivial
theorem law_holds.tw8330938851228082562 : True := trivial
theorem law_holds.tw1710076424337546998 : True := trivial
theorem law_holds.tw1685627985566243432 : True := trivial
theorem law_holds.tw5062152199769849712 : True := trivial
theorem law_holds.tw2322801206320994539 : True := trivial
theorem law_holds.tw1550374771381668074 : True := trivial
theorem law_holds.tw14335913921861858828 : True := trivial
theorem law_holds.tw12622292602297523153 : True := trivial
theorem law_holds.tw8176227357466254829 : True := trivial
theorem law_holds.tw8763168800255643514 : True := trivial
theorem law_holds.tw1560488128467205805 : True := trivial
theorem law_holds.tw5898729028444588960 : True := trivial
theorem law_holds.tw10093380194815717143 : True := trivial
theorem law_holds.tw2139172203440323022 : True := trivial
theorem law_holds.tw11609493526922420660 : True := trivial
theorem law_holds.tw11924911360389889469 : True := trivial
theorem law_holds.tw5364902710198789758 : True := trivial
theorem law_holds.tw8804120190785687885 : True := trivial
theorem law_holds.tw16836969012518115619 : True := trivial
theorem law_holds.tw12476058986133298565 : True := trivial
theorem law_holds.tw14051398506283589457 : True := trivial
theorem law_holds.tw1778412455037948541 : True := trivial
theorem law_holds.tw3572487005457819259 : True := trivial
theorem law_holds.tw9682718004065560343 : True := trivial
theorem law_holds.tw11098625913536864229 : True := trivial
theorem law_holds.tw10876394233666535175 : True := trivial
theorem law_holds.tw15802469936163623734 : True := trivial
theorem law_holds.tw8785698371604719795 : True := trivial
theorem law_holds.tw12342728606916771844 : True := trivial
theorem law_holds.tw15527639110640922598 : True := trivial
theorem law_holds.tw17865009358878524859 : True := trivial
theorem law_holds.tw4995542688137877417 : True := trivial
theorem law_holds.tw13190408463805328480 : True := trivial
theorem law_holds.tw2903333896348957400 : True := trivial
theorem law_holds.tw8553002610548859549 : True := trivial
theorem law_holds.tw16190678330180157336 : True := trivial
theorem law_holds.tw8715444014776630742 : True := trivial
theorem law_holds.tw10726639523019406850 : True := trivial
theorem law_holds.tw15448297888555860652 : True := trivial
theorem law_holds.tw724200737284857819 : True := trivial
theorem law_holds.tw4464252984393422682 : True := trivial
theorem law_holds.tw11764581739189218997 : True := trivial
theorem law_holds.tw4273555757443719353 : True := trivial
theorem law_holds.tw1285599515219305098 : True := trivial
theorem law_holds.tw11795792742502079742 : True := trivial
theorem law_holds.tw1335265377702380343 : True := trivial
theorem law_holds.tw17028624522117568015 : True := trivial
theorem law_holds.tw11289095316329951393 : True := trivial
theorem law_holds.tw11946022803392826334 : True := trivial
theorem law_holds.tw13250372474279835810 : True := trivial
theorem law_holds.tw7820799176418779761 : True := trivial
theorem law_holds.tw13780023080261437657 : True := trivial
theorem law_holds.tw3956099054510807996 : True := trivial
theorem law_holds.tw17237755526102222789 : True := trivial
theorem law_holds.tw3959601488294255719 : True := trivial
theorem law_holds.tw6629495429873386292 : True := trivial
theorem law_holds.tw16873799427995575018 : True := trivial
theorem law_holds.tw576407869801174206 : True := trivial
theorem law_holds.tw11097158420108258118 : True := trivial
theorem law_holds.tw455179833554555240 : True := trivial
theorem law_holds.tw3756957479349018193 : True := trivial
theorem law_holds.tw13709617746848070560 : True := trivial
theorem law_holds.tw3595789414353437717 : True := trivial
theorem law_holds.tw7407239408455114201 : True := trivial
theorem law_holds.tw11470271118054631628 : True := trivial
theorem law_holds.tw15806970514647361693 : True := trivial
theorem law_holds.tw16099233806120587224 : True := trivial
theorem law_holds.tw17942709131360195518 : True := trivial
theorem law_holds.tw5274592661964301406 : True := trivial
theorem law_holds.tw3955097671198598788 : True := trivial
theorem law_holds.tw10350734228115807855 : True := trivial
theorem law_holds.tw18269650602155537469 : True := trivial
theorem law_holds.tw12732824653754844360 : True := trivial
theorem law_holds.tw7497986649931050792 : True := trivial
theorem law_holds.tw8369274380968253667 : True := trivial
theorem law_holds.tw9069877914133315304 : True := trivial
theorem law_holds.tw981846192996546977 : True := trivial
theorem law_holds.tw302768837105346163 : True := trivial
theorem law_holds.tw2295933128562542503 : True := trivial
theorem law_holds.tw6189876280036216102 : True := trivial
theorem law_holds.tw7604666192120794032 : True := trivial
theorem law_holds.tw9255152265573255198 : True := trivial
theorem law_holds.tw7566432030715092817 : True := trivial
theorem law_holds.tw15544829507116839252 : True := trivial
theorem law_holds.tw12835091436910803158 : True := trivial
theorem law_holds.tw3158129796062787159 : True := trivial
theorem law_holds.tw1035469204868569938 : True := trivial
theorem law_holds.tw16614716721108272449 : True := trivial
theorem law_holds.tw745255978533919091 : True := trivial
theorem law_holds.tw10362271348294423435 : True := trivial
theorem law_holds.tw12115171985352901274 : True := trivial
theorem law_holds.tw14892801356780361778 : True := trivial
theorem law_holds.tw5914491427308094424 : True := trivial
theorem law_holds.tw12419048959643632839 : True := trivial
theorem law_holds.tw13882729330811710610 : True := trivial
theorem law_holds.tw4030767218360268280 : True := trivial
theorem law_holds.tw13087128984098923117 : True := trivial
theorem law_holds.tw11347954631545130290 : True := trivial
theorem law_holds.tw14390095281932903014 : True := trivial
theorem law_holds.tw2387193687640843687 : True := trivial
theorem law_holds.tw13190703287169160282 : True := trivial
theorem law_holds.tw16978406815995349258 : True := trivial
theorem law_holds.tw12687621791434340054 : True := trivial
theorem law_holds.tw16381176275627223697 : True := trivial
theorem law_holds.tw6723812968561706957 : True := trivial
theorem law_holds.tw6064877940710918222 : True := trivial
theorem law_holds.tw11803358882649189518 : True := trivial
theorem law_holds.tw1172607208729018732 : True := trivial
theorem law_holds.tw7636989558263936852 : True := trivial
theorem law_holds.tw5907203647135998699 : True := trivial
set_option Elab.async true
theorem law_holds : PySem.Challenge.rw_rr0024_01.Holds := by
  w_on; o_law; k_head; (case hw => w_witness2)
  w_strict (
    k_go0
    refine law_end (by assumption) (topRead_of (by assumption)) (by assumption) (by assumption) (by assumption) (by assumption) (by rfl) ?_
    intro s' h1 h2 h3
    refine ⟨.inl ⟨.bool true, .bool true, [], rfl, ?_, .bool true, ?_, ?_⟩, h1, h2, ?_⟩
    · intro cls; rfl
    · first | kernel_rfl | with_unfolding_all rfl | simp
    · intro _; exact ⟨by simp, by simp⟩
    · rw [h3]; assumption)
end Mine
set_option maxRecDepth 100000 in
set_option maxHeartbeats 8000000 in
theorem PySem.Challenge.cw_rr0024_01_holds : PySem.Challenge.rw_rr0024_01.Holds := by
  exact Mine.law_holds
