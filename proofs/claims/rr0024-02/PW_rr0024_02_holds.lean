import PyProof.Rows.All
import Wide.All
import OpenK.AllK
import Wide.FinOn
import KE.KEqDict
import PySem.Challenge.RW_rr0024_02
open PySem PySem.W PySem.Calls PyProof.Rows
set_option Elab.async false
set_option maxRecDepth 100000
set_option linter.unusedVariables false
set_option maxHeartbeats 8000000
namespace Mine
section
local macro_rules | `(tactic| o_head $_) => `(tactic| (exact And.right (a := PySem.Challenge.rw_rr0024_02.wellSaid = true) (by assumption)))
theorem hd (h : PySem.Challenge.rw_rr0024_02.Holds) : PySem.Challenge.rw_rr0024_02.Holds := by
  refine ⟨h.1, ?_⟩
  w_on; k_head
end
example : (PySem.Challenge.rw_rr0024_02 = PySem.Challenge.rw_rr0024_02) ∧ (hd.heap_1 = hd.heap_1) := by k_fill; exact ⟨rfl, rfl⟩
inductive V where
  | none
  | bool (b : Bool)
  | int (i : Int)
  | str (s : Str)
  | tup (l : List V)
  | ref (a : Addr)
  | raw (x : Value)

mutual
def Rel (h : Heap) : V → Value → Prop
  | .none, x => x = .none
  | .bool b, x => x = .bool b
  | .int i, x => ∃ t, x = .int i t
  | .str s, x => ∃ t, x = .str s t
  | .tup l, x => ∃ a xs, x = .ref a ∧ IsTup h a xs ∧ Rels h l xs.toList
  | .ref a, x => x = .ref a
  | .raw y, x => x = y
def Rels (h : Heap) : List V → List Value → Prop
  | [], [] => True
  | v :: l, x :: xs => Rel h v x ∧ Rels h l xs
  | _, _ => False
end

def Stab (h h' : Heap) : Prop := ∀ a xs, IsTup h a xs → IsTup h' a xs
theorem Stab.refl (h : Heap) : Stab h h := fun _ _ x => x
theorem Stab.trans {h₁ h₂ h₃ : Heap} (a : Stab h₁ h₂) (b : Stab h₂ h₃) : Stab h₁ h₃ := fun c xs x => b c xs (a c xs x)

mutual
theorem Rel.stab {h h' : Heap} (st : Stab h h') : ∀ {v : V} {x : Value}, Rel h v x → Rel h' v x
  | .none, _, r => by simpa [Rel] using r
  | .bool _, _, r => by simpa [Rel] using r
  | .int _, _, r => by simpa [Rel] using r
  | .str _, _, r => by simpa [Rel] using r
  | .tup l, x, r => by
    simp only [Rel] at r ⊢
    obtain ⟨a, xs, e, t, rs⟩ := r
    exact ⟨a, xs, e, st _ _ t, Rels.stab st rs⟩
  | .ref _, _, r => by simpa [Rel] using r
  | .raw _, _, r => by simpa [Rel] using r
theorem Rels.stab {h h' : Heap} (st : Stab h h') : ∀ {l : List V} {xs : List Value}, Rels h l xs → Rels h' l xs
  | [], [], _ => by simp [Rels]
  | [], _ :: _, r => by simp [Rels] at r
  | _ :: _, [], r => by simp [Rels] at r
  | v :: l, x :: xs, r => by
    simp only [Rels] at r ⊢
    exact ⟨Rel.stab st r.1, Rels.stab st r.2⟩
end

theorem Rels.length {h : Heap} : ∀ {l : List V} {xs : List Value}, Rels h l xs → l.length = xs.length
  | [], [], _ => rfl
  | [], _ :: _, r => by simp [Rels] at r
  | _ :: _, [], r => by simp [Rels] at r
  | v :: l, x :: xs, r => by simp only [Rels] at r; simp [Rels.length r.2]
theorem Rels.get {h : Heap} : ∀ {l : List V} {xs : List Value}, Rels h l xs → ∀ {i : Nat} {v : V}, l[i]? = some v → ∃ x, xs[i]? = some x ∧ Rel h v x
  | [], [], _, i, v, e => by simp at e
  | [], _ :: _, r, _, _, _ => by simp [Rels] at r
  | _ :: _, [], r, _, _, _ => by simp [Rels] at r
  | v :: l, x :: xs, r, 0, w, e => by simp only [Rels] at r; simp at e; subst e; exact ⟨x, rfl, r.1⟩
  | v :: l, x :: xs, r, i + 1, w, e => by simp only [Rels] at r; simpa using Rels.get r.2 (by simpa using e)
theorem Rels.append {h : Heap} : ∀ {l l' : List V} {xs xs' : List Value}, Rels h l xs → Rels h l' xs' → Rels h (l ++ l') (xs ++ xs')
  | [], _, [], _, _, r' => r'
  | [], _, _ :: _, _, r, _ => by simp [Rels] at r
  | _ :: _, _, [], _, r, _ => by simp [Rels] at r
  | v :: l, _, x :: xs, _, r, r' => by simp only [Rels, List.cons_append] at r ⊢; exact ⟨r.1, Rels.append r.2 r'⟩
theorem Rels.set {h : Heap} {v : V} {x : Value} (r0 : Rel h v x) : ∀ {l : List V} {xs : List Value}, Rels h l xs → ∀ (i : Nat), Rels h (l.set i v) (xs.set i x)
  | [], [], _, i => by simp [Rels]
  | [], _ :: _, r, _ => by simp [Rels] at r
  | _ :: _, [], r, _ => by simp [Rels] at r
  | _ :: _, _ :: _, r, 0 => by simp only [Rels, List.set_cons_zero] at r ⊢; exact ⟨r0, r.2⟩
  | _ :: _, _ :: _, r, i + 1 => by simp only [Rels, List.set_cons_succ] at r ⊢; exact ⟨r.1, Rels.set r0 r.2 i⟩
theorem Rels.take {h : Heap} : ∀ {l : List V} {xs : List Value}, Rels h l xs → ∀ (i : Nat), Rels h (l.take i) (xs.take i)
  | [], [], _, i => by simp [Rels]
  | [], _ :: _, r, _ => by simp [Rels] at r
  | _ :: _, [], r, _ => by simp [Rels] at r
  | _ :: _, _ :: _, r, 0 => by simp [Rels]
  | _ :: _, _ :: _, r, i + 1 => by simp only [Rels, List.take_succ_cons] at r ⊢; exact ⟨r.1, Rels.take r.2 i⟩
theorem Rels.drop {h : Heap} : ∀ {l : List V} {xs : List Value}, Rels h l xs → ∀ (i : Nat), Rels h (l.drop i) (xs.drop i)
  | [], [], _, i => by simp [Rels]
  | [], _ :: _, r, _ => by simp [Rels] at r
  | _ :: _, [], r, _ => by simp [Rels] at r
  | _ :: _, _ :: _, r, 0 => by simpa using r
  | _ :: _, _ :: _, r, i + 1 => by simp only [Rels, List.drop_succ_cons] at r ⊢; exact Rels.drop r.2 i
theorem Rels.one {h : Heap} {v : V} {x : Value} (r : Rel h v x) : Rels h [v] [x] := by simp [Rels, r]

def All2 {α β : Type} (R : α → β → Prop) : List α → List β → Prop
  | [], [] => True
  | a :: l, b :: m => R a b ∧ All2 R l m
  | _, _ => False
theorem All2.mono {α β : Type} {R S : α → β → Prop} (f : ∀ a b, R a b → S a b) : ∀ {l : List α} {m : List β}, All2 R l m → All2 S l m
  | [], [], _ => trivial
  | [], _ :: _, r => r.elim
  | _ :: _, [], r => r.elim
  | _ :: _, _ :: _, r => ⟨f _ _ r.1, All2.mono f r.2⟩
theorem All2.length {α β : Type} {R : α → β → Prop} : ∀ {l : List α} {m : List β}, All2 R l m → l.length = m.length
  | [], [], _ => rfl
  | [], _ :: _, r => r.elim
  | _ :: _, [], r => r.elim
  | _ :: _, _ :: _, r => by simp [All2.length r.2]
theorem All2.append {α β : Type} {R : α → β → Prop} : ∀ {l l' : List α} {m m' : List β}, All2 R l m → All2 R l' m' → All2 R (l ++ l') (m ++ m')
  | [], _, [], _, _, r' => r'
  | [], _, _ :: _, _, r, _ => r.elim
  | _ :: _, _, [], _, r, _ => r.elim
  | _ :: _, _, _ :: _, _, r, r' => ⟨r.1, All2.append r.2 r'⟩
theorem All2.map {α β α' β' : Type} {R : α → β → Prop} {S : α' → β' → Prop} {f : α → α'} {g : β → β'} (h : ∀ a b, R a b → S (f a) (g b)) : ∀ {l : List α} {m : List β}, All2 R l m → All2 S (l.map f) (m.map g)
  | [], [], _ => trivial
  | [], _ :: _, r => r.elim
  | _ :: _, [], r => r.elim
  | _ :: _, _ :: _, r => ⟨h _ _ r.1, All2.map h r.2⟩

theorem list1 {α : Type} : ∀ {l : List α}, l.length = 1 → ∃ x, l = [x]
  | [x], _ => ⟨x, rfl⟩
theorem list2 {α : Type} : ∀ {l : List α}, l.length = 2 → ∃ x y, l = [x, y]
  | [x, y], _ => ⟨x, y, rfl⟩
/-- what an address bears -/
inductive O where
  | list (l : List V)
  | idict (l : List (Int × V))
  | sdict (l : List (Str × V))
  | tdict (l : List (List Int × V))
  | inst (C d : Addr)
  | frame (ρ : Str → Option V)
  | pred (P : Obj → Prop)
  | cell (v : Option Addr)

abbrev Sg := Addr → Option O
noncomputable def upd (σ : Sg) (a : Addr) (o : O) : Sg := fun b => if b = a then some o else σ b
theorem upd_same (σ : Sg) (a : Addr) (o : O) : upd σ a o a = some o := by simp [upd]
theorem upd_ne (σ : Sg) {a b : Addr} (o : O) (h : b ≠ a) : upd σ a o b = σ b := by simp [upd, h]
theorem upd_upd (σ : Sg) (a : Addr) (o o' : O) : upd (upd σ a o) a o' = upd σ a o' := by
  funext b; by_cases h : b = a <;> simp [upd, h]

def ORel (prog : Program) (w : World) (h : Heap) (a : Addr) : O → Prop
  | .list l => ∃ (xs : List Value) (n : Nat), IsL h a xs.toArray n ∧ Rels h l xs
  | .idict l => ∃ kvs : List (Int × Value), h.DictOf (intKind prog w) a kvs ∧ All2 (fun p q => p.1 = q.1 ∧ Rel h p.2 q.2) l kvs
  | .sdict l => ∃ kvs : List (Str × Value), h.DictOf (strKind prog w) a kvs ∧ All2 (fun p q => p.1 = q.1 ∧ Rel h p.2 q.2) l kvs
  | .tdict l => ∃ xs : List (List Int × Addr × Value), h.DictOfH (tupleKind (intKind prog w)) a xs ∧ All2 (fun p q => p.1 = q.1 ∧ Rel h p.2 q.2.2) l xs
  | .inst C d => h.get? a = some (instObj C d)
  | .frame ρ => ∃ m, h.Ns a m ∧ ∀ x v, ρ x = some v → ∃ y, m x = some y ∧ Rel h v y
  | .pred P => ∃ o, h.get? a = some o ∧ P o ∧ o.cls ≠ .type "tuple"
  | .cell v => ∃ o, h.get? a = some o ∧ o.data = .cell (v.map Value.ref)

theorem ORel.notTup {prog : Program} {w : World} {h : Heap} {a : Addr} {o : O} (r : ORel prog w h a o) (xs : Array Value) : ¬ IsTup h a xs := by
  rintro ⟨ob, ho, hc, n, hd⟩
  cases o with
  | list l => obtain ⟨ys, n, ho', _⟩ := r; unfold IsL at ho'; rw [ho] at ho'; cases ho'; simp at hc
  | idict l => obtain ⟨ys, ⟨o', _, _, ho', hc', _⟩, _⟩ := r; rw [ho] at ho'; cases ho'; have := hc'.1; rw [hc] at this; simp at this
  | sdict l => obtain ⟨ys, ⟨o', _, _, ho', hc', _⟩, _⟩ := r; rw [ho] at ho'; cases ho'; have := hc'.1; rw [hc] at this; simp at this
  | tdict l => obtain ⟨ys, ⟨o', _, _, ho', hc', _⟩, _⟩ := r; rw [ho] at ho'; cases ho'; have := hc'.1; rw [hc] at this; simp at this
  | inst C d => have r' : h.get? a = some (instObj C d) := r; rw [ho] at r'; cases r'; simp at hc
  | frame ρ => obtain ⟨m, ⟨o', _, _, ho', hd', _⟩, _⟩ := r; rw [ho] at ho'; cases ho'; rw [hd] at hd'; cases hd'
  | pred P => obtain ⟨o', ho', _, hc'⟩ := r; rw [ho] at ho'; cases ho'; exact hc' hc
  | cell v => obtain ⟨o', ho', hd'⟩ := r; rw [ho] at ho'; cases ho'; rw [hd] at hd'; cases hd'

theorem stab_of_ext {prog : Program} {w : World} {h h' : Heap} {a : Addr} {o : O} (r : ORel prog w h a o) (x : Heap.ExtBut a h h') : Stab h h' := fun b xs t => by
  have hb : b ≠ a := by rintro rfl; exact r.notTup xs t
  exact t.extBut x hb
theorem stab_of_keep {h h' : Heap} (k : ∀ b o, h.get? b = some o → h'.get? b = some o) : Stab h h' := fun _ _ t => t.keeps k

theorem ORel.move {prog : Program} {w : World} {h h' : Heap} {b : Addr} {o : O} (r : ORel prog w h b o) (k : ∀ ob, h.get? b = some ob → h'.get? b = some ob) (st : Stab h h') : ORel prog w h' b o := by
  cases o with
  | list l => obtain ⟨xs, n, ho, rs⟩ := r; exact ⟨xs, n, k _ ho, rs.stab st⟩
  | idict l => obtain ⟨xs, ⟨o, es, ep, ho, r1⟩, rs⟩ := r; exact ⟨xs, ⟨o, es, ep, k _ ho, r1⟩, rs.mono fun _ _ z => ⟨z.1, z.2.stab st⟩⟩
  | sdict l => obtain ⟨xs, ⟨o, es, ep, ho, r1⟩, rs⟩ := r; exact ⟨xs, ⟨o, es, ep, k _ ho, r1⟩, rs.mono fun _ _ z => ⟨z.1, z.2.stab st⟩⟩
  | tdict l =>
    obtain ⟨xs, ⟨o, es, ep, ho, h1, h2, h3, h4, h5⟩, rs⟩ := r
    refine ⟨xs, ⟨o, es, ep, k _ ho, h1, h2, h3, fun x hx => ?_, h5⟩, rs.mono fun _ _ z => ⟨z.1, z.2.stab st⟩⟩
    obtain ⟨ok, items, n, g1, g2, g3, g4⟩ := h4 x hx
    obtain ⟨ok', g1', g2', n', g3'⟩ := st _ items ⟨ok, g1, g2, n, g3⟩
    exact ⟨ok', items, n', g1', g2', g3', g4⟩
  | inst C d => exact k _ r
  | frame ρ => obtain ⟨m, hn, hm⟩ := r; exact ⟨m, hn.at k, fun x v e => let ⟨y, e1, e2⟩ := hm x v e; ⟨y, e1, e2.stab st⟩⟩
  | pred P => obtain ⟨o, ho, r⟩ := r; exact ⟨o, k _ ho, r⟩
  | cell v => obtain ⟨o, ho, r⟩ := r; exact ⟨o, k _ ho, r⟩

theorem ORel.lt {prog : Program} {w : World} {h : Heap} {b : Addr} {o : O} (r : ORel prog w h b o) : b < h.objs.size := by
  cases o with
  | list l => obtain ⟨xs, n, ho, _⟩ := r; exact Heap.lt_size ho
  | idict l => obtain ⟨xs, ⟨o, es, ep, ho, r1⟩, rs⟩ := r; exact Heap.lt_size ho
  | sdict l => obtain ⟨xs, ⟨o, es, ep, ho, r1⟩, rs⟩ := r; exact Heap.lt_size ho
  | tdict l => obtain ⟨xs, ⟨o, es, ep, ho, r1⟩, rs⟩ := r; exact Heap.lt_size ho
  | inst C d => exact Heap.lt_size r
  | frame ρ => obtain ⟨m, hn, hm⟩ := r; exact hn.lt
  | pred P => obtain ⟨o, ho, r⟩ := r; exact Heap.lt_size ho
  | cell v => obtain ⟨o, ho, r⟩ := r; exact Heap.lt_size ho

structure Base where
  prog : Program
  w : World
  K : Frag
  h₀ : Heap
  s₀ : Shared
  mg : Str → Option Value
  mb : Str → Option Value
  p : Program
  loose : List Str
  X : K.In h₀
  T : TopRead p loose mg mb h₀

structure Inv (B : Base) (gs : List (Addr × O)) (σ : Sg) (s : Shared) : Prop where
  base : ∀ b o, B.h₀.get? b = some o → s.heap.get? b = some o
  size : B.h₀.objs.size ≤ s.heap.objs.size
  objs : ∀ a o, σ a = some o → ORel B.prog B.w s.heap a o ∧ B.h₀.objs.size ≤ a
  hid : ∀ p ∈ gs, ORel B.prog B.w s.heap p.1 p.2 ∧ B.h₀.objs.size ≤ p.1 ∧ σ p.1 = none
  nd : (gs.map (·.1)).Nodup
  sh : ∃ h tk, s = { B.s₀ with heap := h, toks := tk }

section
variable {B : Base} {gs : List (Addr × O)} {σ : Sg} {s : Shared} {h' : Heap} {a : Addr} {o o' : O} {tk : Nat}

theorem Inv.sh' (I : Inv B gs σ s) (h' : Heap) (tk : Nat) : ∃ h t, ({ s with heap := h', toks := tk } : Shared) = { B.s₀ with heap := h, toks := t } := by
  obtain ⟨h, t, rfl⟩ := I.sh
  exact ⟨h', tk, rfl⟩

theorem Inv.keep (I : Inv B gs σ s) (k : ∀ b o, s.heap.get? b = some o → h'.get? b = some o) (hz : s.heap.objs.size ≤ h'.objs.size) : Inv B gs σ { s with heap := h', toks := tk } :=
  ⟨fun b o e => k _ _ (I.base b o e), Nat.le_trans I.size hz, fun a o e => ⟨(I.objs a o e).1.move (fun _ => k _ _) (stab_of_keep k), (I.objs a o e).2⟩,
    fun p hp => ⟨(I.hid p hp).1.move (fun _ => k _ _) (stab_of_keep k), (I.hid p hp).2⟩, I.nd, I.sh' _ _⟩

theorem Inv.toks (I : Inv B gs σ s) : Inv B gs σ { s with toks := tk } := by
  have := I.keep (h' := s.heap) (tk := tk) (fun _ _ e => e) (Nat.le_refl _)
  exact this

theorem Inv.base_ne (_I : Inv B gs σ s) {b : Addr} {ob : Obj} (hb : B.h₀.objs.size ≤ a) (e : B.h₀.get? b = some ob) : b ≠ a := by
  rintro rfl
  exact absurd (Heap.lt_size e) (Nat.not_lt.mpr hb)

/-- an object of σ turned -/
theorem Inv.mut (I : Inv B gs σ s) (ho : σ a = some o) (x : Heap.ExtBut a s.heap h') (r : ORel B.prog B.w h' a o') : Inv B gs (upd σ a o') { s with heap := h', toks := tk } := by
  have st := stab_of_ext (I.objs a o ho).1 x
  have hb := (I.objs a o ho).2
  refine ⟨fun b ob e => x b ob (I.base_ne hb e) (I.base b ob e), Nat.le_of_lt (Nat.lt_of_le_of_lt hb r.lt), fun b ob e => ?_, fun p hp => ?_, I.nd, I.sh' _ _⟩
  · by_cases h : b = a
    · subst h; rw [upd_same] at e; cases e; exact ⟨r, hb⟩
    · rw [upd_ne _ _ h] at e
      exact ⟨(I.objs b ob e).1.move (fun ob' => x b ob' h) st, (I.objs b ob e).2⟩
  · have H := I.hid p hp
    have h : p.1 ≠ a := by intro q; rw [q, ho] at H; exact nomatch H.2.2
    exact ⟨H.1.move (fun ob' => x _ ob' h) st, H.2.1, by rw [upd_ne _ _ h]; exact H.2.2⟩

/-- the first hidden object turned -/
theorem Inv.mutHid {gs : List (Addr × O)} (I : Inv B ((a, o) :: gs) σ s) (x : Heap.ExtBut a s.heap h') (r : ORel B.prog B.w h' a o') : Inv B ((a, o') :: gs) σ { s with heap := h', toks := tk } := by
  have H := I.hid _ (.head _)
  have st := stab_of_ext H.1 x
  refine ⟨fun b ob e => x b ob (I.base_ne H.2.1 e) (I.base b ob e), Nat.le_of_lt (Nat.lt_of_le_of_lt H.2.1 r.lt), fun b ob e => ?_, fun p hp => ?_, I.nd, I.sh' _ _⟩
  · have h : b ≠ a := by rintro rfl; have := H.2.2; simp only at this; rw [this] at e; cases e
    exact ⟨(I.objs b ob e).1.move (fun ob' => x b ob' h) st, (I.objs b ob e).2⟩
  · rcases List.mem_cons.mp hp with rfl | hp'
    · exact ⟨r, H.2⟩
    · have h : p.1 ≠ a := by
        intro q
        have := I.nd
        simp only [List.map_cons, List.nodup_cons] at this
        exact this.1 (q ▸ List.mem_map_of_mem hp')
      have G := I.hid p (.tail _ hp')
      exact ⟨G.1.move (fun ob' => x _ ob' h) st, G.2⟩

theorem Inv.fresh (I : Inv B gs σ s) (ha : s.heap.objs.size ≤ a) : σ a = none := by
  cases e : σ a with
  | none => rfl
  | some o => exact absurd (I.objs a o e).1.lt (Nat.not_lt.mpr ha)

theorem Inv.alloc (I : Inv B gs σ s) (ha : s.heap.objs.size ≤ a) (k : ∀ b o, s.heap.get? b = some o → h'.get? b = some o) (r : ORel B.prog B.w h' a o) :
    Inv B gs (upd σ a o) { s with heap := h', toks := tk } := by
  have hz : s.heap.objs.size ≤ h'.objs.size := Nat.le_trans ha (Nat.le_of_lt r.lt)
  have J := I.keep (tk := tk) k hz
  refine ⟨J.base, J.size, fun b ob e => ?_, fun p hp => ?_, J.nd, J.sh⟩
  · by_cases h : b = a
    · subst h; rw [upd_same] at e; cases e; exact ⟨r, Nat.le_trans I.size ha⟩
    · rw [upd_ne _ _ h] at e; exact J.objs b ob e
  · have h : p.1 ≠ a := Nat.ne_of_lt (Nat.lt_of_lt_of_le (I.hid p hp).1.lt ha)
    exact ⟨(J.hid p hp).1, (J.hid p hp).2.1, by rw [upd_ne _ _ h]; exact (J.hid p hp).2.2⟩

theorem Inv.push (I : Inv B gs σ s) (ha : s.heap.objs.size ≤ a) (k : ∀ b o, s.heap.get? b = some o → h'.get? b = some o) (r : ORel B.prog B.w h' a o) :
    Inv B ((a, o) :: gs) σ { s with heap := h', toks := tk } := by
  have hz : s.heap.objs.size ≤ h'.objs.size := Nat.le_trans ha (Nat.le_of_lt r.lt)
  have J := I.keep (tk := tk) k hz
  refine ⟨J.base, J.size, J.objs, fun p hp => ?_, ?_, J.sh⟩
  · rcases List.mem_cons.mp hp with rfl | hp'
    · exact ⟨r, Nat.le_trans I.size ha, I.fresh ha⟩
    · exact J.hid p hp'
  · simp only [List.map_cons, List.nodup_cons]
    refine ⟨fun q => ?_, J.nd⟩
    obtain ⟨p, hp, e⟩ := List.mem_map.mp q
    exact absurd (I.hid p hp).1.lt (by rw [e]; exact Nat.not_lt.mpr ha)

theorem Inv.pop {p : Addr × O} (I : Inv B (p :: gs) σ s) : Inv B gs σ s :=
  ⟨I.base, I.size, I.objs, fun q hq => I.hid q (.tail _ hq), by have := I.nd; simp only [List.map_cons, List.nodup_cons] at this; exact this.2, I.sh⟩
theorem Inv.dropHid {q : Addr × O} (I : Inv B ((a, o) :: q :: gs) σ s) (x : Heap.ExtBut a s.heap h') : Inv B (q :: gs) σ { s with heap := h', toks := tk } := by
  have H := I.hid _ (.head _)
  have st := stab_of_ext H.1 x
  have nd := I.nd
  simp only [List.map_cons, List.nodup_cons, List.mem_cons, not_or] at nd
  have hq := I.hid q (.tail _ (.head _))
  have hqa : q.1 ≠ a := fun e => nd.1.1 e.symm
  have rq := hq.1.move (fun ob' => x _ ob' hqa) st
  refine ⟨fun b o e => x b o (I.base_ne H.2.1 e) (I.base b o e), Nat.le_of_lt (Nat.lt_of_le_of_lt hq.2.1 rq.lt), fun b ob e => ?_, fun p hp => ?_, by simp only [List.map_cons, List.nodup_cons]; exact nd.2, I.sh' _ _⟩
  · have h : b ≠ a := by rintro rfl; have := H.2.2; simp only at this; rw [this] at e; cases e
    exact ⟨(I.objs b ob e).1.move (fun ob' => x b ob' h) st, (I.objs b ob e).2⟩
  · have G := I.hid p (.tail _ hp)
    have h : p.1 ≠ a := by
      intro e
      rcases List.mem_cons.mp hp with rfl | hp'
      · exact hqa e
      · exact nd.1.2 (e ▸ List.mem_map_of_mem hp')
    exact ⟨G.1.move (fun ob' => x _ ob' h) st, G.2⟩
theorem Inv.swap {p q : Addr × O} (I : Inv B (p :: q :: gs) σ s) : Inv B (q :: p :: gs) σ s :=
  ⟨I.base, I.size, I.objs, fun r hr => I.hid r (by simp only [List.mem_cons] at hr ⊢; rcases hr with h | h | h <;> simp [h]), by
    have := I.nd; simp only [List.map_cons, List.nodup_cons, List.mem_cons, not_or] at this ⊢
    exact ⟨⟨fun e => this.1.1 e.symm, this.2.1⟩, this.1.2, this.2.2⟩, I.sh⟩
theorem Inv.X (I : Inv B gs σ s) : B.K.In s.heap := B.X.keeps I.base
theorem Inv.T (I : Inv B gs σ s) : TopRead B.p B.loose B.mg B.mb s.heap := B.T.keeps I.base
theorem Inv.lo (I : Inv B gs σ s) (ho : σ a = some o) : (a == sysModules) = false := by
  have h1 := (I.objs a o ho).2
  obtain ⟨mc, h2, _⟩ := B.T.nolimit
  have h3 : cStatics < B.h₀.objs.size := h2.lt
  have : sysModules < a := by
    have : (sysModules : Nat) < cStatics := by decide
    exact Nat.lt_of_lt_of_le (Nat.lt_trans this h3) h1
  simp only [beq_eq_false_iff_ne, ne_eq]
  exact fun e => absurd this (by rw [e]; exact Nat.lt_irrefl _)
end
/-! ## equality of plain values -/
mutual
noncomputable def V.plain : Nat → V → Bool
  | _, .none => true
  | _, .int _ => true
  | _, .str s => PyData.strOk s
  | n + 1, .tup l => V.plains n l
  | _, _ => false
noncomputable def V.plains : Nat → List V → Bool
  | _, [] => true
  | n, v :: l => V.plain n v && V.plains n l
end
mutual
noncomputable def V.py : V → PyData
  | .int i => .int i
  | .str s => .str s
  | .tup l => .tuple (V.pys l)
  | _ => .none
noncomputable def V.pys : List V → List PyData
  | [] => []
  | v :: l => V.py v :: V.pys l
end

mutual
theorem V.reads {h : Heap} : ∀ (n : Nat) {v : V} {x : Value}, Rel h v x → v.plain n = true → ∃ as, Reads h x v.py as
  | _, .none, x, r, _ => by simp only [Rel] at r; subst r; exact ⟨_, .none⟩
  | _, .int i, x, r, _ => by simp only [Rel] at r; obtain ⟨t, rfl⟩ := r; exact ⟨_, .int i t⟩
  | _, .str i, x, r, _ => by simp only [Rel] at r; obtain ⟨t, rfl⟩ := r; exact ⟨_, .str i t⟩
  | 0, .tup l, x, r, p => by simp [V.plain] at p
  | n + 1, .tup l, x, r, p => by
    simp only [Rel] at r
    obtain ⟨a, xs, rfl, ⟨o, ho, hc, m, hd⟩, rs⟩ := r
    simp only [V.plain] at p
    obtain ⟨as, ra⟩ := V.readss n rs p
    exact ⟨_, .tuple ho hc hd ra⟩
  | _, .bool _, _, _, p => by simp [V.plain] at p
  | _, .ref _, _, _, p => by simp [V.plain] at p
  | _, .raw _, _, _, p => by simp [V.plain] at p
theorem V.readss {h : Heap} : ∀ (n : Nat) {l : List V} {xs : List Value}, Rels h l xs → V.plains n l = true → ∃ as, ReadsAll h xs (V.pys l) as
  | _, [], [], _, _ => ⟨_, .nil⟩
  | _, [], _ :: _, r, _ => by simp [Rels] at r
  | _, _ :: _, [], r, _ => by simp [Rels] at r
  | n, v :: l, x :: xs, r, p => by
    simp only [Rels] at r
    simp only [V.plains, Bool.and_eq_true] at p
    obtain ⟨as, ra⟩ := V.reads n r.1 p.1
    obtain ⟨bs, rb⟩ := V.readss n r.2 p.2
    exact ⟨_, .cons ra rb⟩
end
mutual
theorem V.lay : ∀ (n : Nat) (v : V), v.plain n = true → v.py.canLay0 = true ∧ v.py.depth ≤ n
  | _, .none, _ => by simp [V.py, PyData.canLay0, PyData.depth]
  | _, .int i, _ => by simp [V.py, PyData.canLay0, PyData.depth]
  | _, .str i, p => by simp only [V.plain] at p; simp [V.py, PyData.canLay0, PyData.depth, p]
  | 0, .tup l, p => by simp [V.plain] at p
  | n + 1, .tup l, p => by
    simp only [V.plain] at p
    obtain ⟨a, b⟩ := V.lays n l p
    simp only [V.py, PyData.canLay0, PyData.depth]
    exact ⟨a, by lia⟩
  | _, .bool _, p => by simp [V.plain] at p
  | _, .ref _, p => by simp [V.plain] at p
  | _, .raw _, p => by simp [V.plain] at p
theorem V.lays : ∀ (n : Nat) (l : List V), V.plains n l = true → PyData.canLayAll0 (V.pys l) = true ∧ PyData.depthAll (V.pys l) ≤ n
  | _, [], _ => by simp [V.pys, PyData.canLayAll0, PyData.depthAll]
  | n, v :: l, p => by
    simp only [V.plains, Bool.and_eq_true] at p
    obtain ⟨a, b⟩ := V.lay n v p.1
    obtain ⟨c, d⟩ := V.lays n l p.2
    simp only [V.pys, PyData.canLayAll0, PyData.depthAll, a, c]
    exact ⟨rfl, by lia⟩
end
mutual
theorem V.eqv : ∀ (n k : Nat) (v w : V), v.plain n = true → w.plain k = true → (PyData.eqv v.py w.py = true ↔ v = w)
  | _, _, .none, w, _, q => by cases w <;> simp_all [V.py, PyData.eqv, V.plain]
  | _, _, .int i, w, _, q => by cases w <;> simp_all [V.py, PyData.eqv, V.plain]
  | _, _, .str i, w, _, q => by cases w <;> simp_all [V.py, PyData.eqv, V.plain]
  | 0, _, .tup l, _, p, _ => by simp [V.plain] at p
  | n + 1, 0, .tup l, .tup m, p, q => by simp [V.plain] at q
  | n + 1, k + 1, .tup l, .tup m, p, q => by
    simp only [V.plain] at p q
    simp only [V.py, PyData.eqv, V.tup.injEq]
    exact V.eqvs n k l m p q
  | _ + 1, _, .tup l, .none, p, q => by simp [V.py, PyData.eqv]
  | _ + 1, _, .tup l, .int _, p, q => by simp [V.py, PyData.eqv]
  | _ + 1, _, .tup l, .str _, p, q => by simp [V.py, PyData.eqv]
  | _ + 1, _, .tup l, .bool _, p, q => by simp [V.plain] at q
  | _ + 1, _, .tup l, .ref _, p, q => by simp [V.plain] at q
  | _ + 1, _, .tup l, .raw _, p, q => by simp [V.plain] at q
  | _, _, .bool _, _, p, _ => by simp [V.plain] at p
  | _, _, .ref _, _, p, _ => by simp [V.plain] at p
  | _, _, .raw _, _, p, _ => by simp [V.plain] at p
theorem V.eqvs : ∀ (n k : Nat) (l m : List V), V.plains n l = true → V.plains k m = true → (PyData.eqvAll (V.pys l) (V.pys m) = true ↔ l = m)
  | _, _, [], [], _, _ => by simp [V.pys, PyData.eqvAll]
  | _, _, [], _ :: _, _, _ => by simp [V.pys, PyData.eqvAll]
  | _, _, _ :: _, [], _, _ => by simp [V.pys, PyData.eqvAll]
  | n, k, v :: l, w :: m, p, q => by
    simp only [V.plains, Bool.and_eq_true] at p q
    simp only [V.pys, PyData.eqvAll, Bool.and_eq_true, V.eqv n k v w p.1 q.1, V.eqvs n k l m p.2 q.2, List.cons.injEq]
end
theorem V.eqv_decide {n k : Nat} {v w : V} (p : v.plain n = true) (q : w.plain k = true) (inst : Decidable (v = w)) : PyData.eqv v.py w.py = decide (v = w) := by
  have := V.eqv n k v w p q
  cases h : PyData.eqv v.py w.py with
  | true => simp [this.mp h]
  | false => have : ¬ v = w := fun e => by rw [this.mpr e] at h; cases h
             simp [this]

/-! ## contexts, posts -/
def NoE : Value → Shared → Prop := fun _ _ => False
abbrev Rho := Str → Option V
structure Cx where
  B : Base
  A : Around
  gs : List (Addr × O)
  env : Env
def Cx.st (c : Cx) (ρ : Rho) (σ : Sg) (s : Shared) : Prop := Inv c.B ((c.env.locals, .frame ρ) :: c.gs) σ s
structure Room (A : Around) (n : Nat) : Prop where
  handled : A.handled = none
  depth : A.depth + n < recursionLimit
  units : A.units + 4 * n + 100 < cLine
structure Cx.ok (c : Cx) : Prop where
  fn : c.env.scope.kind = .function
  gl : c.env.globals = mainGlobals
  bi : c.env.builtins = builtinsNs
  handled : c.A.handled = none
  units : c.A.units + 70 < cLine

inductive PostE (c : Cx) (ρ : Rho) (h : Heap) (Q : V → Sg → Prop) (x : Value) (s' : Shared) : Prop
  | mk (st : Stab h s'.heap) (v : V) (σ' : Sg) (I : c.st ρ σ' s') (r : Rel s'.heap v x) (q : Q v σ')
inductive PostB (c : Cx) (ρ : Rho) (h : Heap) (Q : Bool → Sg → Prop) (b : Bool) (s' : Shared) : Prop
  | mk (st : Stab h s'.heap) (σ' : Sg) (I : c.st ρ σ' s') (q : Q b σ')
inductive PostL (c : Cx) (ρ : Rho) (h : Heap) (Q : List V → Sg → Prop) (xs : List Value) (s' : Shared) : Prop
  | mk (st : Stab h s'.heap) (l : List V) (σ' : Sg) (I : c.st ρ σ' s') (r : Rels s'.heap l xs) (q : Q l σ')
inductive PostU (c : Cx) (ρ : Rho) (h : Heap) (Q : Sg → Prop) (u : Unit) (s' : Shared) : Prop
  | mk (st : Stab h s'.heap) (σ' : Sg) (I : c.st ρ σ' s') (q : Q σ')

def WE (c : Cx) (e : Expr) (ρ : Rho) (σ : Sg) (Q : V → Sg → Prop) : Prop := ∀ s, c.st ρ σ s → wpAny (model c.B.prog c.B.w) c.A (eval e c.env) (PostE c ρ s.heap Q) NoE s
def WT (c : Cx) (e : Expr) (ρ : Rho) (σ : Sg) (Q : Bool → Sg → Prop) : Prop := ∀ s, c.st ρ σ s → wpAny (model c.B.prog c.B.w) c.A (isTrue e c.env (eval e c.env)) (PostB c ρ s.heap Q) NoE s
def WL (c : Cx) (pos : Pos) (es : List Expr) (ρ : Rho) (σ : Sg) (Q : List V → Sg → Prop) : Prop := ∀ s, c.st ρ σ s → wpAny (model c.B.prog c.B.w) c.A (spliced (backTo pos (starEach es c.env))) (PostL c ρ s.heap Q) NoE s
/-- an operation on values in hand -/
def W1 (c : Cx) (f : Value → Sem Value) (v : V) (ρ : Rho) (σ : Sg) (Q : V → Sg → Prop) : Prop := ∀ s x, c.st ρ σ s → Rel s.heap v x → wpAny (model c.B.prog c.B.w) c.A (f x) (PostE c ρ s.heap Q) NoE s
def W2 (c : Cx) (f : Value → Value → Sem Value) (v w : V) (ρ : Rho) (σ : Sg) (Q : V → Sg → Prop) : Prop := ∀ s x y, c.st ρ σ s → Rel s.heap v x → Rel s.heap w y → wpAny (model c.B.prog c.B.w) c.A (f x y) (PostE c ρ s.heap Q) NoE s
/-- a call of a value by values -/
def WC (c : Cx) (f : Value) (vs : List V) (ρ : Rho) (σ : Sg) (Q : V → Sg → Prop) : Prop := ∀ s xs, c.st ρ σ s → Rels s.heap vs xs → wpAny (model c.B.prog c.B.w) c.A (call f xs) (PostE c ρ s.heap Q) NoE s

section
variable {c : Cx} {ρ : Rho} {σ : Sg} {h h' : Heap} {s : Shared}
theorem PostE.from {Q : V → Sg → Prop} (st : Stab h h') {x : Value} {s' : Shared} (p : PostE c ρ h' Q x s') : PostE c ρ h Q x s' := by obtain ⟨a, b0, b1, b2, b3, b4⟩ := p; exact ⟨st.trans a, b0, b1, b2, b3, b4⟩
theorem PostB.from {Q : Bool → Sg → Prop} (st : Stab h h') {x : Bool} {s' : Shared} (p : PostB c ρ h' Q x s') : PostB c ρ h Q x s' := by obtain ⟨a, b0, b1, b2⟩ := p; exact ⟨st.trans a, b0, b1, b2⟩
theorem Cx.st.frame (I : c.st ρ σ s) : ∃ m, s.heap.Ns c.env.locals m ∧ ∀ x v, ρ x = some v → ∃ y, m x = some y ∧ Rel s.heap v y := (I.hid _ (.head _)).1
theorem Cx.st.toks (I : c.st ρ σ s) (tk : Nat) : c.st ρ σ { s with toks := tk } := Inv.toks I

theorem WE.loc {x : Str} {pos : Pos} {v : V} {Q : V → Sg → Prop} (ok : c.ok) (hv : ρ x = some v) (hQ : Q v σ)
    (hl : c.env.kindOf x = some .local := by k_dflt rfl) (hd : (x == ("__debug__" : Str)) = false := by k_dflt decide) : WE c (.Name x pos) ρ σ Q := fun s I => by
  obtain ⟨m, hn, hm⟩ := I.frame
  obtain ⟨y, hy, r⟩ := hm x v hv
  exact wpAny_Name (wpAny_loadName_local ok.fn hl hn hy ⟨Stab.refl _, v, σ, I, r, hQ⟩) hd

theorem WE.glob {x : Str} {pos : Pos} {y : Value} {v : V} {Q : V → Sg → Prop} (ok : c.ok) (hy : nsIn c.B.K mainGlobals x = some (some y)) (hv : ∀ h, Rel h v y) (hQ : Q v σ)
    (hl : c.env.kindOf x = some .globalImplicit := by k_dflt rfl) (hd : (x == ("__debug__" : Str)) = false := by k_dflt decide) : WE c (.Name x pos) ρ σ Q := fun s I =>
  Calls.Name_function_global ok.fn hl (Calls.loadGlobal_global (mg := c.B.mg) (by rw [ok.gl]; exact I.T.g) (mg_of I.X I.T.g hy) ⟨Stab.refl _, v, σ, I, hv _, hQ⟩) hd

theorem WE.blt {x : Str} {pos : Pos} {y : Value} {Q : V → Sg → Prop} (ok : c.ok) (hy : nsIn c.B.K mainGlobals x = some none) (hb : bootBuiltins x = some y) (hn : x ≠ "__name__") (hQ : Q (.raw y) σ)
    (hl : c.env.kindOf x = some .globalImplicit := by k_dflt rfl) (hd : (x == ("__debug__" : Str)) = false := by k_dflt decide) : WE c (.Name x pos) ρ σ Q := fun s I =>
  Calls.Name_function_global ok.fn hl (Calls.loadGlobal_builtin (mg := c.B.mg) (mb := c.B.mb) (by rw [ok.gl]; exact I.T.g) (mg_none_of I.X I.T.g hy) (by rw [ok.bi]; exact I.T.b) ((I.T.builtins x hn).trans hb)
    ⟨Stab.refl _, .raw y, σ, I, by simp [Rel], hQ⟩) hd

theorem WE.cint {i : Int} {k : Nat} {pos : Pos} {Q : V → Sg → Prop} (hQ : Q (.int i) σ) : WE c (.Constant (.int i) k pos) ρ σ Q := fun s I =>
  wpAny_Constant_int ⟨Stab.refl _, .int i, σ, I.toks _, by simp [Rel], hQ⟩
theorem WE.cstr {i : Str} {k : Nat} {pos : Pos} {Q : V → Sg → Prop} (hQ : Q (.str i) σ) : WE c (.Constant (.str i) k pos) ρ σ Q := fun s I =>
  wpAny_Constant_str ⟨Stab.refl _, .str i, σ, I.toks _, by simp [Rel], hQ⟩
theorem WE.cnone {k : Nat} {pos : Pos} {Q : V → Sg → Prop} (hQ : Q .none σ) : WE c (.Constant .none k pos) ρ σ Q := fun s I =>
  wpAny_Constant_none ⟨Stab.refl _, .none, σ, I, by simp [Rel], hQ⟩
theorem WE.cbool {b : Bool} {k : Nat} {pos : Pos} {Q : V → Sg → Prop} (hQ : Q (.bool b) σ) : WE c (.Constant (.bool b) k pos) ρ σ Q := fun s I =>
  wpAny_Constant_bool ⟨Stab.refl _, .bool b, σ, I, by simp [Rel], hQ⟩

/-- two parts, then an operation -/
theorem two {t u : Sem Value} {f : Value → Value → Sem Value} {Q : V → Sg → Prop} (s : Shared) (ht : wpAny (model c.B.prog c.B.w) c.A t (PostE c ρ s.heap fun v σ₁ => ∀ s₁, c.st ρ σ₁ s₁ → wpAny (model c.B.prog c.B.w) c.A u (PostE c ρ s₁.heap fun w σ₂ => W2 c f v w ρ σ₂ Q) NoE s₁) NoE s) :
    wpAny (model c.B.prog c.B.w) c.A t (fun a s₁ => wpAny (model c.B.prog c.B.w) c.A u (fun b s₂ => wpAny (model c.B.prog c.B.w) c.A (f a b) (PostE c ρ s.heap Q) NoE s₂) NoE s₁) NoE s :=
  wpAny_mono ht (fun x s₁ ⟨st, v, σ₁, I₁, r, k⟩ => wpAny_mono (k s₁ I₁) (fun y s₂ ⟨st', w, σ₂, I₂, r', q⟩ =>
    wpAny_mono (q s₂ x y I₂ (r.stab st') r') (fun _ _ p => p.from (st.trans st')) fun _ _ z => z) fun _ _ z => z) fun _ _ z => z

theorem WE.bin {l r : Expr} {op : Operator} {pos : Pos} {Q : V → Sg → Prop} (hh : WE c l ρ σ fun v σ₁ => WE c r ρ σ₁ fun w σ₂ => W2 c (binaryOp op) v w ρ σ₂ Q) : WE c (.BinOp l op r pos) ρ σ Q := fun s I =>
  wpAny_BinOp (two s (hh s I))
theorem WE.cmp {l r : Expr} {op : CmpOp} {pos : Pos} {Q : V → Sg → Prop} (hh : WE c l ρ σ fun v σ₁ => WE c r ρ σ₁ fun w σ₂ => W2 c (compareOp op) v w ρ σ₂ Q)
    (hm : behindInMarks op r = false := by with_unfolding_all rfl) : WE c (.Compare l [op] [r] pos) ρ σ Q := fun s I =>
  wpAny_Compare1 (two s (hh s I)) hm
theorem WE.un {x : Expr} {op : UnaryOp} {pos : Pos} {Q : V → Sg → Prop} (hh : WE c x ρ σ fun v σ₁ => W1 c (unaryOp op) v ρ σ₁ Q) : WE c (.UnaryOp op x pos) ρ σ Q := fun s I =>
  wpAny_UnaryOp (wpAny_mono (hh s I) (fun x s₁ ⟨st, v, σ₁, I₁, r, k⟩ => wpAny_mono (k s₁ x I₁ r) (fun _ _ p => p.from st) fun _ _ z => z) fun _ _ z => z)

theorem W2.add {a b : Int} {Q : V → Sg → Prop} (hQ : Q (.int (a + b)) σ) : W2 c (binaryOp .Add) (.int a) (.int b) ρ σ Q := fun s x y I rx ry => by
  simp only [Rel] at rx ry; obtain ⟨t, rfl⟩ := rx; obtain ⟨u, rfl⟩ := ry
  exact P.add_int ⟨Stab.refl _, _, σ, I.toks _, by simp [Rel], hQ⟩
theorem W2.sub {a b : Int} {Q : V → Sg → Prop} (hQ : Q (.int (a - b)) σ) : W2 c (binaryOp .Sub) (.int a) (.int b) ρ σ Q := fun s x y I rx ry => by
  simp only [Rel] at rx ry; obtain ⟨t, rfl⟩ := rx; obtain ⟨u, rfl⟩ := ry
  exact P.sub_int ⟨Stab.refl _, _, σ, I.toks _, by simp [Rel], hQ⟩
theorem W2.mod {a b : Int} {Q : V → Sg → Prop} (hb : b ≠ 0) (hQ : Q (.int (a.fmod b)) σ) : W2 c (binaryOp .Mod) (.int a) (.int b) ρ σ Q := fun s x y I rx ry => by
  simp only [Rel] at rx ry; obtain ⟨t, rfl⟩ := rx; obtain ⟨u, rfl⟩ := ry
  exact mod_int' hb ⟨Stab.refl _, _, σ, I.toks _, by simp [Rel], hQ⟩
theorem W2.pow {a n : Int} {Q : V → Sg → Prop} (hn : 0 ≤ n) (hn2 : n ≤ 1000000) (ha : a.natAbs < 2 ^ 64) (hQ : Q (.int (a ^ n.toNat)) σ) : W2 c (binaryOp .Pow) (.int a) (.int n) ρ σ Q := fun s x y I rx ry => by
  simp only [Rel] at rx ry; obtain ⟨t, rfl⟩ := rx; obtain ⟨u, rfl⟩ := ry
  exact pow_int_small hn hn2 ha ⟨Stab.refl _, _, σ, I.toks _, by simp [Rel], hQ⟩
theorem W2.iadd {a b : Int} {Q : V → Sg → Prop} (hQ : Q (.int (a + b)) σ) : W2 c (inplaceOp .Add) (.int a) (.int b) ρ σ Q := fun s x y I rx ry => by
  simp only [Rel] at rx ry; obtain ⟨t, rfl⟩ := rx; obtain ⟨u, rfl⟩ := ry
  exact P.iadd_int ⟨Stab.refl _, _, σ, I.toks _, by simp [Rel], hQ⟩
theorem W2.ifdiv {a b : Int} {Q : V → Sg → Prop} (hb : b ≠ 0) (hb2 : b.natAbs.log2 < 9000) (hQ : Q (.int (a.fdiv b)) σ) : W2 c (inplaceOp .FloorDiv) (.int a) (.int b) ρ σ Q := fun s x y I rx ry => by
  simp only [Rel] at rx ry; obtain ⟨t, rfl⟩ := rx; obtain ⟨u, rfl⟩ := ry
  exact AutoIntOps.ifloordiv_1 (by simpa using hb) (by rw [PyProof.noPylong_of_log2 hb2]; simp) ⟨Stab.refl _, _, σ, I.toks _, by simp [Rel], hQ⟩
theorem W1.neg {a : Int} {Q : V → Sg → Prop} (hQ : Q (.int (-a)) σ) : W1 c (unaryOp .USub) (.int a) ρ σ Q := fun s x I rx => by
  simp only [Rel] at rx; obtain ⟨t, rfl⟩ := rx
  exact P.neg_int ⟨Stab.refl _, _, σ, I.toks _, by simp [Rel], hQ⟩
end
/-! ## dicts -/
section
variable {K : Type} [DecidableEq K]
noncomputable def dget (l : List (K × V)) (k : K) : Option V := (l.find? fun p => decide (p.1 = k)).map (·.2)
noncomputable def dput (l : List (K × V)) (k : K) (v : V) : List (K × V) :=
  if l.any (fun p => decide (p.1 = k)) then l.map (fun p => if p.1 = k then (p.1, v) else p) else l ++ [(k, v)]

theorem dget_rel {h : Heap} {k : K} : ∀ {l : List (K × V)} {kvs : List (K × Value)}, All2 (fun p q => p.1 = q.1 ∧ Rel h p.2 q.2) l kvs →
    (dget l k = none ∧ valueAt kvs k = none) ∨ ∃ v x, dget l k = some v ∧ valueAt kvs k = some x ∧ Rel h v x
  | [], [], _ => .inl ⟨rfl, rfl⟩
  | [], _ :: _, r => r.elim
  | _ :: _, [], r => r.elim
  | (a, v) :: l, (b, x) :: m, r => by
    obtain ⟨⟨e, rv⟩, rs⟩ := r
    simp only at e; subst e
    by_cases q : a = k
    · exact .inr ⟨v, x, by simp [dget, q], by simp [valueAt, q], rv⟩
    · rcases dget_rel (k := k) rs with ⟨h1, h2⟩ | ⟨v', x', h1, h2, h3⟩
      · exact .inl ⟨by simpa [dget, q] using h1, by simpa [valueAt, q] using h2⟩
      · exact .inr ⟨v', x', by simpa [dget, q] using h1, by simpa [valueAt, q] using h2, h3⟩

theorem any_rel {h : Heap} {k : K} : ∀ {l : List (K × V)} {kvs : List (K × Value)}, All2 (fun p q => p.1 = q.1 ∧ Rel h p.2 q.2) l kvs →
    l.any (fun p => decide (p.1 = k)) = kvs.any (fun p => decide (p.1 = k))
  | [], [], _ => rfl
  | [], _ :: _, r => r.elim
  | _ :: _, [], r => r.elim
  | (a, v) :: l, (b, x) :: m, r => by
    obtain ⟨⟨e, rv⟩, rs⟩ := r
    simp only at e; subst e
    simp only [List.any_cons, any_rel rs]

theorem dput_rel {h : Heap} {k : K} {v : V} {x : Value} (rv : Rel h v x) {l : List (K × V)} {kvs : List (K × Value)} (r : All2 (fun p q => p.1 = q.1 ∧ Rel h p.2 q.2) l kvs) :
    All2 (fun p q => p.1 = q.1 ∧ Rel h p.2 q.2) (dput l k v) (stored kvs k x) := by
  unfold dput stored
  rw [any_rel r]
  split
  · refine All2.map (fun a b ⟨e, rr⟩ => ?_) r
    obtain ⟨a1, a2⟩ := a; obtain ⟨b1, b2⟩ := b
    simp only at e rr; subst e
    by_cases q : a1 = k <;> simp [q, rv, rr]
  · exact r.append ⟨⟨rfl, rv⟩, trivial⟩
end

theorem dget_relH {h : Heap} {k : List Int} : ∀ {l : List (List Int × V)} {kvs : List (List Int × Addr × Value)}, All2 (fun p q => p.1 = q.1 ∧ Rel h p.2 q.2.2) l kvs →
    (dget l k = none ∧ atKey kvs k = none) ∨ ∃ v x, dget l k = some v ∧ atKey kvs k = some x ∧ Rel h v x.2
  | [], [], _ => .inl ⟨rfl, rfl⟩
  | [], _ :: _, r => r.elim
  | _ :: _, [], r => r.elim
  | (a, v) :: l, (b, x) :: m, r => by
    obtain ⟨⟨e, rv⟩, rs⟩ := r
    simp only at e; subst e
    by_cases q : a = k
    · exact .inr ⟨v, x, by simp [dget, q], by simp [atKey, q], rv⟩
    · rcases dget_relH (k := k) rs with ⟨h1, h2⟩ | ⟨v', x', h1, h2, h3⟩
      · exact .inl ⟨by simpa [dget, q] using h1, by simpa [atKey, q] using h2⟩
      · exact .inr ⟨v', x', by simpa [dget, q] using h1, by simpa [atKey, q] using h2, h3⟩
theorem any_relH {h : Heap} {k : List Int} : ∀ {l : List (List Int × V)} {kvs : List (List Int × Addr × Value)}, All2 (fun p q => p.1 = q.1 ∧ Rel h p.2 q.2.2) l kvs →
    l.any (fun p => decide (p.1 = k)) = (atKey kvs k).isSome
  | [], [], _ => rfl
  | [], _ :: _, r => r.elim
  | _ :: _, [], r => r.elim
  | (a, v) :: l, (b, x) :: m, r => by
    obtain ⟨⟨e, rv⟩, rs⟩ := r
    simp only at e; subst e
    have ih := any_relH (k := k) rs
    by_cases q : a = k
    · simp [atKey, q]
    · simp only [List.any_cons, q, decide_false, Bool.false_or, ih]; simp [atKey, q]
theorem dput_relH {h : Heap} {k : List Int} {a : Addr} {v : V} {x : Value} (rv : Rel h v x) {l : List (List Int × V)} {kvs : List (List Int × Addr × Value)} (r : All2 (fun p q => p.1 = q.1 ∧ Rel h p.2 q.2.2) l kvs) :
    All2 (fun p q => p.1 = q.1 ∧ Rel h p.2 q.2.2) (dput l k v) (storedH kvs k a x) := by
  unfold dput storedH
  rw [any_relH r]
  split
  · refine All2.map (fun p q ⟨e, rr⟩ => ?_) r
    obtain ⟨a1, a2⟩ := p; obtain ⟨b1, b2⟩ := q
    simp only at e rr; subst e
    by_cases q : a1 = k <;> simp [putAt, q, rv, rr]
  · exact r.append ⟨⟨rfl, rv⟩, trivial⟩

theorem lookIn_of {prog : Program} {w : World} {name : Str} {o : Obj} {es : Array DictEntry} {ep : Nat} {kvs : List (Str × Value)} (hd : o.data = .dict es ep) (hp : Pairs (strKind prog w) es.toList kvs) :
    lookIn name o = some (valueAt kvs name) := by
  unfold lookIn
  rw [hd]
  dsimp only
  have hf := hp.find name
  have e : (fun d : DictEntry => (strKind prog w).is name d.key) = fun d => d.key.isStr name := funext fun d => (isStr_of name d.key).symm
  rw [e] at hf
  cases q : es.toList.find? (fun x => x.key.isStr name) with
  | some en => rw [q] at hf; simp at hf; simp [← hf]
  | none =>
    rw [q] at hf
    simp at hf
    rw [← hf]
    have : es.toList.any (·.refKey) = false := by
      rw [List.any_eq_false]
      intro en hen
      have key : ∀ {l : List DictEntry} {m : List (Str × Value)}, Pairs (strKind prog w) l m → ∀ en ∈ l, en.refKey = false := by
        intro l m hp
        induction hp with
        | nil => intro en he; cases he
        | cons h1 _ _ ih =>
          intro en he
          rcases List.mem_cons.mp he with rfl | he
          · obtain ⟨t, ht⟩ := Value.isStrOf_shape h1
            unfold DictEntry.refKey; rw [ht]
          · exact ih en he
      rw [key hp en hen]; simp
    dsimp only
    rw [this]; rfl

noncomputable def fieldOK (K : Frag) (C : Addr) (name : Str) : Bool := plainGet K C name && hasDictIn K C && (findIn K (.ref C) name).any (noGet K)
noncomputable def V.soft : V → Bool
  | .raw _ => false
  | _ => true
theorem V.handed {h : Heap} {v : V} {x : Value} (r : Rel h v x) (hs : v.soft = true) : handedIn x = true := by
  cases v <;> simp only [Rel, V.soft] at r hs
  · subst r; rfl
  · subst r; rfl
  · obtain ⟨_, rfl⟩ := r; rfl
  · obtain ⟨_, rfl⟩ := r; rfl
  · obtain ⟨_, _, rfl, _⟩ := r; rfl
  · subst r; rfl
  · cases hs

section
variable {c : Cx} {ρ : Rho} {σ : Sg} {s : Shared}
theorem Cx.st.obj (I : c.st ρ σ s) {a : Addr} {o : O} (h : σ a = some o) : ORel c.B.prog c.B.w s.heap a o := (I.objs a o h).1

theorem instAt {C a d : Addr} {fs : List (Str × V)} (I : c.st ρ σ s) (h1 : σ a = some (.inst C d)) (h2 : σ d = some (.sdict fs)) :
    ∃ od kvs, InstAt s.heap a (instObj C d) C (some od) ∧ s.heap.get? d = some od ∧ od.ExactDict ∧ (∃ es ep, od.data = .dict es ep ∧ KeysOf (strKind c.B.prog c.B.w) es ∧ Pairs (strKind c.B.prog c.B.w) es.toList kvs) ∧ (kvs.map (·.1)).Nodup ∧
      (∀ name, lookIn name od = some (valueAt kvs name)) ∧ All2 (fun p q => p.1 = q.1 ∧ Rel s.heap p.2 q.2) fs kvs := by
  obtain ⟨kvs, ⟨od, es, ep, hod, hx, hd, hk, hp, hn⟩, rs⟩ := I.obj h2
  have hi : s.heap.get? a = some (instObj C d) := I.obj h1
  exact ⟨od, kvs, ⟨hi, rfl, rfl, hod⟩, hod, hx, ⟨es, ep, hd, hk, hp⟩, hn, fun name => lookIn_of hd hp, rs⟩

theorem W1.attr {a C d : Addr} {fs : List (Str × V)} {attr : Str} {u : V} {Q : V → Sg → Prop} (h1 : σ a = some (.inst C d)) (h2 : σ d = some (.sdict fs))
    (hf : fieldOK c.B.K C attr = true) (hg : dget fs attr = some u) (hu : u.soft = true) (hQ : Q u σ) {ex : Bool} : W1 c (fun x => getAttr x attr ex) (.ref a) ρ σ Q := fun s x I r => by
  simp only [Rel] at r; subst r
  obtain ⟨od, kvs, hi, hod, hx, _, hn, hl, rs⟩ := instAt I h1 h2
  obtain ⟨⟨f1, f2⟩, f3⟩ : (plainGet c.B.K C attr = true ∧ hasDictIn c.B.K C = true) ∧ (findIn c.B.K (.ref C) attr).any (noGet c.B.K) = true := by simpa [fieldOK] using hf
  obtain ⟨at', ha, hno⟩ := any_some f3
  rcases dget_rel (k := attr) rs with ⟨e, _⟩ | ⟨v, y, e, e2, rr⟩
  · rw [hg] at e; cases e
  · rw [hg] at e; cases e
    exact get_value I.X hi (plainGet_of f1).1 (findObj_own f2 ha hno (by rw [hl, e2])) (V.handed rr hu) ⟨Stab.refl _, u, σ, I.toks _, rr, hQ⟩

theorem WE.attr {o : Expr} {attr : Str} {pos : Pos} {Q : V → Sg → Prop} (hh : WE c o ρ σ fun v σ₁ => W1 c (fun x => getAttr x attr true) v ρ σ₁ Q)
    (he : eval (.Attribute o attr pos) c.env = (do
      let ov ← eval o c.env
      standAt pos.atName
      let r ← holding [ov] (getAttr ov attr true)
      letTemporaryGo o ov r
      pure r) := by with_unfolding_all rfl) : WE c (.Attribute o attr pos) ρ σ Q := fun s I =>
  Attribute_any_ (wpAny_mono (hh s I) (fun x s₁ ⟨st, v, σ₁, I₁, r, k⟩ => wpAny_mono (k s₁ x I₁ r) (fun _ _ p => p.from st) fun _ _ z => z) fun _ _ z => z) he

/-! ## items -/
def WSub (c : Cx) (v w : V) (ρ : Rho) (σ : Sg) (Q : V → Sg → Prop) : Prop := ∀ s x y, c.st ρ σ s → Rel s.heap v x → Rel s.heap w y →
  ∃ T id, s.TypeIs x T ∧ typeLookup (.type T) "__getitem__" = pure (some (.builtin id)) ∧ wpAny (model c.B.prog c.B.w) c.A (getItem x y) (PostE c ρ s.heap Q) NoE s

theorem WE.sub {value slice : Expr} {pos : Pos} {Q : V → Sg → Prop} (hh : WE c value ρ σ fun v σ₁ => WE c slice ρ σ₁ fun w σ₂ => WSub c v w ρ σ₂ Q)
    (hs : ∀ a b, ∃ ops, subscripted slice false a b = operate ops (getItem a b) := by exact fun a b => ⟨[a, b], by with_unfolding_all rfl⟩) : WE c (.Subscript value slice pos) ρ σ Q := fun s I =>
  Subscript_ (wpAny_mono (hh s I) (fun x s₁ ⟨st, v, σ₁, I₁, r, k⟩ => wpAny_mono (k s₁ I₁) (fun y s₂ hxx => by
    obtain ⟨st', w, σ₂, I₂, r', q⟩ := hxx
    obtain ⟨T, id, hT, hl, hg⟩ := q s₂ x y I₂ (r.stab st') r'
    obtain ⟨ops, ho⟩ := hs x y
    exact tail_any hT hl (wpAny_mono hg (fun _ _ p => p.from (st.trans st')) fun _ _ z => z) ho) fun _ _ z => z) fun _ _ z => z)

theorem WSub.list {a : Addr} {l : List V} {k : Int} {u : V} {Q : V → Sg → Prop} (h1 : σ a = some (.list l)) (h0 : 0 ≤ k) (hk : k < 2 ^ 63) (hu : l[k.toNat]? = some u) (hQ : Q u σ) : WSub c (.ref a) (.int k) ρ σ Q := fun s x y I rx ry => by
  simp only [Rel] at rx ry; subst rx; obtain ⟨t, rfl⟩ := ry
  obtain ⟨xs, n, ho, rs⟩ := I.obj h1
  obtain ⟨z, hz, rz⟩ := rs.get hu
  exact ⟨"list", _, ho.isList.typeIs, slot_list_getitem.lookup, wpAny_getItem_list ho.isList h0 hk (by simpa using hz) ⟨Stab.refl _, u, σ, I, rz, hQ⟩⟩
theorem WSub.tup {l : List V} {k : Int} {u : V} {Q : V → Sg → Prop} (h0 : 0 ≤ k) (hk : k < 2 ^ 63) (hu : l[k.toNat]? = some u) (hQ : Q u σ) : WSub c (.tup l) (.int k) ρ σ Q := fun s x y I rx ry => by
  simp only [Rel] at rx ry; obtain ⟨a, xs, rfl, ht, rs⟩ := rx; obtain ⟨t, rfl⟩ := ry
  obtain ⟨z, hz, rz⟩ := rs.get hu
  have hlt : k.toNat < xs.toList.length := (List.getElem?_eq_some_iff.mp hz).1
  refine ⟨"tuple", _, ht.typeIs, slot_tuple_getitem.lookup, getItem_tuple (j := k.toNat) ht (by lia) hk ?_ (by simpa using hz) ⟨Stab.refl _, u, σ, I, rz, hQ⟩⟩
  have h2 : k.toNat < xs.size := by simpa using hlt
  obtain ⟨j, rfl⟩ := Int.eq_ofNat_of_zero_le h0
  simp only [Int.toNat_natCast] at h2 ⊢
  simp [seqIndex?]
  lia
theorem WSub.idict {a : Addr} {l : List (Int × V)} {k : Int} {u : V} {Q : V → Sg → Prop} (h1 : σ a = some (.idict l)) (hu : dget l k = some u) (hQ : Q u σ) : WSub c (.ref a) (.int k) ρ σ Q := fun s x y I rx ry => by
  simp only [Rel] at rx ry; subst rx; obtain ⟨t, rfl⟩ := ry
  obtain ⟨kvs, hd, rs⟩ := I.obj h1
  rcases dget_rel (k := k) rs with ⟨e, _⟩ | ⟨v, z, e, e2, rr⟩
  · rw [hu] at e; cases e
  · rw [hu] at e; cases e
    exact ⟨"dict", _, hd.typeIs, slot_dict_getitem.lookup, wpAny_getItem_of (intKind_is _ _ _ _) hd.mapOf e2 ⟨Stab.refl _, u, σ, I.toks _, rr, hQ⟩⟩

/-! ## stores -/
def WSet (c : Cx) (v w u : V) (ρ : Rho) (σ : Sg) (Q : Sg → Prop) : Prop := ∀ s x y z, c.st ρ σ s → Rel s.heap v x → Rel s.heap w y → Rel s.heap u z →
  wpAny (model c.B.prog c.B.w) c.A (setItem x y z) (PostU c ρ s.heap Q) NoE s

theorem Cx.st.stabMut {a : Addr} {o : O} {h' : Heap} (I : c.st ρ σ s) (ho : σ a = some o) (x : Heap.ExtBut a s.heap h') : Stab s.heap h' := stab_of_ext (I.obj ho) x

theorem WSet.list {a : Addr} {l : List V} {k : Int} {u : V} {Q : Sg → Prop} (h1 : σ a = some (.list l)) (h0 : 0 ≤ k) (hk : k < 2 ^ 63) (hlt : k < l.length) (hQ : Q (upd σ a (.list (l.set k.toNat u)))) : WSet c (.ref a) (.int k) u ρ σ Q := fun s x y z I rx ry rz => by
  simp only [Rel] at rx ry; subst rx; obtain ⟨t, rfl⟩ := ry
  obtain ⟨xs, n, ho, rs⟩ := I.obj h1
  have e := rs.length
  have ho' : s.heap.get? a = some (W.listOf xs.toArray n) := ho
  refine ki_setAt ho' h0 hk (by simpa [← e] using hlt) ?_
  have hx : Heap.ExtBut a s.heap (s.heap.update a (Obj.mapSeq (·.setIfInBounds k.toNat z))) := (Heap.SameBut.update ..).extBut
  have st := I.stabMut h1 hx
  refine ⟨st, _, Inv.mut (o' := .list (l.set k.toNat u)) I h1 hx (tk := s.toks) ⟨xs.set k.toNat z, n, ?_, (rs.set rz k.toNat).stab st⟩, hQ⟩
  have := Heap.get?_update_self (f := Obj.mapSeq (·.setIfInBounds k.toNat z)) ho' (by rfl)
  unfold IsL
  rw [this]
  simp [Obj.mapSeq, W.listOf]

theorem WSet.idict {a : Addr} {l : List (Int × V)} {k : Int} {u : V} {Q : Sg → Prop} (h1 : σ a = some (.idict l)) (hz : l.length ≤ 1000000) (hQ : Q (upd σ a (.idict (dput l k u)))) : WSet c (.ref a) (.int k) u ρ σ Q := fun s x y z I rx ry rz => by
  simp only [Rel] at rx ry; subst rx; obtain ⟨t, rfl⟩ := ry
  obtain ⟨kvs, hd, rs⟩ := I.obj h1
  have e := rs.length
  refine wpAny_setItem_pairs (intKind_is _ _ _ _) hd (fun h' hd' hs => ?_) (by rw [← e, sizeLine_eq]; lia)
  have st := I.stabMut h1 hs.extBut
  exact ⟨st, _, Inv.mut (o' := .idict (dput l k u)) I h1 hs.extBut ⟨_, hd', (dput_rel rz rs).mono fun _ _ q => ⟨q.1, q.2.stab st⟩⟩, hQ⟩
theorem WSet.sdict {a : Addr} {l : List (Str × V)} {k : Str} {u : V} {Q : Sg → Prop} (h1 : σ a = some (.sdict l)) (hz : l.length ≤ 1000000) (hQ : Q (upd σ a (.sdict (dput l k u)))) : WSet c (.ref a) (.str k) u ρ σ Q := fun s x y z I rx ry rz => by
  simp only [Rel] at rx ry; subst rx; obtain ⟨t, rfl⟩ := ry
  obtain ⟨kvs, hd, rs⟩ := I.obj h1
  have e := rs.length
  refine wpAny_setItem_pairs (strKind_is _ _ _ _) hd (fun h' hd' hs => ?_) (by rw [← e, sizeLine_eq]; lia)
  have st := I.stabMut h1 hs.extBut
  exact ⟨st, _, Inv.mut (o' := .sdict (dput l k u)) I h1 hs.extBut ⟨_, hd', (dput_rel rz rs).mono fun _ _ q => ⟨q.1, q.2.stab st⟩⟩, hQ⟩

theorem itemsAre_ints {prog : Program} {w : World} {h : Heap} : ∀ {ks : List Int} {xs : List Value}, Rels h (ks.map V.int) xs → PySem.ItemsAre (intKind prog w) ks xs
  | [], [], _ => .nil
  | [], _ :: _, r => by simp [Rels] at r
  | _ :: _, [], r => by simp [Rels] at r
  | k :: ks, x :: xs, r => by
    simp only [List.map_cons, Rels, Rel] at r
    obtain ⟨⟨t, rfl⟩, rs⟩ := r
    exact .cons (intKind_is _ _ _ _) (itemsAre_ints rs)
theorem isTupleKey_of {prog : Program} {w : World} {h : Heap} {ks : List Int} {x : Value} (r : Rel h (.tup (ks.map V.int)) x) : ∃ a, x = .ref a ∧ IsTupleKey (intKind prog w) h ks a := by
  simp only [Rel] at r
  obtain ⟨a, xs, rfl, ⟨o, ho, hc, n, hd⟩, rs⟩ := r
  exact ⟨a, rfl, o, xs, n, ho, hc, hd, itemsAre_ints rs⟩
theorem WSet.tdict {a : Addr} {l : List (List Int × V)} {k : List Int} {u : V} {Q : Sg → Prop} (hu : c.A.units + 1 < cLine) (h1 : σ a = some (.tdict l)) (hz : l.length ≤ 1000000) (hQ : Q (upd σ a (.tdict (dput l k u)))) : WSet c (.ref a) (.tup (k.map V.int)) u ρ σ Q := fun s x y z I rx ry rz => by
  simp only [Rel] at rx; subst rx
  obtain ⟨b, rfl, hb⟩ := isTupleKey_of (prog := c.B.prog) (w := c.B.w) ry
  obtain ⟨xs, hd, rs⟩ := I.obj h1
  have e := rs.length
  refine wpAny_setItem_heap (knd := tupleKind (intKind c.B.prog c.B.w)) (hsz := by rw [← e, sizeLine_eq]; lia) (tupleKind_room_in1 hu) hb hd fun h' hd' hs => ?_
  have st := I.stabMut h1 hs.extBut
  exact ⟨st, _, Inv.mut (o' := .tdict (dput l k u)) I h1 hs.extBut ⟨_, hd', (dput_relH rz rs).mono fun _ _ q => ⟨q.1, q.2.stab st⟩⟩, hQ⟩
end
section
variable {c : Cx} {ρ : Rho} {σ : Sg} {s : Shared}

/-! ## comparisons -/
theorem W2.lt {a b : Int} {Q : V → Sg → Prop} (hQ : Q (.bool (decide (a < b))) σ) : W2 c (compareOp .Lt) (.int a) (.int b) ρ σ Q := fun s x y I rx ry => by
  simp only [Rel] at rx ry; obtain ⟨t, rfl⟩ := rx; obtain ⟨u, rfl⟩ := ry
  exact P.lt_int ⟨Stab.refl _, _, σ, I, by simp [Rel], hQ⟩
theorem W2.gt {a b : Int} {Q : V → Sg → Prop} (hQ : Q (.bool (decide (a > b))) σ) : W2 c (compareOp .Gt) (.int a) (.int b) ρ σ Q := fun s x y I rx ry => by
  simp only [Rel] at rx ry; obtain ⟨t, rfl⟩ := rx; obtain ⟨u, rfl⟩ := ry
  exact P.gt_int ⟨Stab.refl _, _, σ, I, by simp [Rel], hQ⟩
theorem W2.ge {a b : Int} {Q : V → Sg → Prop} (hQ : Q (.bool (decide (a ≥ b))) σ) : W2 c (compareOp .GtE) (.int a) (.int b) ρ σ Q := fun s x y I rx ry => by
  simp only [Rel] at rx ry; obtain ⟨t, rfl⟩ := rx; obtain ⟨u, rfl⟩ := ry
  exact P.ge_int ⟨Stab.refl _, _, σ, I, by simp [Rel], hQ⟩

open Classical in
theorem W2.eq {v w : V} {Q : V → Sg → Prop} (hu : c.A.units + 70 < cLine) (p : v.plain 60 = true) (q : w.plain 60 = true) (hQ : Q (.bool (decide (v = w))) σ) : W2 c (compareOp .Eq) v w ρ σ Q := fun s x y I rx ry => by
  obtain ⟨as, ra⟩ := V.reads 60 rx p
  obtain ⟨bs, rb⟩ := V.reads 60 ry q
  have la := V.lay 60 v p
  have lb := V.lay 60 w q
  refine SeqAt.compareEq_reads ra rb la.1 lb.1 (by lia) ?_
  rw [V.eqv_decide p q inferInstance]
  exact ⟨Stab.refl _, _, σ, I, by simp [Rel], hQ⟩
open Classical in
theorem W2.inI {k : Int} {a : Addr} {l : List (Int × V)} {Q : V → Sg → Prop} (h1 : σ a = some (.idict l)) (hQ : Q (.bool (dget l k).isSome) σ) : W2 c (compareOp .In) (.int k) (.ref a) ρ σ Q := fun s x y I rx ry => by
  simp only [Rel] at rx ry; obtain ⟨t, rfl⟩ := rx; subst ry
  obtain ⟨kvs, hd, rs⟩ := I.obj h1
  refine wpAny_in_of (intKind_is _ _ _ _) (I.lo h1) hd.mapOf ?_
  rcases dget_rel (k := k) rs with ⟨e, e2⟩ | ⟨v, z, e, e2, rr⟩
  · rw [e2]; rw [e] at hQ; exact ⟨Stab.refl _, _, σ, I.toks _, by simp [Rel], hQ⟩
  · rw [e2]; rw [e] at hQ; exact ⟨Stab.refl _, _, σ, I.toks _, by simp [Rel], hQ⟩
theorem W2.notInI {k : Int} {a : Addr} {l : List (Int × V)} {Q : V → Sg → Prop} (h1 : σ a = some (.idict l)) (hQ : Q (.bool (!(dget l k).isSome)) σ) : W2 c (compareOp .NotIn) (.int k) (.ref a) ρ σ Q := fun s x y I rx ry => by
  simp only [Rel] at rx ry; obtain ⟨t, rfl⟩ := rx; subst ry
  obtain ⟨kvs, hd, rs⟩ := I.obj h1
  refine wpAny_notIn_of (intKind_is _ _ _ _) (I.lo h1) hd.mapOf ?_
  rcases dget_rel (k := k) rs with ⟨e, e2⟩ | ⟨v, z, e, e2, rr⟩
  · rw [e2]; rw [e] at hQ; exact ⟨Stab.refl _, _, σ, I.toks _, by simp [Rel], hQ⟩
  · rw [e2]; rw [e] at hQ; exact ⟨Stab.refl _, _, σ, I.toks _, by simp [Rel], hQ⟩
open Classical in
open Classical in
theorem readsList {a : Addr} {l : List V} {h : Heap} {xs : List Value} {n : Nat} {k : Nat} (ho : IsL h a xs.toArray n) (rs : Rels h l xs) (p : V.plains k l = true) : ∃ as, Reads h (.ref a) (.list (V.pys l)) as := by
  obtain ⟨as, ra⟩ := V.readss k rs p
  exact ⟨_, .list ho rfl rfl (by simpa using ra)⟩
open Classical in
theorem W2.eqList {a b : Addr} {l m : List V} {Q : V → Sg → Prop} (hu : c.A.units + 70 < cLine) (h1 : σ a = some (.list l)) (h2 : σ b = some (.list m)) (p : V.plains 59 l = true) (q : V.plains 59 m = true) (hQ : Q (.bool (decide (l = m))) σ) :
    W2 c (compareOp .Eq) (.ref a) (.ref b) ρ σ Q := fun s x y I rx ry => by
  simp only [Rel] at rx ry; subst rx; subst ry
  obtain ⟨xs, n, ho, rs⟩ := I.obj h1
  obtain ⟨ys, k, ho', rs'⟩ := I.obj h2
  obtain ⟨as, ra⟩ := readsList ho rs p
  obtain ⟨bs, rb⟩ := readsList ho' rs' q
  have la := V.lays 59 l p
  have lb := V.lays 59 m q
  refine SeqAt.compareEq_reads ra rb (by simpa [PyData.canLay0] using la.1) (by simpa [PyData.canLay0] using lb.1) (by simp only [PyData.depth]; lia) ?_
  have e : PyData.eqv (.list (V.pys l)) (.list (V.pys m)) = decide (l = m) := by
    have := V.eqvs 59 59 l m p q
    simp only [PyData.eqv]
    cases h : PyData.eqvAll (V.pys l) (V.pys m) with
    | true => simp [this.mp h]
    | false => have : ¬ l = m := fun e => by rw [this.mpr e] at h; cases h
               simp [this]
  rw [e]
  exact ⟨Stab.refl _, _, σ, I, by simp [Rel], hQ⟩
open Classical in
theorem W2.neList {a b : Addr} {l m : List V} {Q : V → Sg → Prop} (hu : c.A.units + 70 < cLine) (h1 : σ a = some (.list l)) (h2 : σ b = some (.list m)) (p : V.plains 59 l = true) (q : V.plains 59 m = true) (hQ : Q (.bool (decide (l ≠ m))) σ) :
    W2 c (compareOp .NotEq) (.ref a) (.ref b) ρ σ Q := fun s x y I rx ry => by
  simp only [Rel] at rx ry; subst rx; subst ry
  obtain ⟨xs, n, ho, rs⟩ := I.obj h1
  obtain ⟨ys, k, ho', rs'⟩ := I.obj h2
  obtain ⟨as, ra⟩ := readsList ho rs p
  obtain ⟨bs, rb⟩ := readsList ho' rs' q
  have la := V.lays 59 l p
  have lb := V.lays 59 m q
  refine SeqAt.compareNe_reads ra rb (by simpa [PyData.canLay0] using la.1) (by simpa [PyData.canLay0] using lb.1) (by simp only [PyData.depth]; lia) ?_
  have e : PyData.eqv (.list (V.pys l)) (.list (V.pys m)) = decide (l = m) := by
    have := V.eqvs 59 59 l m p q
    simp only [PyData.eqv]
    cases h : PyData.eqvAll (V.pys l) (V.pys m) with
    | true => simp [this.mp h]
    | false => have : ¬ l = m := fun e => by rw [this.mpr e] at h; cases h
               simp [this]
  rw [e]
  refine ⟨Stab.refl _, .bool (!decide (l = m)), σ, I, by simp [Rel], ?_⟩
  rw [← decide_not]; exact hQ

/-! ## tests -/
theorem WT.cmp {l r : Expr} {op : CmpOp} {pos : Pos} {Q : Bool → Sg → Prop} (hh : WE c l ρ σ fun v σ₁ => WE c r ρ σ₁ fun w σ₂ => W2 c (compareOp op) v w ρ σ₂ fun u σ₃ => ∃ b, u = .bool b ∧ Q b σ₃)
    (hm : behindInMarks op r = false := by with_unfolding_all rfl) : WT c (.Compare l [op] [r] pos) ρ σ Q := fun s I =>
  wpAny_isTrue_Compare1 (wpAny_mono (hh s I) (fun x s₁ ⟨st, v, σ₁, I₁, rv, k⟩ => wpAny_mono (k s₁ I₁) (fun y s₂ ⟨st', w, σ₂, I₂, rw', q⟩ =>
    wpAny_mono (q s₂ x y I₂ (rv.stab st') rw') (fun z s₃ hxx => by
      obtain ⟨st'', u, σ₃, I₃, ru, b, e, qb⟩ := hxx
      subst e; simp only [Rel] at ru; subst ru
      exact wpAny_truthy_bool ⟨(st.trans st').trans st'', σ₃, I₃, qb⟩) fun _ _ z => z) fun _ _ z => z) fun _ _ z => z) hm
theorem WT.not {x : Expr} {pos : Pos} {Q : Bool → Sg → Prop} (hh : WT c x ρ σ fun b σ₁ => Q (!b) σ₁) : WT c (.UnaryOp .Not x pos) ρ σ Q := fun s I =>
  wpAny_isTrue_Not (wpAny_mono (hh s I) (fun b s₁ ⟨st, σ₁, I₁, q⟩ => ⟨st, σ₁, I₁, q⟩) fun _ _ z => z)
theorem WT.val {e : Expr} {Q : Bool → Sg → Prop} (hh : WE c e ρ σ fun v σ₁ => ∃ b, v = .bool b ∧ Q b σ₁)
    (he : isTrue e c.env (eval e c.env) = (do let v ← eval e c.env; standAt e.pos; holding [v] (truthy v)) := by k_dflt rfl) : WT c e ρ σ Q := fun s I =>
  wpAny_isTrue_value (wpAny_mono (hh s I) (fun x s₁ hxx => by
    obtain ⟨st, v, σ₁, I₁, r, b, e, q⟩ := hxx
    subst e; simp only [Rel] at r; subst r; exact wpAny_truthy_bool ⟨st, σ₁, I₁, q⟩) fun _ _ z => z) he
/-- a conjunction in a test -/
theorem WT.and2 {x y : Expr} {pos : Pos} {Q : Bool → Sg → Prop} (hh : WT c x ρ σ fun b σ₁ => if b then WT c y ρ σ₁ Q else Q false σ₁) : WT c (.BoolOp .And [x, y] pos) ρ σ Q := fun s I =>
  wpAny_isTrue_BoolOp (wpAny_allTrue_And_cons (wpAny_mono (hh s I) (fun b s₁ hxx => by
    obtain ⟨st, σ₁, I₁, q⟩ := hxx
    cases b with
    | false => exact ⟨st, σ₁, I₁, by simpa using q⟩
    | true =>
      simp only [if_true] at q ⊢
      refine wpAny_allTrue_And_cons (wpAny_mono (q s₁ I₁) (fun b s₂ p => ?_) fun _ _ z => z)
      have p' := p.from st
      cases b with
      | false => exact p'
      | true => exact wpAny_allTrue_And_nil p') fun _ _ z => z))
theorem WT.or2 {x y : Expr} {pos : Pos} {Q : Bool → Sg → Prop} (hh : WT c x ρ σ fun b σ₁ => if b then Q true σ₁ else WT c y ρ σ₁ Q) : WT c (.BoolOp .Or [x, y] pos) ρ σ Q := fun s I =>
  wpAny_isTrue_BoolOp (wpAny_allTrue_Or_cons (wpAny_mono (hh s I) (fun b s₁ hxx => by
    obtain ⟨st, σ₁, I₁, q⟩ := hxx
    cases b with
    | true => exact ⟨st, σ₁, I₁, by simpa using q⟩
    | false =>
      simp only [Bool.false_eq_true, if_false] at q ⊢
      refine wpAny_allTrue_Or_cons (wpAny_mono (q s₁ I₁) (fun b s₂ p => ?_) fun _ _ z => z)
      have p' := p.from st
      cases b with
      | true => exact p'
      | false => exact wpAny_allTrue_Or_nil p') fun _ _ z => z))
theorem WE.ite {t a b : Expr} {pos : Pos} {Q : V → Sg → Prop} (hh : WT c t ρ σ fun k σ₁ => if k then WE c a ρ σ₁ Q else WE c b ρ σ₁ Q) : WE c (.IfExp t a b pos) ρ σ Q := fun s I =>
  wpAny_IfExp (wpAny_mono (hh s I) (fun k s₁ hxx => by
    obtain ⟨st, σ₁, I₁, q⟩ := hxx
    cases k with
    | true => simp only [if_true] at q ⊢; exact wpAny_mono (q s₁ I₁) (fun _ _ p => p.from st) fun _ _ z => z
    | false => simp only [Bool.false_eq_true, if_false] at q ⊢; exact wpAny_mono (q s₁ I₁) (fun _ _ p => p.from st) fun _ _ z => z) fun _ _ z => z)
/-- «x or y», «x and y» as values, of bools -/
theorem WE.or2 {x y : Expr} {pos : Pos} {Q : V → Sg → Prop} (hh : WE c x ρ σ fun v σ₁ => ∃ b, v = .bool b ∧ if b then Q (.bool true) σ₁ else WE c y ρ σ₁ Q) : WE c (.BoolOp .Or [x, y] pos) ρ σ Q := fun s I =>
  wpAny_Or2 (wpAny_mono (hh s I) (fun x s₁ hxx => by
    obtain ⟨st, v, σ₁, I₁, r, b, e, q⟩ := hxx
    subst e; simp only [Rel] at r; subst r
    refine wpAny_truthy_bool ?_
    cases b with
    | true => simp only [if_true] at q ⊢; exact ⟨st, _, σ₁, I₁, by simp [Rel], q⟩
    | false => simp only [Bool.false_eq_true, if_false] at q ⊢; exact wpAny_mono (q s₁ I₁) (fun _ _ p => p.from st) fun _ _ z => z) fun _ _ z => z)

/-! ## displays -/
theorem WL.nil {pos : Pos} {Q : List V → Sg → Prop} (hQ : Q [] σ) : WL c pos [] ρ σ Q := fun s I => wpAny_items_nil ⟨Stab.refl _, [], σ, I, by simp [Rels], hQ⟩
theorem WL.cons {pos : Pos} {e : Expr} {es : List Expr} {Q : List V → Sg → Prop} (hh : WE c e ρ σ fun v σ₁ => WL c pos es ρ σ₁ fun l σ₂ => Q (v :: l) σ₂)
    (he : starEach (e :: es) c.env = (false, eval e c.env) :: starEach es c.env := by k_dflt rfl) : WL c pos (e :: es) ρ σ Q := fun s I =>
  wpAny_items_cons (wpAny_mono (hh s I) (fun x s₁ ⟨st, v, σ₁, I₁, r, k⟩ => wpAny_mono (k s₁ I₁) (fun xs s₂ ⟨st', l, σ₂, I₂, rs, q⟩ =>
    ⟨st.trans st', v :: l, σ₂, I₂, by simp only [Rels]; exact ⟨r.stab st', rs⟩, q⟩) fun _ _ z => z) fun _ _ z => z) he
theorem WE.tup {pos : Pos} {es : List Expr} {k : Nat} {Q : V → Sg → Prop} (hh : WL c pos es ρ σ fun l σ₁ => l.length ≤ 1000000 ∧ Q (.tup l) σ₁) : WE c (.Tuple es k pos) ρ σ Q := fun s I =>
  wpAny_Tuple (wpAny_mono (hh s I) (fun xs s₁ hxx => by
    obtain ⟨st, l, σ₁, I₁, rs, hl, q⟩ := hxx
    have e := rs.length
    refine ⟨by rw [← e, sizeLine_eq]; lia, ?_⟩
    have k : ∀ b o, s₁.heap.get? b = some o → (s₁.heap.push { cls := .type "tuple", data := .seq xs.toArray }).get? b = some o := fun b o e => Heap.get?_push_of_some _ e
    have st2 := stab_of_keep k
    refine ⟨st.trans st2, .tup l, σ₁, Inv.keep (tk := s₁.toks) I₁ k (by simp), ?_, q⟩
    simp only [Rel]
    exact ⟨_, _, rfl, IsTup.new _ _, by simpa using rs.stab st2⟩) fun _ _ z => z)
theorem WE.list {pos : Pos} {es : List Expr} {Q : V → Sg → Prop} (hh : WL c pos es ρ σ fun l σ₁ => l.length ≤ 1000000 ∧ ∀ a, σ₁ a = none → Q (.ref a) (upd σ₁ a (.list l))) : WE c (.List es pos) ρ σ Q := fun s I =>
  wpAny_List (wpAny_mono (hh s I) (fun xs s₁ hxx => by
    obtain ⟨st, l, σ₁, I₁, rs, hl, q⟩ := hxx
    have e := rs.length
    refine ⟨by rw [← e, sizeLine_eq]; lia, ?_⟩
    have k : ∀ b o, s₁.heap.get? b = some o → (s₁.heap.push { cls := .type "list", data := .seq xs.toArray }).get? b = some o := fun b o e => Heap.get?_push_of_some _ e
    have st2 := stab_of_keep k
    exact ⟨st.trans st2, .ref _, _, Inv.alloc (o := .list l) (tk := s₁.toks) I₁ (Nat.le_refl _) k ⟨xs, 0, IsL.new _ _, rs.stab st2⟩, by simp [Rel], q _ (Inv.fresh I₁ (Nat.le_refl _))⟩) fun _ _ z => z)
theorem emptyDict_alloc {Q : V → Sg → Prop} {pos : Pos} (o : O) (ho : ∀ h : Heap, ORel c.B.prog c.B.w (h.push { cls := .type "dict", data := .dict #[] }) h.objs.size o) (hh : ∀ a, σ a = none → Q (.ref a) (upd σ a o)) : WE c (.Dict [] [] pos) ρ σ Q := fun s I =>
  wpAny_Dict_empty (by
    have k : ∀ b o, s.heap.get? b = some o → (s.heap.push { cls := .type "dict", data := .dict #[] }).get? b = some o := fun b o e => Heap.get?_push_of_some _ e
    exact ⟨stab_of_keep k, .ref _, _, Inv.alloc (o := o) (tk := s.toks) I (Nat.le_refl _) k (ho _), by simp [Rel], hh _ (Inv.fresh I (Nat.le_refl _))⟩)
theorem WE.idict {pos : Pos} {Q : V → Sg → Prop} (hh : ∀ a, σ a = none → Q (.ref a) (upd σ a (.idict []))) : WE c (.Dict [] [] pos) ρ σ Q := emptyDict_alloc (.idict []) (fun h => ⟨[], .new _, trivial⟩) hh
theorem WE.sdict {pos : Pos} {Q : V → Sg → Prop} (hh : ∀ a, σ a = none → Q (.ref a) (upd σ a (.sdict []))) : WE c (.Dict [] [] pos) ρ σ Q := emptyDict_alloc (.sdict []) (fun h => ⟨[], .new _, trivial⟩) hh
theorem WE.tdict {pos : Pos} {Q : V → Sg → Prop} (hh : ∀ a, σ a = none → Q (.ref a) (upd σ a (.tdict []))) : WE c (.Dict [] [] pos) ρ σ Q := emptyDict_alloc (.tdict []) (fun h => ⟨[], .new _, trivial⟩) hh

/-! ## slices -/
def WPart (c : Cx) (e : Option Expr) (ρ : Rho) (σ : Sg) (Q : Option Int → Sg → Prop) : Prop := match e with
  | none => Q none σ
  | some e => WE c e ρ σ fun v σ₁ => ∃ i, v = .int i ∧ Q (some i) σ₁
noncomputable def cutList (l : List V) (lo hi : Option Int) : Option (List V) := match lo, hi with
  | none, none => some l
  | some a, none => if 0 ≤ a then some (l.drop a.toNat) else none
  | none, some b => if 0 ≤ b then some (l.take b.toNat) else none
  | some _, some _ => none
theorem cut_rel {h : Heap} {l r : List V} {xs : List Value} {lo hi : Option Int} (rs : Rels h l xs) (e : cutList l lo hi = some r) : Rels h r (slicePick xs.toArray lo hi none).toList := by
  unfold cutList at e
  split at e
  · cases e; rw [slicePick_all]; simpa using rs
  · split at e
    · rename_i h0
      cases e
      obtain ⟨j, rfl⟩ := Int.eq_ofNat_of_zero_le h0
      rw [slicePick_from']; simpa using rs.drop j
    · cases e
  · split at e
    · rename_i h0
      cases e
      obtain ⟨j, rfl⟩ := Int.eq_ofNat_of_zero_le h0
      rw [slicePick_upto']; simpa using rs.take j
    · cases e
  · cases e

theorem WPart.run {e : Option Expr} {Q : Option Int → Sg → Prop} {s : Shared} (I : c.st ρ σ s) (hh : WPart c e ρ σ Q) :
    wpAny (model c.B.prog c.B.w) c.A (evalPart e c.env) (fun x s' => Stab s.heap s'.heap ∧ ∃ i σ', IsPart x i ∧ c.st ρ σ' s' ∧ Q i σ') NoE s := by
  cases e with
  | none => exact evalPart_none_step ⟨Stab.refl _, none, σ, .none, I, hh⟩
  | some e =>
    refine evalPart_some_step (wpAny_mono (hh s I) (fun x s' ⟨st, v, σ', I', r, i, e, q⟩ => ?_) fun _ _ z => z)
    subst e; simp only [Rel] at r; obtain ⟨t, rfl⟩ := r
    exact ⟨st, some i, σ', .int i t, I', q⟩
end
inductive Fl where
  | next | brk | cont
  | ret (v : V)
noncomputable def Fl.val : Fl → V
  | .ret v => v
  | _ => .none
def RelF (h : Heap) : Fl → Flow → Prop
  | .next, f => f = .next
  | .brk, f => f = .brk
  | .cont, f => f = .cont
  | .ret v, f => ∃ x, f = .ret x ∧ Rel h v x
noncomputable def updR (ρ : Rho) (x : Str) (v : V) : Rho := fun y => if y = x then some v else ρ y
theorem updR_same (ρ : Rho) (x : Str) (v : V) : updR ρ x v x = some v := by simp [updR]
theorem updR_ne (ρ : Rho) {x y : Str} (v : V) (h : y ≠ x) : updR ρ x v y = ρ y := by simp [updR, h]

abbrev QS := Fl → Rho → Sg → Prop
inductive PostS (c : Cx) (h : Heap) (Q : QS) (f : Flow) (s' : Shared) : Prop
  | mk (st : Stab h s'.heap) (fl : Fl) (ρ' : Rho) (σ' : Sg) (I : c.st ρ' σ' s') (r : RelF s'.heap fl f) (q : Q fl ρ' σ')
inductive PostA (c : Cx) (h : Heap) (Q : Rho → Sg → Prop) (u : Unit) (s' : Shared) : Prop
  | mk (st : Stab h s'.heap) (ρ' : Rho) (σ' : Sg) (I : c.st ρ' σ' s') (q : Q ρ' σ')
def WS (c : Cx) (st : Stmt) (ρ : Rho) (σ : Sg) (Q : QS) : Prop := ∀ s, c.st ρ σ s → wpAny (model c.B.prog c.B.w) c.A (exec st c.env) (PostS c s.heap Q) NoE s
def WSS (c : Cx) (sts : List Stmt) (ρ : Rho) (σ : Sg) (Q : QS) : Prop := ∀ s, c.st ρ σ s → wpAny (model c.B.prog c.B.w) c.A (execs sts c.env) (PostS c s.heap Q) NoE s
/-- a store of a value into a target -/
def WA (c : Cx) (t : Expr) (v : V) (ρ : Rho) (σ : Sg) (Q : Rho → Sg → Prop) : Prop := ∀ s x, c.st ρ σ s → Rel s.heap v x → wpAny (model c.B.prog c.B.w) c.A (assign t c.env x) (PostA c s.heap Q) NoE s

section
variable {c : Cx} {ρ : Rho} {σ : Sg} {s : Shared} {Q : QS}
theorem PostS.from {h h' : Heap} (st : Stab h h') {f : Flow} {s' : Shared} (p : PostS c h' Q f s') : PostS c h Q f s' := by obtain ⟨a, b0, b1, b2, b3, b4, b5⟩ := p; exact ⟨st.trans a, b0, b1, b2, b3, b4, b5⟩
theorem PostA.from {h h' : Heap} {Q : Rho → Sg → Prop} (st : Stab h h') {f : Unit} {s' : Shared} (p : PostA c h' Q f s') : PostA c h Q f s' := by obtain ⟨a, b0, b1, b2, b3⟩ := p; exact ⟨st.trans a, b0, b1, b2, b3⟩
theorem WSS.nil (hQ : Q .next ρ σ) : WSS c [] ρ σ Q := fun s I => wpAny_execs_nil ⟨Stab.refl _, .next, ρ, σ, I, rfl, hQ⟩
/-- what stands behind a statement -/
def thenS (c : Cx) (rest : List Stmt) (Q : QS) : QS := fun fl ρ' σ' => match fl with
  | .next => WSS c rest ρ' σ' Q
  | fl => Q fl ρ' σ'
theorem WSS.cons {st : Stmt} {rest : List Stmt} (hh : WS c st ρ σ (thenS c rest Q)) : WSS c (st :: rest) ρ σ Q := fun s I =>
  wpAny_execs_cons (wpAny_mono (hh s I) (fun f s₁ hxx => by
    obtain ⟨stb, fl, ρ', σ', I', r, q⟩ := hxx
    cases fl with
    | next => simp only [RelF] at r; subst r; exact wpAny_mono (q s₁ I') (fun _ _ p => p.from stb) fun _ _ z => z
    | brk => simp only [RelF] at r; subst r; exact ⟨stb, .brk, ρ', σ', I', rfl, q⟩
    | cont => simp only [RelF] at r; subst r; exact ⟨stb, .cont, ρ', σ', I', rfl, q⟩
    | ret v => simp only [RelF] at r; obtain ⟨x, rfl, rx⟩ := r; exact ⟨stb, .ret v, ρ', σ', I', ⟨x, rfl, rx⟩, q⟩) fun _ _ z => z)
theorem WSS.one {st : Stmt} (hh : WS c st ρ σ Q) : WSS c [st] ρ σ Q := .cons fun s I => wpAny_mono (hh s I) (fun f s' ⟨stb, fl, ρ', σ', I', r, q⟩ => ⟨stb, fl, ρ', σ', I', r, by
  cases fl with
  | next => exact .nil q
  | brk => exact q
  | cont => exact q
  | ret v => exact q⟩) fun _ _ z => z

/-- a name of the frame stored -/
theorem Cx.st.store {x : Str} {v : V} {y : Value} {Q : Unit → Shared → Prop} (I : c.st ρ σ s) (ok : c.ok) (r : Rel s.heap v y) (hl : c.env.kindOf x = some .local)
    (hQ : ∀ s', c.st (updR ρ x v) σ s' → Stab s.heap s'.heap → Q () s') : wpAny (model c.B.prog c.B.w) c.A (storeName c.env x y) Q NoE s := by
  obtain ⟨m, hn, hm⟩ := I.frame
  refine wpAny_storeName_local hl hn (fun h' hn' hs => ?_) (by rw [ok.fn]; rfl)
  have st : Stab s.heap h' := stab_of_ext (I.hid _ (.head _)).1 hs.extBut
  refine hQ _ ?_ st
  refine Inv.mutHid (o' := .frame (updR ρ x v)) I hs.extBut ⟨_, hn', fun z u e => ?_⟩
  simp only [updR] at e
  by_cases h : z = x
  · simp only [h, if_true, Option.some.injEq] at e ⊢; subst e; exact ⟨y, rfl, r.stab st⟩
  · simp only [h, if_false] at e ⊢; obtain ⟨y', e1, e2⟩ := hm z u e; exact ⟨y', e1, e2.stab st⟩

theorem WA.name {x : Str} {pos : Pos} {v : V} {Q : Rho → Sg → Prop} (ok : c.ok) (hQ : Q (updR ρ x v) σ) (hl : c.env.kindOf x = some .local := by k_dflt rfl) : WA c (.Name x pos) v ρ σ Q := fun s y I r =>
  wpAny_assign_Name (I.store ok r hl fun s' I' st => ⟨st, _, _, I', hQ⟩)

theorem WA.sub {o i : Expr} {pos : Pos} {u : V} {Q : Rho → Sg → Prop} (hh : WE c o ρ σ fun v σ₁ => WE c i ρ σ₁ fun w σ₂ => WSet c v w u ρ σ₂ fun σ₃ => Q ρ σ₃) : WA c (.Subscript o i pos) u ρ σ Q := fun s z I rz => by
  rw [assign_Subscript]
  refine wpAny_bind (wpAny_holding (wpAny_mono (hh s I) (fun x s₁ ⟨st, v, σ₁, I₁, r, k⟩ => ?_) fun _ _ z => z))
  refine wpAny_bind (wpAny_holding (wpAny_mono (k s₁ I₁) (fun y s₂ ⟨st', w, σ₂, I₂, r', q⟩ => ?_) fun _ _ z => z))
  refine wpAny_bind (wpAny_standAt (wpAny_bind (wpAny_holding (wpAny_mono (q s₂ x y z I₂ (r.stab st') r' (rz.stab (st.trans st'))) (fun _ s₃ ⟨st'', σ₃, I₃, qq⟩ => ?_) fun _ _ z => z))))
  exact wpAny_release ⟨(st.trans st').trans st'', ρ, σ₃, I₃, qq⟩

/-- an attribute stored -/
noncomputable def setOK (K : Frag) (C : Addr) (name : Str) : Bool := (findIn K (.ref C) "__setattr__" == some (some (.builtin "object.__setattr__"))) && plainOver K C && (takerIn K C name == some none) && hasDictIn K C
def W2u (c : Cx) (f : Value → Value → Sem Unit) (v w : V) (ρ : Rho) (σ : Sg) (Q : Sg → Prop) : Prop := ∀ s x y, c.st ρ σ s → Rel s.heap v x → Rel s.heap w y → wpAny (model c.B.prog c.B.w) c.A (f x y) (PostU c ρ s.heap Q) NoE s

theorem putName_of {prog : Program} {w : World} {name : Str} {tk : Tok} {y : Value} {od : Obj} {es : Array DictEntry} {ep : Nat} {kvs : List (Str × Value)} (hx : od.ExactDict) (hd : od.data = .dict es ep)
    (hk : KeysOf (strKind prog w) es) (hp : Pairs (strKind prog w) es.toList kvs) (hn : (kvs.map (·.1)).Nodup) :
    ∃ es' ep', Obj.putName name (hashStr w name) (.str name tk) y od = { cls := .type "dict", data := .dict es' ep' } ∧ KeysOf (strKind prog w) es' ∧ Pairs (strKind prog w) es'.toList (stored kvs name y) ∧ ((stored kvs name y).map (·.1)).Nodup ∧ es'.size ≤ es.size + 1 := by
  obtain ⟨oc, odi, oda, osl⟩ := od
  obtain ⟨h1, h2, h3⟩ := hx
  dsimp only at h1 h2 h3 hd
  subst h1 h2 h3 hd
  rw [Obj.putName_eq]
  unfold Obj.putNameByArray
  dsimp only
  have key : (strKind prog w).is name (.str name tk) = true := strKind_is _ _ _ _
  have e : (fun d : DictEntry => d.key.isStr name) = fun d => (strKind prog w).is name d.key := funext fun d => isStr_of name d.key
  have hidx := hp.findIdx name
  have hes : es.findIdx? (fun d => d.key.isStr name) = es.toList.findIdx? (fun d => (strKind prog w).is name d.key) := by
    rw [e]; obtain ⟨l⟩ := es; simp [List.findIdx?_toArray]
  rw [hes, hidx]
  cases q : kvs.findIdx? (fun kv => decide (kv.1 = name)) with
  | some i =>
    have hany : kvs.any (fun kv => decide (kv.1 = name)) = true := by
      rw [← List.findIdx?_isSome, q]; rfl
    refine ⟨_, _, rfl, hk.modify i y, ?_, ?_, by simp⟩
    · have := hp.modify hn (k := name) (i := i) (by rw [hidx, q]) y
      simpa [stored, hany] using this
    · have : (stored kvs name y).map (·.1) = kvs.map (·.1) := by
        simp only [stored, hany, if_true, List.map_map]
        refine List.map_congr_left fun a _ => ?_
        by_cases h : a.1 = name <;> simp [h]
      rw [this]; exact hn
  | none =>
    have hany : kvs.any (fun kv => decide (kv.1 = name)) = false := by
      rw [← List.findIdx?_isSome, q]; rfl
    refine ⟨_, _, rfl, hk.push key y, ?_, ?_, by simp⟩
    · simp only [stored, hany, Bool.false_eq_true, if_false, Array.toList_push]
      have : ∀ {l : List DictEntry} {m : List (Str × Value)}, Pairs (strKind prog w) l m → Pairs (strKind prog w) (l ++ [⟨hashStr w name, .str name tk, y⟩]) (m ++ [(name, y)]) := by
        intro l m h
        induction h with
        | nil => exact .cons key rfl .nil
        | cons a b _ ih => exact .cons a b ih
      exact this hp
    · simp only [stored, hany, Bool.false_eq_true, if_false, List.map_append, List.map_cons, List.map_nil]
      rw [List.nodup_append]
      refine ⟨hn, by simp, ?_⟩
      intro a ha b hb hab
      simp only [List.mem_singleton] at hb
      subst hb; subst hab
      obtain ⟨p, hp1, hp2⟩ := List.mem_map.mp ha
      have := List.any_eq_false.mp hany p hp1
      simp [hp2] at this

theorem W2u.setAttr {a C d : Addr} {fs : List (Str × V)} {attr : Str} {u : V} {Q : Sg → Prop} (h1 : σ a = some (.inst C d)) (h2 : σ d = some (.sdict fs)) (hf : setOK c.B.K C attr = true) (hz : fs.length ≤ 1000)
    (hQ : Q (upd σ d (.sdict (dput fs attr u)))) : W2u c (fun x y => setAttr x attr y) (.ref a) u ρ σ Q := fun s x y I rx ry => by
  simp only [Rel] at rx; subst rx
  obtain ⟨od, kvs, hi, hod, hx, ⟨es, ep, hd, hk, hp⟩, hn, hl, rs⟩ := instAt I h1 h2
  obtain ⟨⟨⟨f1, f2⟩, f3⟩, f4⟩ : ((findIn c.B.K (.ref C) "__setattr__" = some (some (.builtin "object.__setattr__")) ∧ plainOver c.B.K C = true) ∧ takerIn c.B.K C attr = some none) ∧ hasDictIn c.B.K C = true := by simpa [setOK] using hf
  refine set_plain I.X hi f1 ?_
  refine osa_open (s := { s with toks := s.toks + 1 }) I.X hi f2 f3 fun b => ?_
  obtain ⟨cd, hc, hd'⟩ := any_some f4
  have hia : s.heap.get? a = some (instObj C d) := hi.at_
  refine wpAny_bind (wpAny_pure (wpAny_bind (wpAny_bind (wpAny_loadPart hia (wpAny_bind ((looks_clsIn I.X hc).at ?_))))))
  rw [hd']
  refine wpAny_pure (a := some d) (wpAny_bind (wpAny_pure (wpAny_bind ?_)))
  unfold nsSet
  refine wpAny_bind (wpAny_bind (wpAny_askSetting (wpAny_pure (wpAny_bind (wpAny_mkText (wpAny_bind (wpAny_loadPart hod ?_)))))))
  obtain ⟨es', ep', hput, hk', hp', hn', hsz'⟩ := putName_of (prog := c.B.prog) (w := c.B.w) (name := attr) (tk := s.toks + 1) (y := y) hx hd hk hp hn
  have hes : es.size = fs.length := by
    have e1 := hp.length; have e2 := rs.length
    simp only [Array.length_toList] at e1; lia
  rw [hd]
  dsimp only
  have cc : (!es.any (·.key.isStr attr) && es.any (·.refKey)) = false := by
    have hl' := hl attr
    unfold lookIn at hl'
    rw [hd] at hl'
    dsimp only at hl'
    rw [← Array.any_toList, ← Array.any_toList]
    split at hl'
    · rename_i en he
      rw [List.any_eq_true.mpr ⟨en, List.mem_of_find?_eq_some he, List.find?_some he⟩]; rfl
    · split at hl'
      · cases hl'
      · rename_i z; rw [Bool.not_eq_true] at z; rw [z, Bool.and_false]
  rw [aRefKeyMayBeTheName_at, cc]
  refine wpAny_updatePart hod ?_
  have hself : (s.heap.update d (Obj.putName attr (hashStr c.B.w attr) (.str attr (s.toks + 1)) y)).get? d = some { cls := .type "dict", data := .dict es' ep' } := by
    have := Heap.get?_update_self (f := Obj.putName attr (hashStr c.B.w attr) (.str attr (s.toks + 1)) y) hod (by rw [hput]; rfl)
    rw [this, hput]
  refine wpAny_bind (wpAny_lookBehind hself (by exact pastItsLine_dict (by rw [sizeLine_eq]; lia)) ?_)
  have hxt : Heap.ExtBut d s.heap (s.heap.update d (Obj.putName attr (hashStr c.B.w attr) (.str attr (s.toks + 1)) y)) := (Heap.SameBut.update ..).extBut
  have st := I.stabMut h2 hxt
  refine wpAny_pure ⟨st, _, Inv.mut (s := s) (o' := .sdict (dput fs attr u)) (tk := s.toks + 1 + 1) I h2 hxt ⟨stored kvs attr y, ⟨_, es', ep', hself, ⟨rfl, rfl, rfl⟩, rfl, hk', hp', hn'⟩, (dput_rel ry rs).mono fun _ _ q => ⟨q.1, q.2.stab st⟩⟩, hQ⟩

theorem WA.attr {o : Expr} {attr : Str} {pos : Pos} {u : V} {Q : Rho → Sg → Prop} (hh : WE c o ρ σ fun v σ₁ => W2u c (fun x y => setAttr x attr y) v u ρ σ₁ fun σ₂ => Q ρ σ₂) : WA c (.Attribute o attr pos) u ρ σ Q := fun s z I rz => by
  rw [assign_Attribute]
  refine wpAny_bind (wpAny_holding (wpAny_mono (hh s I) (fun x s₁ ⟨st, v, σ₁, I₁, r, k⟩ => ?_) fun _ _ z => z))
  refine wpAny_bind (wpAny_standAt (wpAny_bind (wpAny_holding (wpAny_mono (k s₁ x z I₁ r (rz.stab st)) (fun _ s₂ ⟨st', σ₂, I₂, q⟩ => ?_) fun _ _ z => z))))
  exact wpAny_release ⟨st.trans st', ρ, σ₂, I₂, q⟩

/-- a tuple of two taken apart -/
theorem WA.tup2 {t₁ t₂ : Expr} {k : Nat} {pos : Pos} {v w : V} {Q : Rho → Sg → Prop} (ok : c.ok) (hh : WA c t₁ v ρ σ fun ρ₁ σ₁ => WA c t₂ w ρ₁ σ₁ Q)
    (he : assignEach [t₁, t₂] c.env = [(false, assign t₁ c.env), (false, assign t₂ c.env)] := by k_dflt rfl) : WA c (.Tuple [t₁, t₂] k pos) (.tup [v, w]) ρ σ Q := fun s x I r => by
  simp only [Rel] at r
  obtain ⟨a, xs, rfl, ht, rs⟩ := r
  have e := rs.length
  have hsz : xs.size = 2 := by simpa using e.symm
  refine assign_Tuple_tuple ok.handled ht (by rw [he, hsz]; rfl) (by rw [he]; rfl) fun h' hx => ?_
  obtain ⟨l⟩ := xs
  obtain ⟨x, y, rfl⟩ := list2 (show l.length = 2 from hsz)
  simp only [Rels] at rs
  rw [he]
  have k : ∀ b o, s.heap.get? b = some o → h'.get? b = some o := fun b o e => hx b o (Nat.ne_of_lt (Heap.lt_size e)) e
  have st := stab_of_keep k
  have hL : c.env.locals < h'.objs.size := by
    obtain ⟨m, hn, _⟩ := I.frame
    exact (hn.keeps k).lt
  have I' : c.st ρ σ { s with heap := h' } := by
    refine ⟨fun b o e => k _ _ (I.base b o e), ?_, fun a o e => ⟨(I.objs a o e).1.move (fun _ => k _ _) st, (I.objs a o e).2⟩, fun p hp => ⟨(I.hid p hp).1.move (fun _ => k _ _) st, (I.hid p hp).2⟩, I.nd, Inv.sh' I _ _⟩
    exact Nat.le_of_lt (Nat.lt_of_le_of_lt (I.hid _ (.head _)).2.1 hL)
  show wpAny _ _ (do holding [y] (assign t₁ c.env x); assignInOrder [assign t₂ c.env] [y]) _ _ _
  refine wpAny_bind (wpAny_holding (wpAny_mono (hh _ x I' (rs.1.stab st)) (fun _ s₁ ⟨st₁, ρ₁, σ₁, I₁, q⟩ => ?_) fun _ _ z => z))
  show wpAny _ _ (do holding [] (assign t₂ c.env y); assignInOrder [] []) _ _ _
  refine wpAny_bind (wpAny_holding (wpAny_mono (q _ y I₁ ((rs.2.1.stab st).stab st₁)) (fun _ s₂ p => ?_) fun _ _ z => z))
  exact wpAny_pure (p.from (st.trans st₁))

/-! ## statements -/
theorem WS.assign {t value : Expr} {pos : Pos} (hh : WE c value ρ σ fun v σ₁ => WA c t v ρ σ₁ fun ρ₂ σ₂ => Q .next ρ₂ σ₂)
    (hs : swapsWithSole [t] value pos.line c.env = pure false := by k_dflt rfl) (hw : swappedStores [t] value c.env = pure none := by k_dflt rfl) (he : (assignEach [t] c.env).map (·.2) = [assign t c.env] := by k_dflt rfl) : WS c (.Assign [t] value pos) ρ σ Q := fun s I => by
  refine wpAny_Assign_stores (wpAny_mono (hh s I) (fun x s₁ ⟨st, v, σ₁, I₁, r, k⟩ => ?_) fun _ _ z => z) hs hw
  rw [he]
  exact wpAny_mono (k s₁ x I₁ r) (fun _ s₂ ⟨st', ρ₂, σ₂, I₂, q⟩ => ⟨st.trans st', .next, ρ₂, σ₂, I₂, rfl, q⟩) fun _ _ z => z
theorem WS.augName {x : Str} {p pos : Pos} {op : Operator} {value : Expr} {v : V} (ok : c.ok) (hv : ρ x = some v) (hh : WE c value ρ σ fun w σ₁ => W2 c (inplaceOp op) v w ρ σ₁ fun u σ₂ => Q .next (updR ρ x u) σ₂)
    (hl : c.env.kindOf x = some .local := by k_dflt rfl) : WS c (.AugAssign (.Name x p) op value pos) ρ σ Q := fun s I => by
  obtain ⟨m, hn, hm⟩ := I.frame
  obtain ⟨y, hy, r⟩ := hm x v hv
  refine wpAny_AugAssign_Name (wpAny_loadName_local ok.fn hl hn hy ?_)
  refine wpAny_mono (hh s I) (fun z s₁ ⟨st, w, σ₁, I₁, r', k⟩ => ?_) fun _ _ z => z
  refine wpAny_mono (k s₁ y z I₁ (r.stab st) r') (fun u s₂ ⟨st', u', σ₂, I₂, r'', q⟩ => ?_) fun _ _ z => z
  exact I₂.store ok r'' hl fun s₃ I₃ st'' => ⟨(st.trans st').trans st'', .next, _, _, I₃, rfl, q⟩
theorem WS.augSub {o i value : Expr} {p pos : Pos} {op : Operator} (hh : WE c o ρ σ fun v σ₁ => WE c i ρ σ₁ fun w σ₂ => WSub c v w ρ σ₂ fun old σ₃ => WE c value ρ σ₃ fun u σ₄ => W2 c (inplaceOp op) old u ρ σ₄ fun r σ₅ => WSet c v w r ρ σ₅ fun σ₆ => Q .next ρ σ₆)
    (hi : ∀ ov iv new, augStore i ov iv new = (do holding [new, ov, iv] (setItem ov iv new); release [new, ov, iv] []; pure .next) := by k_dflt (intros; rfl)) : WS c (.AugAssign (.Subscript o i p) op value pos) ρ σ Q := fun s I => by
  refine wpAny_AugAssign_SubscriptAny ?_ hi
  refine wpAny_mono (hh s I) (fun x s₁ ⟨st, v, σ₁, I₁, r, k⟩ => ?_) fun _ _ z => z
  refine wpAny_mono (k s₁ I₁) (fun y s₂ ⟨st2, w, σ₂, I₂, r2, k⟩ => ?_) fun _ _ z => z
  obtain ⟨_, _, _, _, hg⟩ := k s₂ x y I₂ (r.stab st2) r2
  refine wpAny_mono hg (fun old s₃ ⟨st3, ov, σ₃, I₃, r3, k⟩ => ?_) fun _ _ z => z
  refine wpAny_mono (k s₃ I₃) (fun u s₄ ⟨st4, uv, σ₄, I₄, r4, k⟩ => ?_) fun _ _ z => z
  refine wpAny_mono (k s₄ old u I₄ (r3.stab st4) r4) (fun nw s₅ ⟨st5, nv, σ₅, I₅, r5, k⟩ => ?_) fun _ _ z => z
  have sx := (st2.trans st3).trans (st4.trans st5)
  exact wpAny_mono (k s₅ x y nw I₅ (r.stab sx) (r2.stab (st3.trans (st4.trans st5))) r5) (fun _ s₆ ⟨st6, σ₆, I₆, q⟩ => ⟨(st.trans sx).trans st6, .next, ρ, σ₆, I₆, rfl, q⟩) fun _ _ z => z
theorem WS.expr {e : Expr} {pos : Pos} (hh : WE c e ρ σ fun v σ₁ => (v = .none ∨ ∃ i, v = .int i) ∧ Q .next ρ σ₁) (hi : interactive c.env = false := by k_dflt rfl) (hs : swapsWith e none pos.line c.env = pure false := by k_dflt rfl) : WS c (.Expr e pos) ρ σ Q := fun s I =>
  wpAny_Expr (wpAny_mono (hh s I) (fun x s₁ hxx => by
    obtain ⟨st, v, σ₁, I₁, r, hv, q⟩ := hxx
    rcases hv with rfl | ⟨i, rfl⟩
    · simp only [Rel] at r; subst r; exact ⟨st, .next, ρ, σ₁, I₁, rfl, q⟩
    · simp only [Rel] at r; obtain ⟨t, rfl⟩ := r; exact ⟨st, .next, ρ, σ₁, I₁, rfl, q⟩) fun _ _ z => z) hi hs
theorem WS.ifS {t : Expr} {a b : List Stmt} {pos : Pos} (hh : WT c t ρ σ fun k σ₁ => if k then WSS c a ρ σ₁ Q else WSS c b ρ σ₁ Q) : WS c (.If t a b pos) ρ σ Q := fun s I =>
  wpAny_If (wpAny_mono (hh s I) (fun k s₁ hxx => by
    obtain ⟨st, σ₁, I₁, q⟩ := hxx
    cases k with
    | true => simp only [if_true] at q ⊢; exact wpAny_mono (q s₁ I₁) (fun _ _ p => p.from st) fun _ _ z => z
    | false => simp only [Bool.false_eq_true, if_false] at q ⊢; exact wpAny_mono (q s₁ I₁) (fun _ _ p => p.from st) fun _ _ z => z) fun _ _ z => z)
theorem WS.ret {e : Expr} {pos : Pos} (hh : WE c e ρ σ fun v σ₁ => Q (.ret v) ρ σ₁) : WS c (.Return (some e) pos) ρ σ Q := fun s I =>
  wpAny_Return_some (wpAny_mono (hh s I) (fun x s₁ ⟨st, v, σ₁, I₁, r, q⟩ => ⟨st, .ret v, ρ, σ₁, I₁, ⟨x, rfl, r⟩, q⟩) fun _ _ z => z)
theorem WS.cont {pos : Pos} (hQ : Q .cont ρ σ) : WS c (.Continue pos) ρ σ Q := fun s I => wpAny_Continue ⟨Stab.refl _, .cont, ρ, σ, I, rfl, hQ⟩
/-! ## loops -/
/-- while: J with a number that falls -/
theorem WS.whileS {t : Expr} {body orelse : List Stmt} {pos : Pos} (J : Nat → Rho → Sg → Prop) (n : Nat) (h0 : J n ρ σ)
    (turn : ∀ n ρ σ, J n ρ σ → WT c t ρ σ fun b σ₁ => if b then WSS c body ρ σ₁ (fun fl ρ' σ' => match fl with
        | .next | .cont => ∃ m, m < n ∧ J m ρ' σ'
        | .brk => Q .next ρ' σ'
        | .ret v => Q (.ret v) ρ' σ') else WSS c orelse ρ σ₁ Q) : WS c (.While t body orelse pos) ρ σ Q := fun s I => by
  refine wpAny_While ?_
  refine codeAny_whileLoop (fun n s' => Stab s.heap s'.heap ∧ ∃ ρ σ, c.st ρ σ s' ∧ J n ρ σ) ?_ n ⟨Stab.refl _, ρ, σ, I, h0⟩
  rintro n s' ⟨st, ρ, σ, I, hJ⟩
  refine wpAny_mono (turn n ρ σ hJ s' I) (fun b s₁ ⟨st', σ₁, I₁, q⟩ => ?_) fun _ _ z => z.elim
  cases b with
  | true =>
    simp only [if_true] at q ⊢
    refine wpAny_mono (q s₁ I₁) (fun f s₂ ⟨st'', fl, ρ₂, σ₂, I₂, r, q⟩ => ?_) fun _ _ z => z.elim
    have stt := (st.trans st').trans st''
    cases fl with
    | next => simp only [RelF] at r; subst r; obtain ⟨m, hm, hj⟩ := q; exact ⟨m, hm, stt, ρ₂, σ₂, I₂, hj⟩
    | cont => simp only [RelF] at r; subst r; obtain ⟨m, hm, hj⟩ := q; exact ⟨m, hm, stt, ρ₂, σ₂, I₂, hj⟩
    | brk => simp only [RelF] at r; subst r; exact ⟨stt, .next, ρ₂, σ₂, I₂, rfl, q⟩
    | ret v => simp only [RelF] at r; obtain ⟨x, rfl, rx⟩ := r; exact ⟨stt, .ret v, ρ₂, σ₂, I₂, ⟨x, rfl, rx⟩, q⟩
  | false =>
    simp only [Bool.false_eq_true, if_false] at q ⊢
    exact wpAny_mono (q s₁ I₁) (fun f s₂ p => p.from (st.trans st')) fun _ _ z => z.elim
end
/-- one more hidden object -/
noncomputable def Cx.push (c : Cx) (g : Addr × O) : Cx := { c with gs := g :: c.gs }
theorem Cx.ok.push {c : Cx} (ok : c.ok) (g : Addr × O) : (c.push g).ok := ⟨ok.fn, ok.gl, ok.bi, ok.handled, ok.units⟩

section
variable {c : Cx} {ρ : Rho} {σ : Sg} {s : Shared} {Q : QS}

theorem Cx.st.toPush {g : Addr × O} (I : Inv c.B (g :: (c.env.locals, .frame ρ) :: c.gs) σ s) : (c.push g).st ρ σ s := Inv.swap I
theorem Cx.st.ofPush {g : Addr × O} (I : (c.push g).st ρ σ s) : Inv c.B (g :: (c.env.locals, .frame ρ) :: c.gs) σ s := Inv.swap I

/-- what a source of n items gives, by an iterator of its own hidden under gs; T: what must stand while it runs -/
structure Source (c : Cx) (n : Nat) (item : Nat → V → Prop) (it : Addr) (ob : Nat → Obj → Prop) (T : Heap → Sg → Prop) : Prop where
  next : ∀ i s ρ σ (Q : Option Value → Shared → Prop), i < n → T s.heap σ → Inv c.B ((it, .pred (ob i)) :: (c.env.locals, .frame ρ) :: c.gs) σ s →
    (∀ x v s', item i v → Rel s'.heap v x → Stab s.heap s'.heap → Inv c.B ((it, .pred (ob (i + 1))) :: (c.env.locals, .frame ρ) :: c.gs) σ s' → Q (some x) s') → wpAny (model c.B.prog c.B.w) c.A (pyNext (.ref it)) Q NoE s
  done : ∀ s ρ σ (Q : Option Value → Shared → Prop), T s.heap σ → Inv c.B ((it, .pred (ob n)) :: (c.env.locals, .frame ρ) :: c.gs) σ s →
    (∀ s', Stab s.heap s'.heap → Inv c.B ((c.env.locals, .frame ρ) :: c.gs) σ s' → Q none s') → wpAny (model c.B.prog c.B.w) c.A (pyNext (.ref it)) Q NoE s
  quiet : ∀ i o, ob i o → ∀ k, o.cls = .type k → ["enumerate", "zip", "dict_itemiterator", "dict_reverseitemiterator", "odict_iterator", "itertools.zip_longest", "itertools.pairwise"].contains k = false

theorem owned_quiet {M : Model} {A : Around} {E : Value → Shared → Prop} {s : Shared} {t : Expr} {it : Addr} {v : Value} {o : Obj} {Q : Unit → Shared → Prop} (ho : s.heap.get? it = some o)
    (hq : ∀ k, o.cls = .type k → ["enumerate", "zip", "dict_itemiterator", "dict_reverseitemiterator", "odict_iterator", "itertools.zip_longest", "itertools.pairwise"].contains k = false) (h : Q () s) : wpAny M A (letOwnedTupleGo t (.ref it) v) Q E s := by
  have go : wpAny M A (do
      let (.ref r, .ref a) := (Value.ref it, v) | return
      let o ← load r
      match o.cls, o.data with
      | .type n, .fields vs =>
        if ["enumerate", "zip", "dict_itemiterator", "dict_reverseitemiterator", "odict_iterator", "itertools.zip_longest", "itertools.pairwise"].contains n && vs[0]? == some (rawInt a) then
          rule "for.unpacks-the-owned-tuple"
          updateField r 0 .none
      | _, _ => pure ()) Q E s := by
    cases v <;> try exact wpAny_pure h
    dsimp only
    refine wpAny_bind (wpAny_load ho ?_)
    split
    · rename_i n vs e1 e2
      rw [hq n e1]
      exact wpAny_pure h
    · exact wpAny_pure h
  unfold letOwnedTupleGo
  split
  · exact go
  · exact go
  · exact wpAny_pure h

theorem forLoopGo {prog : Program} {w : World} {A : Around} {s : Shared} {R : Result → Shared → Prop} {target : Expr} {it : Value} {body orelse : List Stmt} {env : Env} (I : Nat → Shared → Prop)
    (turn : ∀ n s, I n s → wpAny (model prog w) A (pyNext it) (fun r s₁ => match r with
      | none => wpAny (model prog w) A (execs orelse env) (fun f s₃ => R (.ok f) s₃) NoE s₁
      | some v => wpAny (model prog w) A (letOwnedTupleGo target it v) (fun _ s₁' => wpAny (model prog w) A (assign target env v) (fun _ s₂ => wpAny (model prog w) A (execs body env) (fun f s₃ => match f with
          | .next | .cont => ∃ m, m < n ∧ I m s₃
          | .brk => R (.ok .next) s₃
          | .ret v => R (.ok (.ret v)) s₃) NoE s₂) NoE s₁') NoE s₁) NoE s)
    (n : Nat) (h : I n s) : codeAny (model prog w) A (.forLoop target it body orelse env) R s := by
  refine codeAny_loop' rfl I (fun n s hI => ?_) n h
  show wpAny _ _ ((forTurn target it body orelse env).onRaise (fun x => do noteFrame x env; theTreesLotGoes x)) _ _ s
  refine wpAny_noted ?_
  simp only [forTurn]
  refine wpAny_bind (wpAny_standAt (wpAny_bind (wpAny_onRaise (wpAny_mono (turn n s hI) (fun r s₁ h₁ => ?_) fun _ _ h' => h'.elim))))
  cases r with
  | none => exact wpAny_pure (.inr ⟨rfl, codeAny_block (wpAny_mono h₁ (fun _ _ z => z) fun _ _ z => z.elim)⟩)
  | some v =>
    refine wpAny_bind (wpAny_mono h₁ (fun _ s₁' h₁' => ?_) fun _ _ z => z.elim)
    refine wpAny_bind (wpAny_mono h₁' (fun _ s₂ h₂ => wpAny_bind (wpAny_mono h₂ (fun f s₃ h₃ => ?_) fun _ _ h' => h'.elim)) fun _ _ h' => h'.elim)
    cases f with
    | next => exact wpAny_pure (.inl ⟨rfl, h₃⟩)
    | cont => exact wpAny_pure (.inl ⟨rfl, h₃⟩)
    | brk => exact wpAny_pure h₃
    | ret v => exact wpAny_pure h₃

def turnQ (Q : QS) (J : Rho → Sg → Prop) : QS := fun fl ρ' σ' => match fl with
  | .next | .cont => J ρ' σ'
  | .brk => Q .next ρ' σ'
  | .ret v => Q (.ret v) ρ' σ'

theorem forLoop {n : Nat} {item : Nat → V → Prop} {it : Addr} {ob : Nat → Obj → Prop} {T : Heap → Sg → Prop} (S : Source c n item it ob T) {t : Expr} {body : List Stmt} {h : Heap}
    (J : Nat → Rho → Sg → Prop) (h0 : J 0 ρ σ) (hT : ∀ i ρ σ h', J i ρ σ → Stab s.heap h' → T h' σ) (hst : Stab h s.heap) (I : Inv c.B ((it, .pred (ob 0)) :: (c.env.locals, .frame ρ) :: c.gs) σ s)
    (turn : ∀ g i v ρ σ, i < n → item i v → J i ρ σ → WA (c.push g) t v ρ σ fun ρ₁ σ₁ => WSS (c.push g) body ρ₁ σ₁ (turnQ Q (J (i + 1))))
    (fin : ∀ ρ σ, J n ρ σ → Q .next ρ σ) :
    codeAny (model c.B.prog c.B.w) c.A (.forLoop t (.ref it) body [] c.env) (fun r s' => match r with | .ok f => PostS c h Q f s' | .error e => cameBackBy (model c.B.prog c.B.w) c.A c.env NoE e s') s := by
  refine forLoopGo (fun k s' => Stab s.heap s'.heap ∧ ∃ i ρ σ, k = n - i ∧ i ≤ n ∧ J i ρ σ ∧ Inv c.B ((it, .pred (ob i)) :: (c.env.locals, .frame ρ) :: c.gs) σ s') ?_ n ⟨Stab.refl _, 0, ρ, σ, rfl, Nat.zero_le _, h0, I⟩
  rintro k s' ⟨st, i, ρ, σ, rfl, hi, hJ, I⟩
  by_cases hlt : i < n
  · refine wpAny_mono (S.next i s' ρ σ (fun r s₁ => ∃ x, r = some x ∧ Stab s'.heap s₁.heap ∧ (∃ o, s₁.heap.get? it = some o ∧ ob (i + 1) o) ∧ wpAny (model c.B.prog c.B.w) c.A (assign t c.env x) (PostA (c.push (it, .pred (ob (i + 1)))) s'.heap fun ρ₁ σ₁ => WSS (c.push (it, .pred (ob (i + 1)))) body ρ₁ σ₁ (turnQ Q (J (i + 1)))) NoE s₁) hlt (hT _ _ _ _ hJ st) I
      fun x v s₁ hv rx st₁ I₁ => ⟨x, rfl, st₁, ?_, wpAny_mono (turn (it, .pred (ob (i + 1))) i v ρ σ hlt hv hJ s₁ x (Cx.st.toPush I₁) rx) (fun _ _ p => p.from st₁) fun _ _ z => z⟩) (fun r s₁ hr => ?_) fun _ _ z => z.elim
    · obtain ⟨o, ho, hp, _⟩ := (I₁.hid _ (.head _)).1; exact ⟨o, ho, hp⟩
    · obtain ⟨x, rfl, st₁, ⟨o, ho, hob⟩, hr⟩ := hr
      refine owned_quiet ho (S.quiet _ _ hob) ?_
      refine wpAny_mono hr (fun _ s₂ ⟨st₂, ρ₁, σ₁, I₂, q⟩ => ?_) fun _ _ z => z.elim
      refine wpAny_mono (q s₂ I₂) (fun f s₃ ⟨st₃, fl, ρ₃, σ₃, I₃, r, q⟩ => ?_) fun _ _ z => z.elim
      have stt := (st.trans st₂).trans st₃
      have I₃' := Cx.st.ofPush I₃
      cases fl with
      | next => simp only [RelF] at r; subst r; exact ⟨n - (i + 1), by lia, stt, i + 1, ρ₃, σ₃, rfl, hlt, q, I₃'⟩
      | cont => simp only [RelF] at r; subst r; exact ⟨n - (i + 1), by lia, stt, i + 1, ρ₃, σ₃, rfl, hlt, q, I₃'⟩
      | brk => simp only [RelF] at r; subst r; exact ⟨hst.trans stt, .next, ρ₃, σ₃, I₃'.pop, rfl, q⟩
      | ret v => simp only [RelF] at r; obtain ⟨x, rfl, rx⟩ := r; exact ⟨hst.trans stt, .ret v, ρ₃, σ₃, I₃'.pop, ⟨x, rfl, rx⟩, q⟩
  · have e : i = n := by lia
    subst e
    refine wpAny_mono (S.done s' ρ σ (fun r s₁ => r = none ∧ Stab s'.heap s₁.heap ∧ c.st ρ σ s₁) (hT _ _ _ _ hJ st) I fun s₁ st₁ I₁ => ⟨rfl, st₁, I₁⟩) (fun r s₁ hr => ?_) fun _ _ z => z.elim
    obtain ⟨rfl, st₁, I₁⟩ := hr
    exact wpAny_execs_nil ⟨(hst.trans st).trans st₁, .next, ρ, σ, I₁, rfl, fin ρ σ hJ⟩

/-! ### the sources -/
def obList (l : Addr) (i : Nat) (o : Obj) : Prop := o.cls = .type "list_iterator" ∧ o.data = .fields #[.ref l, .int i 0]
theorem Source.list (ok : c.ok) (l : Addr) (vs : List V) (it : Addr) : Source c vs.length (fun i v => vs[i]? = some v) it (obList l) (fun _ σ => σ l = some (.list vs)) where
  next := fun i s ρ σ Q hi hT I hQ => by
    obtain ⟨o, ho, ⟨hc, hd⟩, _⟩ := (I.hid _ (.head _)).1
    obtain ⟨xs, n, hl, rs⟩ := (I.objs l _ hT).1
    obtain ⟨x, hx, rx⟩ := rs.get (i := i) (v := vs[i]) (by simp [hi])
    refine wpAny_pyNext_list_item ⟨o, ho, hc, hd⟩ hl.isList (x := x) (by simpa using hx) fun h' hit' hs' => ?_
    have st : Stab s.heap h' := stab_of_ext (I.hid _ (.head _)).1 hs'.extBut
    obtain ⟨o', ho', hc', hd'⟩ := hit'
    refine hQ x vs[i] _ (by simp [hi]) (rx.stab st) st ?_
    exact Inv.mutHid (tk := s.toks) (o' := .pred (obList l (i + 1))) I hs'.extBut ⟨o', ho', ⟨hc', by simpa using hd'⟩, by rw [hc']; simp⟩
  done := fun s ρ σ Q hT I hQ => by
    obtain ⟨o, ho, ⟨hc, hd⟩, _⟩ := (I.hid _ (.head _)).1
    obtain ⟨xs, n, hl, rs⟩ := (I.objs l _ hT).1
    have e := rs.length
    refine wpAny_pyNext_list_end ok.handled ⟨o, ho, hc, hd⟩ hl.isList (by simp [e]) fun h' he => ?_
    exact hQ _ (stab_of_ext (I.hid _ (.head _)).1 he) (Inv.dropHid (tk := s.toks) I he)
  quiet := fun i o ⟨hc, _⟩ k e => by rw [hc] at e; cases e; decide

def obTup (t : Addr) (i : Nat) (o : Obj) : Prop := o.cls = .type "tuple_iterator" ∧ o.data = .fields #[.ref t, .int i 0]
theorem Source.tup (ok : c.ok) (t : Addr) (xs : Array Value) (vs : List V) (it : Addr) : Source c vs.length (fun i v => vs[i]? = some v) it (obTup t) (fun h _ => IsTup h t xs ∧ Rels h vs xs.toList) where
  next := fun i s ρ σ Q hi ⟨ht, rs⟩ I hQ => by
    obtain ⟨o, ho, ⟨hc, hd⟩, _⟩ := (I.hid _ (.head _)).1
    obtain ⟨x, hx, rx⟩ := rs.get (i := i) (v := vs[i]) (by simp [hi])
    refine wpAny_pyNext_tuple_item ⟨o, ho, hc, hd⟩ ht (x := x) (by simpa using hx) fun h' hit' hs' => ?_
    have st : Stab s.heap h' := stab_of_ext (I.hid _ (.head _)).1 hs'.extBut
    obtain ⟨o', ho', hc', hd'⟩ := hit'
    refine hQ x vs[i] _ (by simp [hi]) (rx.stab st) st ?_
    exact Inv.mutHid (tk := s.toks) (o' := .pred (obTup t (i + 1))) I hs'.extBut ⟨o', ho', ⟨hc', by simpa using hd'⟩, by rw [hc']; simp⟩
  done := fun s ρ σ Q ⟨ht, rs⟩ I hQ => by
    obtain ⟨o, ho, ⟨hc, hd⟩, _⟩ := (I.hid _ (.head _)).1
    have e := rs.length
    refine wpAny_pyNext_tuple_end ok.handled ⟨o, ho, hc, hd⟩ ht (by simp [e]) fun h' he => ?_
    exact hQ _ (stab_of_ext (I.hid _ (.head _)).1 he) (Inv.dropHid (tk := s.toks) I he)
  quiet := fun i o ⟨hc, _⟩ k e => by rw [hc] at e; cases e; decide

def obRange (a st : Int) (n : Nat) (i : Nat) (o : Obj) : Prop := o = { cls := .type "range_iterator", dict := none, data := .fields #[rawInt (a + (i : Nat) * st), rawInt ((n : Int) - (i : Nat)), rawInt st], slots := #[] }
theorem Source.range (ok : c.ok) (a st : Int) (n : Nat) (it : Addr) : Source c n (fun i v => v = .int (a + i * st)) it (obRange a st n) (fun _ _ => True) where
  next := fun i s ρ σ Q hi _ I hQ => by
    obtain ⟨o, ho, rfl, _⟩ := (I.hid _ (.head _)).1
    refine wpAny_pyNext_range_item ho (by lia) fun h' hit' hs' => ?_
    have stb : Stab s.heap h' := stab_of_ext (I.hid _ (.head _)).1 hs'.extBut
    refine hQ _ (.int (a + i * st)) _ rfl (by simp [Rel]) stb ?_
    have e1 : a + ((i + 1 : Nat) : Int) * st = a + (i : Int) * st + st := by push_cast; rw [Int.add_mul, Int.one_mul, Int.add_assoc]
    have e2 : (n : Int) - ((i + 1 : Nat) : Int) = (n : Int) - (i : Int) - 1 := by push_cast; lia
    exact Inv.mutHid (tk := s.toks + 1) (o' := .pred (obRange a st n (i + 1))) I hs'.extBut ⟨_, hit', by unfold obRange; rw [e1, e2], by simp⟩
  done := fun s ρ σ Q _ I hQ => by
    obtain ⟨o, ho, rfl, _⟩ := (I.hid _ (.head _)).1
    refine wpAny_pyNext_range_end ok.handled ho (by lia) fun h' he => ?_
    exact hQ _ (stab_of_ext (I.hid _ (.head _)).1 he) (Inv.dropHid (tk := s.toks) I he)
  quiet := fun i o hc k e => by rw [hc] at e; cases e; decide

/-! ### for -/
theorem WS.forList {t iter : Expr} {body : List Stmt} {pos : Pos} (ok : c.ok) (hh : WE c iter ρ σ fun v σ₁ => ∃ l vs, v = .ref l ∧ σ₁ l = some (.list vs) ∧ ∃ J : Nat → Rho → Sg → Prop, J 0 ρ σ₁ ∧ (∀ i ρ σ, J i ρ σ → σ l = some (.list vs)) ∧
      (∀ g i v ρ σ, i < vs.length → vs[i]? = some v → J i ρ σ → WA (c.push g) t v ρ σ fun ρ₁ σ₁ => WSS (c.push g) body ρ₁ σ₁ (turnQ Q (J (i + 1)))) ∧ ∀ ρ σ, J vs.length ρ σ → Q .next ρ σ)
    (hs : ∀ x, foldedSetIterable iter c.env x = pure x := by k_dflt (intro _; rfl)) : WS c (.For t iter body [] pos) ρ σ Q := fun s I =>
  wpAny_For (wpAny_mono (hh s I) (fun x s₁ hxx => by
    obtain ⟨st, v, σ₁, I₁, r, l, vs, e, hl, J, h0, hT, turn, fin⟩ := hxx
    subst e; simp only [Rel] at r; subst r
    obtain ⟨xs, n, ho, rs⟩ := I₁.obj hl
    refine wpAny_pyIter_list ho.isList ?_
    have kk : ∀ b o, s₁.heap.get? b = some o → (s₁.heap.push { cls := .type "list_iterator", data := .fields #[.ref l, .int 0 0] }).get? b = some o := fun b o e => Heap.get?_push_of_some _ e
    exact forLoop (Source.list ok l vs s₁.heap.objs.size) J h0 (fun i ρ σ h' hJ _ => hT i ρ σ hJ) (st.trans (stab_of_keep kk))
      (Inv.push (tk := s₁.toks) (o := .pred (obList l 0)) I₁ (Nat.le_refl _) kk ⟨_, Heap.get?_push_size _ rfl, ⟨rfl, rfl⟩, by simp⟩) turn fin) fun _ _ z => z) hs
theorem WS.forTup {t iter : Expr} {body : List Stmt} {pos : Pos} (ok : c.ok) (hh : WE c iter ρ σ fun v σ₁ => ∃ vs, v = .tup vs ∧ ∃ J : Nat → Rho → Sg → Prop, J 0 ρ σ₁ ∧
      (∀ g i v ρ σ, i < vs.length → vs[i]? = some v → J i ρ σ → WA (c.push g) t v ρ σ fun ρ₁ σ₁ => WSS (c.push g) body ρ₁ σ₁ (turnQ Q (J (i + 1)))) ∧ ∀ ρ σ, J vs.length ρ σ → Q .next ρ σ)
    (hs : ∀ x, foldedSetIterable iter c.env x = pure x := by k_dflt (intro _; rfl)) : WS c (.For t iter body [] pos) ρ σ Q := fun s I =>
  wpAny_For (wpAny_mono (hh s I) (fun x s₁ hxx => by
    obtain ⟨st, v, σ₁, I₁, r, vs, e, J, h0, turn, fin⟩ := hxx
    subst e; simp only [Rel] at r
    obtain ⟨a, xs, rfl, ht, rs⟩ := r
    refine wpAny_pyIter_tuple ht ?_
    have kk : ∀ b o, s₁.heap.get? b = some o → (s₁.heap.push { cls := .type "tuple_iterator", data := .fields #[.ref a, .int 0 0] }).get? b = some o := fun b o e => Heap.get?_push_of_some _ e
    have sk := stab_of_keep kk
    exact forLoop (Source.tup ok a xs vs s₁.heap.objs.size) J h0 (fun i ρ σ h' hJ st' => ⟨st' _ _ (sk _ _ ht), (rs.stab sk).stab st'⟩) (st.trans sk)
      (Inv.push (tk := s₁.toks) (o := .pred (obTup a 0)) I₁ (Nat.le_refl _) kk ⟨_, Heap.get?_push_size _ rfl, ⟨rfl, rfl⟩, by simp⟩) turn fin) fun _ _ z => z) hs

/-- a range made in hand: V has no word for it, so the whole call stands in the rule -/
def IsRangeV (h : Heap) (x : Value) (a b st : Int) : Prop := ∃ r t u v, x = .ref r ∧ IsRange h r a b st t u v
def WRange (c : Cx) (e : Expr) (ρ : Rho) (σ : Sg) (Q : Int → Int → Int → Sg → Prop) : Prop := ∀ s, c.st ρ σ s → wpAny (model c.B.prog c.B.w) c.A (eval e c.env) (fun x s' => Stab s.heap s'.heap ∧ ∃ a b st σ', c.st ρ σ' s' ∧ IsRangeV s'.heap x a b st ∧ Q a b st σ') NoE s
noncomputable def rangeN (a b st : Int) : Nat := (Builtin.Range.rangeSize a b st).toNat
theorem rangeSize_nonneg (a b st : Int) : 0 ≤ Builtin.Range.rangeSize a b st := by
  unfold Builtin.Range.rangeSize
  split <;> split <;> first | lia | (have := Int.ediv_nonneg (a := b - a - 1) (b := st) (by lia) (by lia); lia) | (have := Int.ediv_nonneg (a := a - b - 1) (b := -st) (by lia) (by lia); lia)
theorem WS.forRange {t iter : Expr} {body : List Stmt} {pos : Pos} (ok : c.ok) (hh : WRange c iter ρ σ fun a b st σ₁ => Builtin.Range.small a b st = true ∧ ∃ J : Nat → Rho → Sg → Prop, J 0 ρ σ₁ ∧
      (∀ g i ρ σ, i < rangeN a b st → J i ρ σ → WA (c.push g) t (.int (a + i * st)) ρ σ fun ρ₁ σ₁ => WSS (c.push g) body ρ₁ σ₁ (turnQ Q (J (i + 1)))) ∧ ∀ ρ σ, J (rangeN a b st) ρ σ → Q .next ρ σ)
    (hs : ∀ x, foldedSetIterable iter c.env x = pure x := by k_dflt (intro _; rfl)) : WS c (.For t iter body [] pos) ρ σ Q := fun s I =>
  wpAny_For (wpAny_mono (hh s I) (fun x s₁ hxx => by
    obtain ⟨st, a, b, sp, σ₁, I₁, ⟨r, t1, t2, t3, e, hr⟩, hsm, J, h0, turn, fin⟩ := hxx
    subst e
    refine wpAny_pyIter_range hr hsm ?_
    have kk : ∀ b' o, s₁.heap.get? b' = some o → (s₁.heap.push { cls := .type "range_iterator", data := .fields #[rawInt a, rawInt (Builtin.Range.rangeSize a b sp), rawInt sp] }).get? b' = some o := fun b o e => Heap.get?_push_of_some _ e
    have sk := stab_of_keep kk
    refine forLoop (Source.range ok a sp (rangeN a b sp) s₁.heap.objs.size) J h0 (fun _ _ _ _ _ _ => trivial) (st.trans sk)
      (Inv.push (tk := s₁.toks) (o := .pred (obRange a sp (rangeN a b sp) 0)) I₁ (Nat.le_refl _) kk ⟨_, Heap.get?_push_size _ rfl, ?_, by simp⟩) (fun g i v ρ σ hi e hJ => e ▸ turn g i ρ σ hi hJ) fin
    unfold obRange rangeN
    rw [Int.toNat_of_nonneg (rangeSize_nonneg a b sp)]
    simp) fun _ _ z => z) hs
end
noncomputable def keepV (K : Frag) : Value → Bool
  | .ref a => keepIn K (.ref a)
  | .builtin _ => true
  | .type _ => true
  | _ => false
theorem keepsV {M : Model} {K : Frag} {f : Value} (hk : keepV K f = true) (h : Heap) (X : K.In h) : ∃ k, (k = Keeper.frame ∨ k = Keeper.machine ∨ k = Keeper.boundFrame) ∧ Looks M h (keeperOf f) k := by
  cases f <;> simp only [keepV] at hk
  case ref a => exact keeps_K hk h X
  case builtin i => exact ⟨.machine, .inr (.inl rfl), Looks.of_pure rfl⟩
  case type i => exact ⟨.machine, .inr (.inl rfl), Looks.of_pure rfl⟩
  all_goals cases hk

section
variable {c : Cx} {ρ : Rho} {σ : Sg} {s : Shared} {Q : V → Sg → Prop}

theorem starEach_plain {args : List Expr} {env : Env} (hst : starEach args env = args.map fun e => (false, eval e env)) (pos : Pos) : (backTo pos (starEach args env)).any (·.1) = false := by
  rw [hst]
  induction args with
  | nil => rfl
  | cons e es ih =>
    have ih' := ih
    simp only [List.map_cons, backTo, List.any_cons, List.any_map, List.map_map] at *
    simp only [Bool.false_or, Function.comp_def]
    rw [List.any_eq_false]
    intro x _
    simp

theorem callWithV {pos : Pos} {f : Value} {first : List Value} {args : List Expr} {fv : List V} (I : c.st ρ σ s) (hk : keepV c.B.K f = true) (hst : starEach args c.env = args.map fun e => (false, eval e c.env)) (rf : Rels s.heap fv first)
    (hh : WL c pos args ρ σ fun vs σ₂ => WC c f (fv ++ vs) ρ σ₂ Q) : wpAny (model c.B.prog c.B.w) c.A (callWith pos f first (backTo pos (starEach args c.env)) []) (PostE c ρ s.heap Q) NoE s := by
  have hp := starEach_plain hst pos
  refine callWith_of (P := fun h => c.B.K.In h) (by rw [hp]; rfl) (fun h X => keepsV hk h X) ?_
  have key : wpAny (model c.B.prog c.B.w) c.A (spliced (backTo pos (starEach args c.env))) (fun vs s₁ => c.B.K.In s₁.heap ∧ wpAny (model c.B.prog c.B.w) c.A (call f (first ++ vs) []) (PostE c ρ s.heap Q) NoE s₁) NoE s :=
    wpAny_mono (hh s I) (fun xs s₁ ⟨st, vs, σ₁, I₁, rs, q⟩ => ⟨I₁.X, wpAny_mono (q s₁ (first ++ xs) I₁ ((rf.stab st).append rs)) (fun _ _ p => p.from st) fun _ _ z => z⟩) fun _ _ z => z
  cases args with
  | nil =>
    have e : backTo pos (starEach [] c.env) = [] := rfl
    rw [e] at key ⊢
    refine evalArgs_nil3 ?_
    have : wpAny (model c.B.prog c.B.w) c.A (pure [] : Sem (List Value)) (fun vs s₁ => c.B.K.In s₁.heap ∧ wpAny (model c.B.prog c.B.w) c.A (call f (first ++ vs) []) (PostE c ρ s.heap Q) NoE s₁) NoE s := key
    refine ⟨I.X, ?_⟩
    intro Γ p hΓ
    have h2 := this Γ p hΓ
    exact h2.2 Γ p hΓ
  | cons e es =>
    have e1 : backTo pos (starEach (e :: es) c.env) = (false, eval e c.env) :: backTo pos (es.map fun e => (false, eval e c.env)) := by rw [hst]; rfl
    rw [e1] at key ⊢
    exact evalArgs_plain key

/-- a call of a name (a def, a class, a built-in) -/
theorem WE.call {func : Expr} {args : List Expr} {pos : Pos} (hh : WE c func ρ σ fun v σ₁ => ∃ y, v = .raw y ∧ keepV c.B.K y = true ∧ WL c pos args ρ σ₁ fun vs σ₂ => WC c y vs ρ σ₂ Q)
    (hst : starEach args c.env = args.map fun e => (false, eval e c.env) := by k_dflt rfl)
    (he : eval (.Call func args [] pos) c.env = (do callWith pos (← eval func c.env) [] (backTo pos (starEach args c.env)) (backToKw pos (keywordEach [] c.env))) := by k_dflt rfl) : WE c (.Call func args [] pos) ρ σ Q := fun s I =>
  Call_ (wpAny_mono (hh s I) (fun x s₁ hxx => by
    obtain ⟨st, v, σ₁, I₁, r, y, e, hk, k⟩ := hxx
    subst e; simp only [Rel] at r; subst r
    exact wpAny_mono (callWithV I₁ hk hst (fv := []) (by simp [Rels]) k) (fun _ _ p => p.from st) fun _ _ z => z) fun _ _ z => z) he

/-- what a method's name means on a value -/
def WMeth (c : Cx) (name : Str) (v : V) (ρ : Rho) (σ : Sg) (Q : Value → Prop) : Prop := ∀ s x pl (R : Value × List Value → Shared → Prop), c.st ρ σ s → Rel s.heap v x → (∀ y, Q y → keepV c.B.K y = true → R (y, [x]) s) → wpAny (model c.B.prog c.B.w) c.A (getMethod x name pl) R NoE s
theorem WE.meth {o : Expr} {name : Str} {args : List Expr} {apos pos : Pos} {pl : Sem Bool} (hh : WE c o ρ σ fun v σ₁ => WMeth c name v ρ σ₁ fun y => WL c pos args ρ σ₁ fun vs σ₂ => WC c y (v :: vs) ρ σ₂ Q)
    (hst : starEach args c.env = args.map fun e => (false, eval e c.env) := by k_dflt rfl)
    (he : eval (.Call (.Attribute o name apos) args [] pos) c.env = (do
      let ov ← eval o c.env
      standAt apos.atName
      let (f, first) ← holding [ov] (getMethod ov name pl)
      callWith pos f first (backTo pos (starEach args c.env)) []) := by k_dflt rfl) : WE c (.Call (.Attribute o name apos) args [] pos) ρ σ Q := fun s I =>
  MethodCall_ (wpAny_mono (hh s I) (fun x s₁ ⟨st, v, σ₁, I₁, r, k⟩ => k s₁ x pl _ I₁ r fun y hy hk =>
    wpAny_mono (callWithV I₁ hk hst (fv := [v]) (Rels.one r) hy) (fun _ _ p => p.from st) fun _ _ z => z) fun _ _ z => z) he

theorem WMeth.inst {name : Str} {a C d f : Addr} {fs : List (Str × V)} {Q : Value → Prop} (h1 : σ a = some (.inst C d)) (h2 : σ d = some (.sdict fs)) (hg : plainGet c.B.K C name = true) (hf : findIn c.B.K (.ref C) name = some (some (.ref f)))
    (ht : isFn c.B.K (.ref f) = true) (hk : keepV c.B.K (.ref f) = true) (hn : dget fs name = none) (hQ : Q (.ref f)) : WMeth c name (.ref a) ρ σ Q := fun s x pl R I r k => by
  simp only [Rel] at r; subst r
  obtain ⟨od, kvs, hi, hod, hx, _, hnd, hl, rs⟩ := instAt I h1 h2
  refine method_fn I.X hi (plainGet_of hg).1 (plainGet_of hg).2 hf (beq_iff_eq.mp ht) ?_ (k _ hQ hk)
  show (lookIn name od).map _ = _
  rw [hl]
  rcases dget_rel (k := name) rs with ⟨_, e⟩ | ⟨v, y, e, _⟩
  · rw [e]; rfl
  · rw [hn] at e; cases e
theorem WMeth.listM {name : Str} {id : String} {a : Addr} {l : List V} {Q : Value → Prop} (h1 : σ a = some (.list l)) (slot : Slot "list" name id) (hty : typeOf (.builtin id) = pure (.type "method_descriptor")) (hQ : Q (.builtin id)) : WMeth c name (.ref a) ρ σ Q := fun s x pl R I r k => by
  simp only [Rel] at r; subst r
  obtain ⟨xs, n, ho, rs⟩ := I.obj h1
  exact getMethod_builtin ho.isList.typeIs PySem.F.plainAttrs_list slot hty (fun b e => by cases e; exact ⟨_, ho, rfl⟩) (k _ hQ rfl)
theorem WMeth.sdictM {name : Str} {id : String} {a : Addr} {l : List (Str × V)} {Q : Value → Prop} (h1 : σ a = some (.sdict l)) (slot : Slot "dict" name id) (hty : typeOf (.builtin id) = pure (.type "method_descriptor")) (hQ : Q (.builtin id)) : WMeth c name (.ref a) ρ σ Q := fun s x pl R I r k => by
  simp only [Rel] at r; subst r
  obtain ⟨kvs, hd, rs⟩ := I.obj h1
  exact getMethod_builtin hd.typeIs PySem.F.plainAttrs_dict slot hty hd.mapOf.noDict (k _ hQ rfl)
theorem WMeth.tdictM {name : Str} {id : String} {a : Addr} {l : List (List Int × V)} {Q : Value → Prop} (h1 : σ a = some (.tdict l)) (slot : Slot "dict" name id) (hty : typeOf (.builtin id) = pure (.type "method_descriptor")) (hQ : Q (.builtin id)) : WMeth c name (.ref a) ρ σ Q := fun s x pl R I r k => by
  simp only [Rel] at r; subst r
  obtain ⟨kvs, hd, rs⟩ := I.obj h1
  exact getMethod_builtin hd.typeIs PySem.F.plainAttrs_dict slot hty (dictOfH_noDict hd) (k _ hQ rfl)

/-! ## built-ins -/
theorem WC.len_list {a : Addr} {l : List V} (h1 : σ a = some (.list l)) (hl : l.length ≤ 1000000) (hQ : Q (.int l.length) σ) : WC c (.builtin "len") [.ref a] ρ σ Q := fun s xs I rs => by
  match xs, rs with
  | [x], rs =>
    simp only [Rels, Rel] at rs; obtain ⟨rfl, _⟩ := rs
    obtain ⟨ys, n, ho, rs⟩ := I.obj h1
    have e := rs.length
    refine call_len_list ho.isList (by simp; lia) ⟨Stab.refl _, _, σ, I.toks _, ?_, hQ⟩
    simp only [Rel]; exact ⟨_, by rw [e]; simp; rfl⟩
  | [], rs => simp [Rels] at rs
  | _ :: _ :: _, rs => simp [Rels] at rs
theorem WC.len_idict {a : Addr} {l : List (Int × V)} (h1 : σ a = some (.idict l)) (hl : l.length ≤ 1000000) (hQ : Q (.int l.length) σ) : WC c (.builtin "len") [.ref a] ρ σ Q := fun s xs I rs => by
  match xs, rs with
  | [x], rs =>
    simp only [Rels, Rel] at rs; obtain ⟨rfl, _⟩ := rs
    obtain ⟨kvs, hd, rs⟩ := I.obj h1
    have e := rs.length
    refine call_len_dict (I.lo h1) hd (by lia) ⟨Stab.refl _, _, σ, I.toks _, ?_, hQ⟩
    simp only [Rel]; exact ⟨_, by rw [e]⟩
  | [], rs => simp [Rels] at rs
  | _ :: _ :: _, rs => simp [Rels] at rs
theorem WC.abs {i : Int} (hQ : Q (.int (if i < 0 then -i else i)) σ) : WC c (.builtin "abs") [.int i] ρ σ Q := fun s xs I rs => by
  match xs, rs with
  | [x], rs =>
    simp only [Rels, Rel] at rs; obtain ⟨⟨t, rfl⟩, _⟩ := rs
    exact call_abs_int fun u tk => ⟨Stab.refl _, _, σ, I.toks _, by simp [Rel], hQ⟩
  | [], rs => simp [Rels] at rs
  | _ :: _ :: _, rs => simp [Rels] at rs
theorem WC.intInt {i : Int} (hQ : Q (.int i) σ) : WC c (.type "int") [.int i] ρ σ Q := fun s xs I rs => by
  match xs, rs with
  | [x], rs =>
    simp only [Rels, Rel] at rs; obtain ⟨⟨t, rfl⟩, _⟩ := rs
    exact call_int_int ⟨Stab.refl _, .int i, σ, I, by simp [Rel], hQ⟩
  | [], rs => simp [Rels] at rs
  | _ :: _ :: _, rs => simp [Rels] at rs
theorem WC.tuple_list {a : Addr} {l : List V} (h1 : σ a = some (.list l)) (hl : l.length ≤ 1000000) (hQ : Q (.tup l) σ) : WC c (.type "tuple") [.ref a] ρ σ Q := fun s xs I rs => by
  match xs, rs with
  | [x], rs =>
    simp only [Rels, Rel] at rs; obtain ⟨rfl, _⟩ := rs
    obtain ⟨ys, n, ho, rs⟩ := I.obj h1
    have e := rs.length
    refine call_tuple_list (hsz := by rw [List.size_toArray, ← e, sizeLine_eq]; lia) ho.isList fun h' hk => ?_
    have kk : ∀ b o, s.heap.get? b = some o → (h'.push { cls := .type "tuple", data := .seq ys.toArray }).get? b = some o := fun b o e => Heap.get?_push_of_some _ (hk b o e)
    have st := stab_of_keep kk
    have hL : c.env.locals < h'.objs.size := by obtain ⟨m, hn, _⟩ := I.frame; exact (hn.keeps hk).lt
    refine ⟨st, .tup l, σ, ?_, ?_, hQ⟩
    · refine ⟨fun b o e => kk _ _ (I.base b o e), ?_, fun a o e => ⟨(I.objs a o e).1.move (fun _ => kk _ _) st, (I.objs a o e).2⟩, fun p hp => ⟨(I.hid p hp).1.move (fun _ => kk _ _) st, (I.hid p hp).2⟩, I.nd, Inv.sh' I _ s.toks⟩
      rw [Heap.size_push]
      exact Nat.le_succ_of_le (Nat.le_of_lt (Nat.lt_of_le_of_lt (I.hid _ (.head _)).2.1 hL))
    · simp only [Rel]; exact ⟨_, _, rfl, IsTup.new _ _, by simpa using rs.stab st⟩
  | [], rs => simp [Rels] at rs
  | _ :: _ :: _, rs => simp [Rels] at rs

theorem WC.append {a : Addr} {l : List V} {v : V} (h1 : σ a = some (.list l)) (hl : l.length ≤ 1000000) (hQ : Q .none (upd σ a (.list (l ++ [v])))) : WC c (.builtin "list.append") [.ref a, v] ρ σ Q := fun s xs I rs => by
  match xs, rs with
  | [x, y], rs =>
    simp only [Rels, Rel] at rs; obtain ⟨rfl, ry, _⟩ := rs
    obtain ⟨ys, n, ho, rs⟩ := I.obj h1
    have e := rs.length
    refine append_at (its := ys.toArray) (n := n) ho (fun h' hs hD => ?_) (by rw [List.size_toArray, ← e, sizeLine_eq]; lia)
    have st := I.stabMut h1 hs.extBut
    exact ⟨st, .none, _, Inv.mut (o' := .list (l ++ [v])) (tk := s.toks) I h1 hs.extBut ⟨ys ++ [y], n + 1, by unfold IsL; rw [hD]; simp, (rs.stab st).append (Rels.one (ry.stab st))⟩, by simp [Rel], hQ⟩
  | [], rs => simp [Rels] at rs
  | [_], rs => simp [Rels] at rs
  | _ :: _ :: _ :: _, rs => simp [Rels] at rs
theorem WC.pop {a : Addr} {l : List V} {v : V} (h1 : σ a = some (.list (l ++ [v]))) (hl : l.length ≤ 1000000) (hQ : Q v (upd σ a (.list l))) : WC c (.builtin "list.pop") [.ref a] ρ σ Q := fun s xs I rs => by
  match xs, rs with
  | [x], rs =>
    simp only [Rels, Rel] at rs; obtain ⟨rfl, _⟩ := rs
    obtain ⟨ys, n, ho, rs⟩ := I.obj h1
    have e := rs.length
    simp at e
    obtain ⟨y, hy, ry⟩ := rs.get (i := l.length) (v := v) (by simp)
    have hy' : ys.toArray[ys.toArray.size - 1]? = some y := by simp; rw [← e]; simpa using hy
    refine call_meets PySem.F.slot_list_pop ⟨_, ho, rfl⟩ PySem.F.entry_list_pop (PySem.F.args_list_pop_1 _) (MeetsSeq.list_pop_last a ys.toArray n y hy' (by rw [List.size_toArray, ← e, sizeLine_eq]; lia)) ⟨ho, ?_⟩
    have hx : Heap.ExtBut a s.heap (s.heap.update a (Obj.mapSeq fun xs => xs.eraseIdxIfInBounds (ys.toArray.size - 1))) := (Heap.SameBut.update ..).extBut
    have st := I.stabMut h1 hx
    have hself := Heap.get?_update_self (f := Obj.mapSeq fun xs => xs.eraseIdxIfInBounds (ys.toArray.size - 1)) ho (by rfl)
    have hys : ys.toArray.eraseIdxIfInBounds (ys.toArray.size - 1) = (ys.take l.length).toArray := by
      have h3 : ys.length - 1 = l.length := by lia
      apply Array.toList_inj.mp
      simp [Array.eraseIdxIfInBounds]
      rw [if_pos (by lia)]
      simp [List.dropLast_eq_take, h3]
    refine ⟨st, v, _, Inv.mut (s := s) (o' := .list l) (tk := s.toks) I h1 hx ⟨ys.take l.length, n + 1, ?_, ?_⟩, ry.stab st, hQ⟩
    · unfold IsL; rw [hself]; simp only [Obj.mapSeq, hys]; simp [← e]
    · have := (rs.take l.length).stab st; simpa using this
  | [], rs => simp [Rels] at rs
  | _ :: _ :: _, rs => simp [Rels] at rs

theorem WC.get_sdict {a : Addr} {l : List (Str × V)} {k : Str} {d : V} (h1 : σ a = some (.sdict l)) (hQ : Q ((dget l k).getD d) σ) : WC c (.builtin "dict.get") [.ref a, .str k, d] ρ σ Q := fun s xs I rs => by
  match xs, rs with
  | [x, y, z], rs =>
    simp only [Rels, Rel] at rs; obtain ⟨rfl, ⟨t, rfl⟩, rz, _⟩ := rs
    obtain ⟨kvs, hd, rs⟩ := I.obj h1
    refine call_meetsIn PySem.F.slot_dict_get hd.typeIs PySem.F.entry_dict_get (PySem.F.args_dict_get_3 _ _ _) (meets_dict_get_default (strKind c.B.prog c.B.w) (k := k) a (strKind_is _ _ k t) (I.lo h1) z) ⟨_, hd.mapOf, ?_⟩
    rcases dget_rel (k := k) rs with ⟨e, e2⟩ | ⟨v, u, e, e2, rr⟩
    · rw [e2]; rw [e] at hQ; exact ⟨Stab.refl _, _, σ, I.toks _, by simpa using rz, hQ⟩
    · rw [e2]; rw [e] at hQ; exact ⟨Stab.refl _, _, σ, I.toks _, by simpa using rr, hQ⟩
  | [], rs => simp [Rels] at rs
  | [_], rs => simp [Rels] at rs
  | [_, _], rs => simp [Rels] at rs
  | _ :: _ :: _ :: _ :: _, rs => simp [Rels] at rs
theorem WC.get_tdict {a : Addr} {l : List (List Int × V)} {k : List Int} {d : V} (hu : c.A.units + 1 < cLine) (h1 : σ a = some (.tdict l)) (hQ : Q ((dget l k).getD d) σ) : WC c (.builtin "dict.get") [.ref a, .tup (k.map V.int), d] ρ σ Q := fun s xs I rs => by
  match xs, rs with
  | [x, y, z], rs =>
    simp only [Rels] at rs; obtain ⟨rx, ry, rz, _⟩ := rs
    simp only [Rel] at rx; subst rx
    obtain ⟨b, rfl, hb⟩ := isTupleKey_of (prog := c.B.prog) (w := c.B.w) ry
    obtain ⟨kvs, hd, rs⟩ := I.obj h1
    refine call_meetsIn PySem.F.slot_dict_get hd.typeIs PySem.F.entry_dict_get (PySem.F.args_dict_get_3 _ _ _) (meetsH_dict_get_default (tupleKind (intKind c.B.prog c.B.w)) a b (I.lo h1) z) ⟨tupleKind_room_in1 hu, k, kvs, hb, hd, ?_⟩
    rcases dget_relH (k := k) rs with ⟨e, e2⟩ | ⟨v, u, e, e2, rr⟩
    · rw [e2]; rw [e] at hQ; exact ⟨Stab.refl _, _, σ, I.toks _, by simpa using rz, hQ⟩
    · rw [e2]; rw [e] at hQ; exact ⟨Stab.refl _, _, σ, I.toks _, by simpa using rr, hQ⟩
  | [], rs => simp [Rels] at rs
  | [_], rs => simp [Rels] at rs
  | [_, _], rs => simp [Rels] at rs
  | _ :: _ :: _ :: _ :: _, rs => simp [Rels] at rs
end
inductive PostC (B : Base) (gs : List (Addr × O)) (h : Heap) (Q : V → Sg → Prop) (r : Result) (s' : Shared) : Prop
  | mk (st : Stab h s'.heap) (x : Value) (v : V) (σ' : Sg) (e : r = .ok (.ret x)) (I : Inv B gs σ' s') (rx : Rel s'.heap v x) (q : Q v σ')
/-- what a call of f with vs does, from σ, wherever it stands (n frames of room) -/
def Spec (B : Base) (f : Value) (n : Nat) (vs : List V) (σ : Sg) (Q : V → Sg → Prop) : Prop := ∀ A gs s xs, Room A n → Inv B gs σ s → Rels s.heap vs xs → codeAny (model B.prog B.w) A (.call f ⟨xs, []⟩) (PostC B gs s.heap Q) s

theorem Room.mono {A : Around} {n m : Nat} (r : Room A n) (h : m ≤ n) : Room A m := ⟨r.handled, by have := r.depth; lia, by have := r.units; lia⟩
theorem Spec.more {B : Base} {f : Value} {n m : Nat} {vs : List V} {σ : Sg} {Q : V → Sg → Prop} (sp : Spec B f n vs σ Q) (h : n ≤ m) : Spec B f m vs σ Q := fun A gs s xs r I rs => sp A gs s xs (r.mono h) I rs

theorem WC.spec {c : Cx} {ρ : Rho} {σ : Sg} {f : Value} {n : Nat} {vs : List V} {Q : V → Sg → Prop} (r : Room c.A n) (sp : Spec c.B f n vs σ Q) : WC c f vs ρ σ Q := fun s xs I rs =>
  wpAny_call (codeAny_mono (sp c.A _ s xs r I rs) fun r s' ⟨st, x, v, σ', e, I', rx, q⟩ => by subst e; exact ⟨st, v, σ', I', rx, q⟩)

noncomputable def rho0 (names : List Str) (vs : List V) : Rho := fun x => (names.zip vs).reverse.lookup x
theorem rho0_rel {h : Heap} : ∀ {names : List Str} {vs : List V} {xs : List Value}, Rels h vs xs → ∀ x v, rho0 names vs x = some v → ∃ y, (names.zip xs).reverse.lookup x = some y ∧ Rel h v y
  | [], _, _, _, x, v, e => by simp [rho0] at e
  | _ :: _, [], [], _, x, v, e => by simp [rho0] at e
  | _ :: _, [], _ :: _, r, _, _, _ => by simp [Rels] at r
  | _ :: _, _ :: _, [], r, _, _, _ => by simp [Rels] at r
  | n :: ns, v :: vs, y :: ys, r, x, w, e => by
    simp only [Rels] at r
    have ih := rho0_rel (names := ns) r.2 x w
    simp only [rho0, List.zip_cons_cons, List.reverse_cons, List.lookup_append, List.lookup_cons, List.lookup_nil] at e ih ⊢
    have key : ∀ {vs : List V} {ys : List Value}, Rels h vs ys → (ns.zip vs).reverse.lookup x = none → (ns.zip ys).reverse.lookup x = none := by
      intro vs ys r' hn
      rw [List.lookup_eq_none_iff] at hn ⊢
      intro p hp
      rw [List.mem_reverse] at hp
      have : ∀ {ns : List Str} {vs : List V} {ys : List Value}, Rels h vs ys → ∀ p ∈ ns.zip ys, ∃ q ∈ ns.zip vs, q.1 = p.1 := by
        intro ns
        induction ns with
        | nil => intro vs ys r p hp; simp at hp
        | cons n ns ih =>
          intro vs ys r p hp
          match vs, ys, r with
          | [], [], _ => simp at hp
          | _ :: _, [], r => simp [Rels] at r
          | [], _ :: _, r => simp [Rels] at r
          | v :: vs, y :: ys, r =>
            simp only [Rels] at r
            simp only [List.zip_cons_cons, List.mem_cons] at hp
            rcases hp with rfl | hp
            · exact ⟨(n, v), by simp, rfl⟩
            · obtain ⟨q, hq, e⟩ := ih r.2 p hp; exact ⟨q, by simp [hq], e⟩
      obtain ⟨q, hq, e⟩ := this r' p hp
      have := hn q (by rw [List.mem_reverse]; exact hq)
      rwa [e] at this
    cases hl : (ns.zip vs).reverse.lookup x with
    | some u =>
      rw [hl] at e
      simp only [Option.some_or, Option.some.injEq] at e
      subst e
      obtain ⟨y', e1, e2⟩ := ih hl
      exact ⟨y', by rw [e1]; rfl, e2⟩
    | none =>
      rw [hl] at e
      rw [key r.2 hl]
      simp only [Option.none_or] at e ⊢
      by_cases hx : (x == n) = true
      · simp only [hx] at e ⊢; cases e; exact ⟨y, rfl, r.1⟩
      · simp only [hx] at e; cases e

theorem Room.deeper {A : Around} {n : Nat} (r : Room A (n + 1)) (env : Env) : Room (A.deeper env) n := ⟨r.handled, by have := r.depth; show A.depth + 1 + n < _; lia, by have := r.units; show A.units + 3 + 4 * n + 100 < _; lia⟩
theorem Room.ok {c : Cx} {n : Nat} (r : Room c.A n) (hk : c.env.scope.kind = .function) (hg : c.env.globals = mainGlobals) (hb : c.env.builtins = builtinsNs) : c.ok := ⟨hk, hg, hb, r.handled, by have := r.units; lia⟩

/-- the call of a def: its body in a fresh frame -/
theorem Spec.def {B : Base} {f : Addr} {n : Nat} {vs extraV : List V} {extra : List Value} {σ : Sg} {Q : V → Sg → Prop} {oc : Value} {od : Option Addr} {osl : Array (Option Value)} {fd : FuncData} {body : List Stmt} {names : List Str}
    (hK : B.K.lookup f = some ⟨oc, od, .func fd, osl⟩) (hcode : codeIn B.K fd.code fd.qualname = true) (hbody : fd.body = .stmts body)
    (hbind : ∀ s xs, B.K.In s.heap → xs.length = vs.length → BindsTo s fd ⟨xs, []⟩ (names.zip (xs ++ extra))) (hex : ∀ h, Rels h extraV extra)
    (hcell : ∀ x ∈ fd.scope.names, x.2 ≠ .cell) (hloc : ∀ x ∈ names, fd.scope.names.lookup x = some .local)
    (hco : fd.scope.isCoroutine = false) (hgen : fd.scope.isGenerator = false) (hk : fd.scope.kind = .function) (hgl : fd.globals = mainGlobals) (hbi : fd.builtins = builtinsNs)
    (hh : ∀ A gs L, Room A n → σ L = none → WSS ⟨B, A, gs, callEnv fd L f⟩ body (rho0 names (vs ++ extraV)) σ fun fl _ σ' => Q fl.val σ') : Spec B (.ref f) (n + 1) vs σ Q := fun A gs s xs r I rs => by
  have hlen : xs.length = vs.length := rs.length.symm
  refine codeAny_call_def (fd := fd) (body := body) (binds := names.zip (xs ++ extra)) (by have := r.depth; lia) (I.X _ _ hK) rfl (I.T.nolimit) (codeRec_of I.X hcode) hbody (hbind s xs I.X hlen) hcell ?_ ?_ hco hgen hk
  · intro x hx
    exact hloc _ (List.of_mem_zip hx).1
  · intro h₀ hns hkp
    have st := stab_of_keep hkp
    have rs' : Rels h₀ (vs ++ extraV) (xs ++ extra) := (rs.stab st).append (hex _)
    have I' : Inv B ((s.heap.objs.size, .frame (rho0 names (vs ++ extraV))) :: gs) σ { s with heap := h₀, toks := s.toks + (names.zip (xs ++ extra)).length } :=
      Inv.push I (Nat.le_refl _) hkp ⟨_, hns, rho0_rel rs'⟩
    refine wpAny_mono (hh (A.deeper (callEnv fd s.heap.objs.size f)) gs s.heap.objs.size (r.deeper _) (I.fresh (Nat.le_refl _)) _ I') (fun fl s' ⟨st', fv, ρ', σ', I'', rf, q⟩ => ?_) fun _ _ z => z.elim
    refine ⟨st.trans st', _, fv.val, σ', rfl, I''.pop, ?_, q⟩
    cases fv with
    | next => simp only [RelF] at rf; subst rf; simp [Fl.val, Rel]
    | brk => simp only [RelF] at rf; subst rf; simp [Fl.val, Rel]
    | cont => simp only [RelF] at rf; subst rf; simp [Fl.val, Rel]
    | ret v => simp only [RelF] at rf; obtain ⟨x, rfl, rx⟩ := rf; exact rx

/-- the call of a class -/
theorem WC.cls {c : Cx} {ρ : Rho} {σ : Sg} {C fI : Addr} {n : Nat} {vs : List V} {Q : V → Sg → Prop} (r : Room c.A (n + 1)) (hm : makesIn c.B.K C = true) (hi : findIn c.B.K (.ref C) "__init__" = some (some (.ref fI))) (hf : typeIn c.B.K (.ref fI) = some (.type "function"))
    (sp : ∀ a d, σ a = none → σ d = none → a ≠ d → Spec c.B (.ref fI) n (.ref a :: vs) (upd (upd σ d (.sdict [])) a (.inst C d)) fun v σ' => v = .none ∧ Q (.ref a) σ') : WC c (.ref C) vs ρ σ Q := fun s xs I rs => by
  obtain ⟨h, g, dr, t, os⟩ := s
  refine wpAny_call ?_
  have k1 : ∀ b o, h.get? b = some o → (h.push emptyDict).get? b = some o := fun b o e => Heap.get?_push_of_some _ e
  have k2 : ∀ b o, (h.push emptyDict).get? b = some o → ((h.push emptyDict).push (instObj C h.objs.size)).get? b = some o := fun b o e => Heap.get?_push_of_some _ e
  have I0 : Inv c.B ((c.env.locals, .frame ρ) :: c.gs) σ ⟨h, g, dr, t, os⟩ := I
  have I1 := Inv.alloc (o := .sdict []) (tk := t) I0 (Nat.le_refl _) k1 ⟨[], .new _, trivial⟩
  have I2 := Inv.alloc (a := h.objs.size + 1) (o := .inst C h.objs.size) (tk := t) I1 (by show (h.push emptyDict).objs.size ≤ _; rw [Heap.size_push]; exact Nat.le_refl _) k2 (by
    show ((h.push emptyDict).push (instObj C h.objs.size)).get? (h.objs.size + 1) = _
    have := Heap.get?_push_size (h.push emptyDict) (o := instObj C h.objs.size) rfl
    rw [Heap.size_push] at this
    exact this)
  have st := stab_of_keep fun b o e => k2 b o (k1 b o e)
  have rr : Room (c.A.under (.builtin "type.__call__" ⟨.ref C :: xs, []⟩)) n := ⟨r.handled, by
    have := r.depth
    show c.A.depth + 1 + n < _
    lia, by
    have := r.units
    show c.A.units + 1 + 4 * n + 100 < _
    lia⟩
  refine make_core (init := .ref fI) (makes_of I0.X hm) (looks_findIn I0.X hi) (fun self => bind_fn I0.X self hf) (.inl rfl) ?_
  refine codeAny_mono (sp (h.objs.size + 1) h.objs.size (I0.fresh (Nat.le_succ _)) (I0.fresh (Nat.le_refl _)) (Nat.ne_of_gt (Nat.lt_succ_self _)) _ _ _ (.ref (h.objs.size + 1) :: xs) rr I2 (by
    simp only [Rels]; exact ⟨by simp [Rel], rs.stab st⟩)) fun r s' ⟨st', x, v, σ', e, I', rx, hv, q⟩ => ?_
  subst e; subst hv
  simp only [Rel] at rx
  exact ⟨rx, st.trans st', _, σ', I', by simp [Rel], q⟩

/-! ## ranges -/
section
variable {c : Cx} {ρ : Rho} {σ : Sg} {Q : Int → Int → Int → Sg → Prop}
theorem rangeStep {c : Cx} {ρ : Rho} {σ : Sg} {s : Shared} (I : c.st ρ σ s) (o : Obj) (tk : Nat) : Stab s.heap (s.heap.push o) ∧ c.st ρ σ { s with heap := s.heap.push o, toks := tk } := by
  have k1 : ∀ b ob, s.heap.get? b = some ob → (s.heap.push o).get? b = some ob := fun b o e => Heap.get?_push_of_some _ e
  exact ⟨stab_of_keep k1, Inv.keep I k1 (by simp)⟩

theorem WRange.one {fe e : Expr} {pos : Pos} (hf : WE c fe ρ σ fun v σ₁ => v = .raw (.type "range") ∧ WE c e ρ σ₁ fun w σ₂ => ∃ i, w = .int i ∧ Q 0 i 1 σ₂)
    (hst : starEach [e] c.env = [(false, eval e c.env)] := by k_dflt rfl)
    (he : eval (.Call fe [e] [] pos) c.env = (do callWith pos (← eval fe c.env) [] (backTo pos (starEach [e] c.env)) (backToKw pos (keywordEach [] c.env))) := by k_dflt rfl) : WRange c (.Call fe [e] [] pos) ρ σ Q := fun s I =>
  Call_ (wpAny_mono (hf s I) (fun x s₁ hxx => by
    obtain ⟨st, v, σ₁, I₁, r, e', k⟩ := hxx
    subst e'; simp only [Rel] at r; subst r
    have e1 : backTo pos (starEach [e] c.env) = [(false, eval e c.env)] := by rw [hst]; rfl
    refine callWith_of (P := fun _ => True) (by rw [e1]; rfl) (fun h _ => ⟨.machine, .inr (.inl rfl), Looks.of_pure rfl⟩) ?_
    rw [e1]
    refine evalArgs_plain (Calls.spliced_cons (wpAny_mono (k s₁ I₁) (fun y s₂ ⟨st', w, σ₂, I₂, r', i, e2, q⟩ => Calls.spliced_nil ⟨trivial, ?_⟩) fun _ _ z => z))
    subst e2; simp only [Rel] at r'; obtain ⟨t, rfl⟩ := r'
    refine call_range_1 ?_
    have := rangeStep I₂ { cls := .type "range", data := .fields #[.int 0 s₂.toks, .int i t, .int 1 (s₂.toks + 1)] } (s₂.toks + 1 + 1)
    exact ⟨(st.trans st').trans this.1, 0, i, 1, σ₂, this.2, ⟨_, _, _, _, rfl, IsRange.new _ _ _ _ _ _ _⟩, q⟩) fun _ _ z => z) he
theorem WRange.three {fe e₁ e₂ e₃ : Expr} {pos : Pos} (hf : WE c fe ρ σ fun v σ₁ => v = .raw (.type "range") ∧ WE c e₁ ρ σ₁ fun w σ₂ => ∃ i, w = .int i ∧ WE c e₂ ρ σ₂ fun u σ₃ => ∃ j, u = .int j ∧ WE c e₃ ρ σ₃ fun u σ₄ => ∃ k : Int, u = .int k ∧ k ≠ 0 ∧ k.natAbs < 1000 ∧ Q i j k σ₄)
    (hst : starEach [e₁, e₂, e₃] c.env = [(false, eval e₁ c.env), (false, eval e₂ c.env), (false, eval e₃ c.env)] := by k_dflt rfl)
    (he : eval (.Call fe [e₁, e₂, e₃] [] pos) c.env = (do callWith pos (← eval fe c.env) [] (backTo pos (starEach [e₁, e₂, e₃] c.env)) (backToKw pos (keywordEach [] c.env))) := by k_dflt rfl) : WRange c (.Call fe [e₁, e₂, e₃] [] pos) ρ σ Q := fun s I =>
  Call_ (wpAny_mono (hf s I) (fun x s₁ hxx => by
    obtain ⟨st, v, σ₁, I₁, r, e', k⟩ := hxx
    subst e'; simp only [Rel] at r; subst r
    have e1 : backTo pos (starEach [e₁, e₂, e₃] c.env) = [(false, eval e₁ c.env), (false, eval e₂ c.env), (false, eval e₃ c.env)] := by rw [hst]; rfl
    refine callWith_of (P := fun _ => True) (by rw [e1]; rfl) (fun h _ => ⟨.machine, .inr (.inl rfl), Looks.of_pure rfl⟩) ?_
    rw [e1]
    refine evalArgs_plain (Calls.spliced_cons (wpAny_mono (k s₁ I₁) (fun y s₂ ⟨st2, w, σ₂, I₂, r', i, e2, k⟩ => Calls.spliced_cons (wpAny_mono (k s₂ I₂) (fun z s₃ ⟨st3, u, σ₃, I₃, r'', j, e3, k⟩ => Calls.spliced_cons (wpAny_mono (k s₃ I₃) (fun z s₄ ⟨st4, u, σ₄, I₄, r3, kk, e4, hk0, hk1, q⟩ => Calls.spliced_nil ⟨trivial, ?_⟩) fun _ _ z => z)) fun _ _ z => z)) fun _ _ z => z))
    subst e2; simp only [Rel] at r'; obtain ⟨t, rfl⟩ := r'
    subst e3; simp only [Rel] at r''; obtain ⟨t', rfl⟩ := r''
    subst e4; simp only [Rel] at r3; obtain ⟨t3, rfl⟩ := r3
    refine call_range_3 hk0 ?_ (.inl (PyProof.noPylong_small (by lia)))
    have := rangeStep I₄ { cls := .type "range", data := .fields #[.int i t, .int j t', .int kk t3] } s₄.toks
    exact ⟨(((st.trans st2).trans st3).trans st4).trans this.1, i, j, kk, σ₄, this.2, ⟨_, _, _, _, rfl, IsRange.new _ _ _ _ _ _ _⟩, q⟩) fun _ _ z => z) he
end
noncomputable def namesOf (fd : FuncData) : List Str := fd.params.args.map (·.arg)
noncomputable def bodyOf (fd : FuncData) : List Stmt := match fd.body with
  | .stmts b => b
  | _ => []
structure FnOK (K : Frag) (f : Addr) (fd : FuncData) : Prop where
  look : ∃ oc od osl, K.lookup f = some ⟨oc, od, .func fd, osl⟩
  code : codeIn K fd.code fd.qualname = true
  body : fd.body = .stmts (bodyOf fd)
  bind : ∀ xs : List Value, xs.length = (namesOf fd).length → bindArgs fd ⟨xs, []⟩ = pure ((namesOf fd).zip xs)
  cell : (fd.scope.names.all fun x => decide (x.2 ≠ .cell)) = true
  loc : ((namesOf fd).all fun x => decide (fd.scope.names.lookup x = some .local)) = true
  co : fd.scope.isCoroutine = false
  gen : fd.scope.isGenerator = false
  kind : fd.scope.kind = .function
  gl : fd.globals = mainGlobals
  bi : fd.builtins = builtinsNs

theorem Spec.fn {B : Base} {f : Addr} {n : Nat} {vs : List V} {σ : Sg} {Q : V → Sg → Prop} {fd : FuncData} (F : FnOK B.K f fd) (hl : vs.length = (namesOf fd).length)
    (hh : ∀ A gs L, Room A n → σ L = none → WSS ⟨B, A, gs, callEnv fd L f⟩ (bodyOf fd) (rho0 (namesOf fd) vs) σ fun fl _ σ' => Q fl.val σ') : Spec B (.ref f) (n + 1) vs σ Q := by
  obtain ⟨oc, od, osl, hK⟩ := F.look
  refine Spec.def (extra := []) (extraV := []) (names := namesOf fd) hK F.code F.body (fun s xs _ e => .of_eq ?_) (fun _ => by simp [Rels]) (fun x hx => of_decide_eq_true (List.all_eq_true.mp F.cell x hx)) (fun x hx => of_decide_eq_true (List.all_eq_true.mp F.loc x hx)) F.co F.gen F.kind F.gl F.bi ?_
  · rw [List.append_nil]; exact F.bind xs (e.trans hl)
  · intro A gs L r h
    rw [List.append_nil]
    exact hh A gs L r h

theorem FnOK.okc {B : Base} {f : Addr} {fd : FuncData} (F : FnOK B.K f fd) {A : Around} {gs : List (Addr × O)} {L : Addr} {n : Nat} (r : Room A n) : Cx.ok ⟨B, A, gs, callEnv fd L f⟩ := r.ok (c := ⟨B, A, gs, callEnv fd L f⟩) F.kind F.gl F.bi

theorem bind1 {fd : FuncData} (hn : (namesOf fd).length = 1) (h : ∀ a, bindArgs fd ⟨[a], []⟩ = pure ((namesOf fd).zip [a])) : ∀ xs : List Value, xs.length = (namesOf fd).length → bindArgs fd ⟨xs, []⟩ = pure ((namesOf fd).zip xs)
  | [a], _ => h a
  | [], e => by rw [hn] at e; cases e
  | _ :: _ :: _, e => by rw [hn] at e; simp at e
theorem bind0 {fd : FuncData} (hn : (namesOf fd).length = 0) (h : bindArgs fd ⟨[], []⟩ = pure ((namesOf fd).zip [])) : ∀ xs : List Value, xs.length = (namesOf fd).length → bindArgs fd ⟨xs, []⟩ = pure ((namesOf fd).zip xs)
  | [], _ => h
  | _ :: _, e => by rw [hn] at e; simp at e
theorem bind2 {fd : FuncData} (hn : (namesOf fd).length = 2) (h : ∀ a b, bindArgs fd ⟨[a, b], []⟩ = pure ((namesOf fd).zip [a, b])) : ∀ xs : List Value, xs.length = (namesOf fd).length → bindArgs fd ⟨xs, []⟩ = pure ((namesOf fd).zip xs)
  | [a, b], _ => h a b
  | [], e => by rw [hn] at e; cases e
  | [_], e => by rw [hn] at e; simp at e
  | _ :: _ :: _ :: _, e => by rw [hn] at e; simp at e
theorem bind3 {fd : FuncData} (hn : (namesOf fd).length = 3) (h : ∀ a b c, bindArgs fd ⟨[a, b, c], []⟩ = pure ((namesOf fd).zip [a, b, c])) : ∀ xs : List Value, xs.length = (namesOf fd).length → bindArgs fd ⟨xs, []⟩ = pure ((namesOf fd).zip xs)
  | [a, b, c], _ => h a b c
  | [], e => by rw [hn] at e; cases e
  | [_], e => by rw [hn] at e; simp at e
  | [_, _], e => by rw [hn] at e; simp at e
  | _ :: _ :: _ :: _ :: _, e => by rw [hn] at e; simp at e
section
variable {c : Cx} {ρ : Rho} {σ : Sg}
theorem WE.globI {x : Str} {pos : Pos} {i : Int} {Q : V → Sg → Prop} (ok : c.ok) (hy : ∃ t, nsIn c.B.K mainGlobals x = some (some (.int i t))) (hQ : Q (.int i) σ)
    (hl : c.env.kindOf x = some .globalImplicit := by k_dflt rfl) (hd : (x == ("__debug__" : Str)) = false := by k_dflt decide) : WE c (.Name x pos) ρ σ Q :=
  let ⟨t, h⟩ := hy; .glob ok h (fun _ => by simp [Rel]) hQ hl hd
theorem WE.globR {x : Str} {pos : Pos} {y : Value} {Q : V → Sg → Prop} (ok : c.ok) (hy : nsIn c.B.K mainGlobals x = some (some y)) (hQ : Q (.raw y) σ)
    (hl : c.env.kindOf x = some .globalImplicit := by k_dflt rfl) (hd : (x == ("__debug__" : Str)) = false := by k_dflt decide) : WE c (.Name x pos) ρ σ Q := .glob ok hy (fun _ => by simp [Rel]) hQ hl hd
theorem thenS_next {rest : List Stmt} {Q : QS} (h : WSS c rest ρ σ Q) : thenS c rest Q .next ρ σ := h
theorem thenS_ret {rest : List Stmt} {Q : QS} {v : V} (h : Q (.ret v) ρ σ) : thenS c rest Q (.ret v) ρ σ := h
theorem thenS_cont {rest : List Stmt} {Q : QS} (h : Q .cont ρ σ) : thenS c rest Q .cont ρ σ := h
theorem iteB {p : Prop} [Decidable p] {X Y : Prop} (h1 : p → X) (h2 : ¬ p → Y) : if decide p = true then X else Y := by
  by_cases h : p
  · simp only [h, decide_true, if_true]; exact h1 h
  · simp only [h, decide_false, Bool.false_eq_true, if_false]; exact h2 h
theorem iteNB {p : Prop} [Decidable p] {X Y : Prop} (h1 : ¬ p → X) (h2 : p → Y) : if (!decide p) = true then X else Y := by
  by_cases h : p
  · simp only [h, decide_true, Bool.not_true, Bool.false_eq_true, if_false]; exact h2 h
  · simp only [h, decide_false, Bool.not_false, if_true]; exact h1 h
theorem iteV {b : Bool} {X Y : Prop} (h1 : b = true → X) (h2 : b = false → Y) : if b = true then X else Y := by
  cases b with
  | true => simp only [if_true]; exact h1 rfl
  | false => simp only [Bool.false_eq_true, if_false]; exact h2 rfl
theorem iteT {X Y : Prop} (h : X) : if true = true then X else Y := by simpa using h
theorem iteF {X Y : Prop} (h : Y) : if false = true then X else Y := by simpa using h
end
section
variable {c : Cx} {ρ : Rho} {σ : Sg}
theorem WE.callR {f : Value} {func : Expr} {args : List Expr} {pos : Pos} {Q : V → Sg → Prop} (hf : ∀ Q' : V → Sg → Prop, Q' (.raw f) σ → WE c func ρ σ Q') (hk : keepV c.B.K f = true) (hh : WL c pos args ρ σ fun vs σ₂ => WC c f vs ρ σ₂ Q)
    (hst : starEach args c.env = args.map fun e => (false, eval e c.env) := by k_dflt rfl)
    (he : eval (.Call func args [] pos) c.env = (do callWith pos (← eval func c.env) [] (backTo pos (starEach args c.env)) (backToKw pos (keywordEach [] c.env))) := by k_dflt rfl) : WE c (.Call func args [] pos) ρ σ Q :=
  WE.call (hf _ ⟨f, rfl, hk, hh⟩) hst he
theorem rho0_hit {n : Str} {ns : List Str} {v : V} {vs : List V} (h : n ∉ ns) : rho0 (n :: ns) (v :: vs) n = some v := by
  simp only [rho0, List.zip_cons_cons, List.reverse_cons, List.lookup_append, List.lookup_cons, List.lookup_nil]
  have : (ns.zip vs).reverse.lookup n = none := by
    rw [List.lookup_eq_none_iff]
    intro p hp
    rw [List.mem_reverse] at hp
    have := (List.of_mem_zip (a := p.1) (b := p.2) hp).1
    simp
    rintro rfl
    exact h this
  rw [this]; simp
theorem rho0_miss {n x : Str} {ns : List Str} {v : V} {vs : List V} (h : x ≠ n) : rho0 (n :: ns) (v :: vs) x = rho0 ns vs x := by
  simp only [rho0, List.zip_cons_cons, List.reverse_cons, List.lookup_append, List.lookup_cons, List.lookup_nil]
  have : (x == n) = false := by simpa using h
  rw [this]; simp
def whileQ (Q : QS) (J : Nat → Rho → Sg → Prop) (n : Nat) : QS := fun fl ρ' σ' => match fl with
  | .next | .cont => ∃ m, m < n ∧ J m ρ' σ'
  | .brk => Q .next ρ' σ'
  | .ret v => Q (.ret v) ρ' σ'
theorem WS.loop {Q : QS} {t : Expr} {body orelse : List Stmt} {pos : Pos} (J : Nat → Rho → Sg → Prop) (n : Nat) (h0 : J n ρ σ)
    (turn : ∀ n ρ σ, J n ρ σ → WT c t ρ σ fun b σ₁ => if b then WSS c body ρ σ₁ (whileQ Q J n) else WSS c orelse ρ σ₁ Q) : WS c (.While t body orelse pos) ρ σ Q := WS.whileS J n h0 turn
theorem whileQ_next {Q : QS} {J : Nat → Rho → Sg → Prop} {n : Nat} (m : Nat) (h : m < n) (hJ : J m ρ σ) : whileQ Q J n .next ρ σ := ⟨m, h, hJ⟩
theorem whileQ_cont {Q : QS} {J : Nat → Rho → Sg → Prop} {n : Nat} (m : Nat) (h : m < n) (hJ : J m ρ σ) : whileQ Q J n .cont ρ σ := ⟨m, h, hJ⟩
theorem whileQ_ret {Q : QS} {J : Nat → Rho → Sg → Prop} {n : Nat} {v : V} (h : Q (.ret v) ρ σ) : whileQ Q J n (.ret v) ρ σ := h
theorem turnQ_next {Q : QS} {J : Rho → Sg → Prop} (hJ : J ρ σ) : turnQ Q J .next ρ σ := hJ
theorem ne_ob {σ : Sg} {a b : Addr} {o o' : O} (h1 : σ a = some o) (h2 : σ b = some o') (h : o ≠ o') : a ≠ b := by
  rintro rfl; rw [h1] at h2; exact h (Option.some.inj h2)
theorem ne_fr {σ : Sg} {a b : Addr} {o : O} (h1 : σ a = none) (h2 : σ b = some o) : a ≠ b := by
  rintro rfl; rw [h1] at h2; cases h2
theorem ne_fr' {σ : Sg} {a b : Addr} {o : O} (h1 : σ a = some o) (h2 : σ b = none) : a ≠ b := fun e => ne_fr h2 h1 e.symm
theorem upd_at {σ : Sg} {a b : Addr} {o : O} {r : Option O} (h : b ≠ a) (hr : σ b = r) : upd σ a o b = r := (upd_ne _ _ h).trans hr
theorem W2.eqI {a b : Int} {Q : V → Sg → Prop} (hu : c.A.units + 70 < cLine) (hQ : Q (.bool (decide (a = b))) σ) : W2 c (compareOp .Eq) (.int a) (.int b) ρ σ Q := by
  refine W2.eq hu rfl rfl ?_
  have : (@decide (V.int a = V.int b) (Classical.propDecidable _)) = decide (a = b) := by simp
  rw [this]; exact hQ
/-- a cell -/
abbrev Cell := Int × Int
noncomputable def enc (x : Cell) : V := .tup [.int x.1, .int x.2]
theorem enc_inj {x y : Cell} : enc x = enc y ↔ x = y := by
  constructor
  · intro h; simp only [enc, V.tup.injEq, List.cons.injEq, V.int.injEq, and_true] at h; exact Prod.ext h.1 h.2
  · rintro rfl; rfl
theorem W2.eqC {x y : Cell} {Q : V → Sg → Prop} (hu : c.A.units + 70 < cLine) (hQ : Q (.bool (decide (x = y))) σ) : W2 c (compareOp .Eq) (enc x) (enc y) ρ σ Q := by
  refine W2.eq hu rfl rfl ?_
  have : (@decide (enc x = enc y) (Classical.propDecidable _)) = decide (x = y) := by simp [enc_inj]
  rw [this]; exact hQ
theorem WSub.cell0 {x : Cell} {Q : V → Sg → Prop} (hQ : Q (.int x.1) σ) : WSub c (enc x) (.int 0) ρ σ Q := WSub.tup (by decide) (by decide) rfl hQ
theorem WSub.cell1 {x : Cell} {Q : V → Sg → Prop} (hQ : Q (.int x.2) σ) : WSub c (enc x) (.int 1) ρ σ Q := WSub.tup (by decide) (by decide) rfl hQ
theorem WSub.cells {a : Addr} {H : List Cell} {k : Int} {x : Cell} {Q : V → Sg → Prop} (h1 : σ a = some (.list (H.map enc))) (h0 : 0 ≤ k) (hu : H[k.toNat]? = some x) (hz : H.length ≤ 1000000) (hQ : Q (enc x) σ) : WSub c (.ref a) (.int k) ρ σ Q :=
  WSub.list h1 h0 (by have := (List.getElem?_eq_some_iff.mp hu).1; lia) (by simp [hu]) hQ
theorem units_of {A : Around} {n : Nat} (r : Room A n) : A.units + 70 < cLine := by have := r.units; lia
structure MethOK (K : Frag) (C : Addr) (name : Str) (f : Addr) : Prop where
  get : plainGet K C name = true
  find : findIn K (.ref C) name = some (some (.ref f))
  isf : isFn K (.ref f) = true
  keep : keepV K (.ref f) = true
theorem WMeth.instM {name : Str} {a C d f : Addr} {fs : List (Str × V)} {Q : Value → Prop} (h1 : σ a = some (.inst C d)) (h2 : σ d = some (.sdict fs)) (M : MethOK c.B.K C name f) (hn : dget fs name = none) (hQ : Q (.ref f)) : WMeth c name (.ref a) ρ σ Q :=
  WMeth.inst h1 h2 M.get M.find M.isf M.keep hn hQ
theorem dput_nil {K : Type} [DecidableEq K] {k : K} {v : V} : dput ([] : List (K × V)) k v = [(k, v)] := rfl
theorem dput_miss {K : Type} [DecidableEq K] {k k' : K} {v w : V} {l l' : List (K × V)} (h : k' ≠ k) (hl : dput l k v = l') : dput ((k', w) :: l) k v = (k', w) :: l' := by
  subst hl
  unfold dput
  simp only [List.any_cons, h, decide_false, Bool.false_or]
  split <;> simp [h]
theorem W2u.setAttr' {a C d : Addr} {fs fs' : List (Str × V)} {attr : Str} {u : V} {Q : Sg → Prop} (h1 : σ a = some (.inst C d)) (h2 : σ d = some (.sdict fs)) (hf : setOK c.B.K C attr = true) (hz : fs.length ≤ 1000) (hp : dput fs attr u = fs')
    (hQ : Q (upd σ d (.sdict fs'))) : W2u c (fun x y => PySem.setAttr x attr y) (.ref a) u ρ σ Q := W2u.setAttr h1 h2 hf hz (hp ▸ hQ)
theorem fr_upd {σ : Sg} {a b : Addr} {o : O} (h : upd σ a o b = none) : b ≠ a ∧ σ b = none := by
  have : b ≠ a := by rintro rfl; rw [upd_same] at h; cases h
  rw [upd_ne _ _ this] at h; exact ⟨this, h⟩
theorem WC.specA {B : Base} {A : Around} {gs : List (Addr × O)} {env : Env} {f : Value} {n m : Nat} {vs : List V} {Q : V → Sg → Prop} (r : Room A n) (sp : Spec B f m vs σ Q) (h : m ≤ n := by first | decide | omega) : WC ⟨B, A, gs, env⟩ f vs ρ σ Q := WC.spec r (sp.more h)
theorem isInt {i : Int} {P : Int → Prop} (h : P i) : ∃ j, V.int i = .int j ∧ P j := ⟨i, rfl, h⟩
theorem isTup {l : List V} {P : List V → Prop} (h : P l) : ∃ j, V.tup l = .tup j ∧ P j := ⟨l, rfl, h⟩
theorem upd_self {σ : Sg} {a : Addr} {o : O} (h : σ a = some o) : upd σ a o = σ := by
  funext b; by_cases e : b = a
  · subst e; simp [upd, h]
  · simp [upd, e]
/-- all but ex kept -/
def Kp (ex : List Addr) (σ σ' : Sg) : Prop := ∀ b o, σ b = some o → b ∉ ex → σ' b = some o
theorem Kp.refl (ex : List Addr) (σ : Sg) : Kp ex σ σ := fun _ _ h _ => h
theorem Kp.upd {ex : List Addr} {σ σ' : Sg} {a : Addr} {o : O} (k : Kp ex σ σ') (h : a ∈ ex ∨ σ a = none) : Kp ex σ (upd σ' a o) := fun b o' hb hx => by
  have : b ≠ a := by
    rintro rfl
    rcases h with h | h
    · exact hx h
    · rw [h] at hb; cases hb
  rw [upd_ne _ _ this]; exact k b o' hb hx
theorem Kp.trans {ex : List Addr} {σ σ' σ'' : Sg} (k : Kp ex σ σ') (k' : Kp ex σ' σ'') : Kp ex σ σ'' := fun b o h hx => k' b o (k b o h hx) hx
theorem Kp.weak {ex ex' : List Addr} {σ σ' : Sg} (k : Kp ex σ σ') (h : ∀ x ∈ ex, x ∈ ex') : Kp ex' σ σ' := fun b o hb hx => k b o hb fun q => hx (h b q)
noncomputable def selfs (n k : Nat) : List Cell := (List.range k).map fun i => ((0 : Int), ((n + i : Nat) : Int))
theorem selfs_length (n k : Nat) : (selfs n k).length = k := by simp [selfs]
theorem selfs_succ (n k : Nat) : selfs n (k + 1) = selfs n k ++ [((0 : Int), ((n + k : Nat) : Int))] := by simp [selfs, List.range_succ]
theorem isBool {b : Bool} {P : Bool → Prop} (h : P b) : ∃ b', V.bool b = .bool b' ∧ P b' := ⟨b, rfl, h⟩
theorem WE.loc1 {x : Str} {pos : Pos} {v : V} {Q : V → Sg → Prop} (hl : c.env.kindOf x = some .local) (ok : c.ok) (hv : ρ x = some v) (hQ : Q v σ)
    (hd : (x == ("__debug__" : Str)) = false := by k_dflt decide) : WE c (.Name x pos) ρ σ Q := WE.loc ok hv hQ hl hd
theorem dget_nil {K : Type} [DecidableEq K] {k : K} : dget ([] : List (K × V)) k = none := rfl
theorem dget_hit {K : Type} [DecidableEq K] {k : K} {v : V} {l : List (K × V)} : dget ((k, v) :: l) k = some v := by simp [dget]
theorem dget_miss {K : Type} [DecidableEq K] {k k' : K} {v : V} {l : List (K × V)} (h : k' ≠ k) : dget ((k', v) :: l) k = dget l k := by simp [dget, h]
end
theorem updR_skip {ρ : Rho} {x y : Str} {v : V} {r : Option V} (h : y ≠ x) (hr : ρ y = r) : updR ρ x v y = r := (updR_ne ρ v h).trans hr
theorem rho0_skip {n x : Str} {ns : List Str} {v : V} {vs : List V} {r : Option V} (h : x ≠ n) (hr : rho0 ns vs x = r) : rho0 (n :: ns) (v :: vs) x = r := (rho0_miss h).trans hr
theorem dget_skip {K : Type} [DecidableEq K] {k k' : K} {v : V} {l : List (K × V)} {r : Option V} (h : k' ≠ k) (hr : dget l k = r) : dget ((k', v) :: l) k = r := (dget_miss h).trans hr
theorem okL {v : V} {B C : Prop} (h : C) : (v = v ∨ B) ∧ C := ⟨.inl rfl, h⟩
theorem okR {i : Int} {A C : Prop} (h : C) : (A ∨ ∃ j, V.int i = .int j) ∧ C := ⟨.inr ⟨_, rfl⟩, h⟩
theorem le_and {n : Nat} {C : Prop} (a : n ≤ 1000000) (h : C) : n ≤ 1000000 ∧ C := ⟨a, h⟩
theorem raw_and {x : Value} {C : Prop} (h : C) : V.raw x = V.raw x ∧ C := ⟨rfl, h⟩
section
variable {B : Base} {gs : List (Addr × O)} {σ : Sg} {s : Shared} {a : Addr} {o : O}
theorem Inv.perm {gs' : List (Addr × O)} (I : Inv B gs σ s) (h : gs.Perm gs') : Inv B gs' σ s :=
  ⟨I.base, I.size, I.objs, fun p hp => I.hid p (h.symm.subset hp), (h.map (·.1)).nodup_iff.mp I.nd, I.sh⟩
theorem Inv.add (I : Inv B gs σ s) (r : ORel B.prog B.w s.heap a o) (hb : B.h₀.objs.size ≤ a) (hg : a ∉ gs.map (·.1)) : Inv B gs (upd σ a o) s := by
  refine ⟨I.base, I.size, fun b ob e => ?_, fun p hp => ⟨(I.hid p hp).1, (I.hid p hp).2.1, ?_⟩, I.nd, I.sh⟩
  · by_cases h : b = a
    · subst h; rw [upd_same] at e; cases e; exact ⟨r, hb⟩
    · rw [upd_ne _ _ h] at e; exact I.objs b ob e
  · have h : p.1 ≠ a := by rintro rfl; exact hg (List.mem_map_of_mem hp)
    rw [upd_ne _ _ h]; exact (I.hid p hp).2.2
theorem Inv.unhide (I : Inv B ((a, o) :: gs) σ s) : Inv B gs (upd σ a o) s := by
  have H := I.hid _ (.head _)
  have nd := I.nd
  simp only [List.map_cons, List.nodup_cons] at nd
  exact I.pop.add H.1 H.2.1 nd.1
end

section
variable {c : Cx} {ρ : Rho} {σ : Sg}
/-! ## cells -/
theorem WE.cellv {x : Str} {pos : Pos} {a b : Addr} {Q : V → Sg → Prop} (hl : c.env.kindOf x = some .cell) (ok : c.ok) (hc : c.env.cells.lookup x = some a) (hv : σ a = some (.cell (some b))) (hQ : Q (.ref b) σ)
    (hd : (x == ("__debug__" : Str)) = false := by k_dflt decide) : WE c (.Name x pos) ρ σ Q := fun s I => by
  obtain ⟨o, ho, hd'⟩ := I.obj hv
  exact wpAny_Name (wpAny_loadName_cell ok.fn hl hc ⟨o, ho, hd'⟩ ⟨Stab.refl _, .ref b, σ, I, by simp [Rel], hQ⟩) hd
theorem WA.cellv {x : Str} {pos : Pos} {a b : Addr} {v₀ : Option Addr} {Q : Rho → Sg → Prop} (hl : c.env.kindOf x = some .cell) (ok : c.ok) (hc : c.env.cells.lookup x = some a) (hv : σ a = some (.cell v₀)) (hQ : Q ρ (upd σ a (.cell (some b)))) :
    WA c (.Name x pos) (.ref b) ρ σ Q := fun s y I r => by
  simp only [Rel] at r; subst r
  obtain ⟨o, ho, hd'⟩ := I.obj hv
  refine wpAny_assign_Name (wpAny_storeName_cell ok.fn hl hc ⟨o, ho, hd'⟩ fun h' hc' hs => ?_)
  have st := I.stabMut hv hs.extBut
  exact ⟨st, ρ, _, Inv.mut (s := s) (o' := .cell (some b)) (tk := s.toks) I hv hs.extBut hc', hQ⟩

structure FnOKC (K : Frag) (f : Addr) (fd : FuncData) : Prop where
  look : ∃ oc od osl, K.lookup f = some ⟨oc, od, .func fd, osl⟩
  code : codeIn K fd.code fd.qualname = true
  body : fd.body = .stmts (bodyOf fd)
  bind : ∀ xs : List Value, xs.length = (namesOf fd).length → bindArgs fd ⟨xs, []⟩ = pure ((namesOf fd).zip xs)
  clo : fd.closure = []
  cs : ∀ L p, p ∈ cellsFrom L fd.scope.names [] → (cellsFrom L fd.scope.names []).lookup p.1 = some p.2
  loc : ((namesOf fd).all fun x => decide (fd.scope.names.lookup x = some .local)) = true
  co : fd.scope.isCoroutine = false
  gen : fd.scope.isGenerator = false
  kind : fd.scope.kind = .function
  gl : fd.globals = mainGlobals
  bi : fd.builtins = builtinsNs

end
section
variable {c : Cx} {ρ : Rho} {σ : Sg} {s : Shared}
theorem updR_one (x : Str) (v w : V) : updR (updR (fun _ => none) x v) x w = updR (fun _ => none) x w := by
  funext y; by_cases h : y = x <;> simp [updR, h]

/-- the block of a list comprehension over a list -/
theorem compCore {elt iter : Expr} {x : Str} {px pos : Pos} {scope : Scope} {cl : List (Str × Addr)} {l it acc C : Addr} {vs : List V} {ρC : Rho} {h : Heap} {R : Result → Shared → Prop} (ok : c.ok) (hk : scope.kind = .function)
    (hx : scope.names.lookup x = some .local) (hz : vs.length ≤ 1000000) (J : Nat → List V → Sg → Prop) (h0 : J 0 [] σ) (hT : ∀ i out σ, J i out σ → σ l = some (.list vs))
    (turn : ∀ gs i v out σ, i < vs.length → vs[i]? = some v → out.length = i → J i out σ → WE ⟨c.B, c.A, gs, compEnvC scope cl C c.env⟩ elt (updR (fun _ => none) x v) σ fun u σ' => J (i + 1) (out ++ [u]) σ')
    (hρ : ρC = fun _ => none) (st : Stab h s.heap) (I : Inv c.B ((C, .frame ρC) :: (acc, .list []) :: (it, .pred (obList l 0)) :: (c.env.locals, .frame ρ) :: c.gs) σ s)
    (fin : ∀ out σ' ρC s', out.length = vs.length → J vs.length out σ' → Stab h s'.heap → Inv c.B ((C, .frame ρC) :: (acc, .list out) :: (c.env.locals, .frame ρ) :: c.gs) σ' s' → R (.ok .next) s') :
    codeAny (model c.B.prog c.B.w) c.A (.compLoop (.ListComp elt [⟨.Name x px, iter, [], 0⟩] scope pos) 0 (.ref it) (.ref acc) (compEnvC scope cl C c.env)) R s := by
  have kind : ∀ gs, Cx.ok ⟨c.B, c.A, gs, compEnvC scope cl C c.env⟩ := fun gs => ⟨by show (relabel scope c.env).kind = _; exact hk, ok.gl, ok.bi, ok.handled, ok.units⟩
  refine codeAny_compLoop_list (fun k s' => Stab h s'.heap ∧ ∃ i out σ ρC, k = vs.length - i ∧ i ≤ vs.length ∧ out.length = i ∧ J i out σ ∧ (ρC = (fun _ => none) ∨ ∃ v, ρC = updR (fun _ => none) x v) ∧
    Inv c.B ((C, .frame ρC) :: (acc, .list out) :: (it, .pred (obList l i)) :: (c.env.locals, .frame ρ) :: c.gs) σ s') ?_ vs.length ⟨st, 0, [], σ, ρC, rfl, Nat.zero_le _, rfl, h0, .inl hρ, I⟩
  clear I st h0 hρ
  rintro k s ⟨st, i, out, σ, ρC, rfl, hi, ho, hJ, hρ, I⟩
  have p1 : (((C, O.frame ρC) :: (acc, .list out) :: (it, .pred (obList l i)) :: (c.env.locals, .frame ρ) :: c.gs).Perm ((it, .pred (obList l i)) :: (C, .frame ρC) :: (acc, .list out) :: (c.env.locals, .frame ρ) :: c.gs)) :=
    ((List.Perm.swap _ _ _).cons _).trans (List.Perm.swap _ _ _)
  have S := Source.list (c := ⟨c.B, c.A, (acc, .list out) :: (c.env.locals, .frame ρ) :: c.gs, compEnvC scope cl C c.env⟩) (kind _) l vs it
  by_cases hlt : i < vs.length
  · refine wpAny_mono (S.next i s ρC σ (fun r s₁ => ∃ y v, r = some y ∧ vs[i]? = some v ∧ Rel s₁.heap v y ∧ Stab s.heap s₁.heap ∧ Inv c.B ((it, .pred (obList l (i + 1))) :: (C, .frame ρC) :: (acc, .list out) :: (c.env.locals, .frame ρ) :: c.gs) σ s₁) hlt (hT _ _ _ hJ) (I.perm p1)
      fun y v s₁ hv rx st₁ I₁ => ⟨y, v, rfl, hv, rx, st₁, I₁⟩) (fun r s₁ hr => ?_) fun _ _ z => z.elim
    obtain ⟨y, v, rfl, hv, ry, st₁, I₁⟩ := hr
    dsimp only
    have I₁' : Cx.st ⟨c.B, c.A, (it, .pred (obList l (i + 1))) :: (acc, .list out) :: (c.env.locals, .frame ρ) :: c.gs, compEnvC scope cl C c.env⟩ ρC σ s₁ := I₁.swap
    refine wpAny_mono (WA.name (c := ⟨c.B, c.A, (it, .pred (obList l (i + 1))) :: (acc, .list out) :: (c.env.locals, .frame ρ) :: c.gs, compEnvC scope cl C c.env⟩) (x := x) (pos := px) (v := v) (Q := fun ρ' σ' => ρ' = updR ρC x v ∧ σ' = σ) (kind _) ⟨rfl, rfl⟩ (lookup_relabel_local hx) s₁ y I₁' ry) (fun _ s₂ ⟨st₂, ρ₂, σ₂, I₂, e1, e2⟩ => ?_) fun _ _ z => z.elim
    subst e1; subst e2
    have eρ : updR ρC x v = updR (fun _ => none) x v := by
      rcases hρ with rfl | ⟨w, rfl⟩
      · rfl
      · exact updR_one x w v
    rw [eρ] at I₂
    refine wpAny_mono (turn ((it, .pred (obList l (i + 1))) :: (acc, .list out) :: (c.env.locals, .frame ρ) :: c.gs) i v out σ₂ hlt hv ho hJ s₂ I₂) (fun z s₃ ⟨st₃, u, σ₃, I₃, rz, q⟩ => ?_) fun _ _ z => z.elim
    have p2 : (((C, O.frame (updR (fun _ => none) x v)) :: (it, .pred (obList l (i + 1))) :: (acc, .list out) :: (c.env.locals, .frame ρ) :: c.gs).Perm ((acc, .list out) :: (C, .frame (updR (fun _ => none) x v)) :: (it, .pred (obList l (i + 1))) :: (c.env.locals, .frame ρ) :: c.gs)) :=
      ((List.Perm.swap _ _ _).cons _).trans (List.Perm.swap _ _ _)
    have I₃' := Inv.perm I₃ p2
    obtain ⟨ys, n, hl, rs⟩ := (I₃'.hid _ (.head _)).1
    have e := rs.length
    have hl' : s₃.heap.get? acc = some (W.listOf ys.toArray n) := hl
    refine append_at (its := ys.toArray) (n := n) hl' (fun h' hs hD => ?_) (by rw [List.size_toArray, ← e, sizeLine_eq]; lia)
    have st₄ : Stab s₃.heap h' := stab_of_ext (I₃'.hid _ (.head _)).1 hs.extBut
    have I₄ := Inv.mutHid (o' := .list (out ++ [u])) (tk := s₃.toks) I₃' hs.extBut ⟨ys ++ [z], n + 1, by unfold IsL; rw [hD]; simp, (rs.stab st₄).append (Rels.one (rz.stab st₄))⟩
    exact ⟨vs.length - (i + 1), by lia, ((st.trans st₁).trans (st₂.trans st₃)).trans st₄, i + 1, out ++ [u], σ₃, _, rfl, hlt, by simp [ho], q, .inr ⟨v, rfl⟩, Inv.swap I₄⟩
  · have e : i = vs.length := by lia
    subst e
    refine wpAny_mono (S.done s ρC σ (fun r s₁ => r = none ∧ Stab s.heap s₁.heap ∧ Inv c.B ((C, .frame ρC) :: (acc, .list out) :: (c.env.locals, .frame ρ) :: c.gs) σ s₁) (hT _ _ _ hJ) (I.perm p1) fun s₁ st₁ I₁ => ⟨rfl, st₁, I₁⟩) (fun r s₁ hr => ?_) fun _ _ z => z.elim
    obtain ⟨rfl, st₁, I₁⟩ := hr
    exact fin out σ ρC s₁ ho hJ (st.trans st₁) I₁

/-- the list's iterator, the list and the frame of a comprehension laid -/
theorem compLay {elt iter : Expr} {x : Str} {px pos : Pos} {scope : Scope} {cl : List (Str × Addr)} {l : Addr} {vs : List V} {h : Heap} {R : Value → Addr → Result → Shared → Prop} (ok : c.ok) (hk : scope.kind = .function)
    (hcell : ∀ y ∈ scope.names, y.2 ≠ .cell) (hx : scope.names.lookup x = some .local) (hz : vs.length ≤ 1000000) (hl : σ l = some (.list vs)) (J : Nat → List V → Sg → Prop) (h0 : J 0 [] σ) (hT : ∀ i out σ, J i out σ → σ l = some (.list vs))
    (turn : ∀ C gs i v out σ, i < vs.length → vs[i]? = some v → out.length = i → J i out σ → WE ⟨c.B, c.A, gs, compEnvC scope cl C c.env⟩ elt (updR (fun _ => none) x v) σ fun u σ' => J (i + 1) (out ++ [u]) σ')
    (st : Stab h s.heap) (I : c.st ρ σ s)
    (fin : ∀ C acc out σ' ρC s', out.length = vs.length → J vs.length out σ' → Stab h s'.heap → Inv c.B ((C, .frame ρC) :: (acc, .list out) :: (c.env.locals, .frame ρ) :: c.gs) σ' s' → R (.ref acc) C (.ok .next) s') {E : Value → Shared → Prop} :
    wpAny (model c.B.prog c.B.w) c.A (pyIter (.ref l)) (fun it s₂ => wpAny (model c.B.prog c.B.w) c.A (newList []) (fun acc s₃ =>
      wpAny (model c.B.prog c.B.w) c.A (newFunctionEnv scope c.env.globals cl [] c.env.qual none .none (some c.env)) (fun cenv s₄ =>
        codeAny (model c.B.prog c.B.w) c.A (.compStart (.ListComp elt [⟨.Name x px, iter, [], 0⟩] scope pos) 0 it acc { cenv with scope := relabel scope c.env }) (R acc cenv.locals) s₄) E s₃) E s₂) E s := by
  obtain ⟨xs, n, ho, rs⟩ := I.obj hl
  refine wpAny_pyIter_list ho.isList ?_
  have k1 : ∀ b o, s.heap.get? b = some o → (s.heap.push { cls := .type "list_iterator", data := .fields #[.ref l, .int 0 0] }).get? b = some o := fun b o e => Heap.get?_push_of_some _ e
  have I1 := Inv.push (tk := s.toks) (o := .pred (obList l 0)) I (Nat.le_refl _) k1 ⟨_, Heap.get?_push_size _ rfl, ⟨rfl, rfl⟩, by simp⟩
  generalize hs1 : ({ s with heap := s.heap.push { cls := .type "list_iterator", data := .fields #[.ref l, .int 0 0] } } : Shared) = s1
  have I1 : Inv c.B ((s.heap.objs.size, .pred (obList l 0)) :: (c.env.locals, .frame ρ) :: c.gs) σ s1 := hs1 ▸ I1
  have st1 : Stab s.heap s1.heap := by rw [← hs1]; exact stab_of_keep k1
  have hit : s1.heap.IsListIter s.heap.objs.size l 0 := by rw [← hs1]; exact ⟨_, Heap.get?_push_size _ rfl, rfl, rfl⟩
  clear hs1 k1
  refine wpAny_newObj_type ?_
  have k2 : ∀ b o, s1.heap.get? b = some o → (s1.heap.push { cls := .type "list", dict := none, data := .seq ([] : List Value).toArray }).get? b = some o := fun b o e => Heap.get?_push_of_some _ e
  have I2 := Inv.push (tk := s1.toks) (o := .list []) I1 (Nat.le_refl _) k2 ⟨[], 0, IsL.new _ _, by simp [Rels]⟩
  generalize hs2 : ({ s1 with heap := s1.heap.push { cls := .type "list", dict := none, data := .seq ([] : List Value).toArray } } : Shared) = s2
  have I2 : Inv c.B ((s1.heap.objs.size, .list []) :: (s.heap.objs.size, .pred (obList l 0)) :: (c.env.locals, .frame ρ) :: c.gs) σ s2 := hs2 ▸ I2
  have st2 : Stab s1.heap s2.heap := by rw [← hs2]; exact stab_of_keep k2
  have hit2 : s2.heap.IsListIter s.heap.objs.size l 0 := by
    obtain ⟨o, a1, a2, a3⟩ := hit
    exact ⟨o, by rw [← hs2]; exact k2 _ _ a1, a2, a3⟩
  clear hs2 k2
  refine wpAny_newFunctionEnv hcell (by intro y hy; simp at hy) (fun h₁ hns₁ hsb₁ => ?_) hk
  have k3 : ∀ b o, s2.heap.get? b = some o → h₁.get? b = some o := fun b o e => hsb₁.extBut b o (Nat.ne_of_lt (Heap.lt_size e)) (Heap.get?_push_of_some _ e)
  have I3 := Inv.push (tk := s2.toks + ([] : List (Str × Value)).length) (o := .frame (fun _ => none)) I2 (Nat.le_refl _) k3 ⟨_, hns₁, fun y v e => by cases e⟩
  have st3 : Stab s2.heap h₁ := stab_of_keep k3
  have hit3 : h₁.IsListIter s.heap.objs.size l 0 := by
    obtain ⟨o, a1, a2, a3⟩ := hit2
    exact ⟨o, k3 _ _ a1, a2, a3⟩
  have loop := compCore (c := c) (elt := elt) (iter := iter) (px := px) (pos := pos) (cl := cl) (R := R (.ref s1.heap.objs.size) s2.heap.objs.size) ok hk hx hz J h0 hT (turn s2.heap.objs.size) rfl ((st.trans st1).trans (st2.trans st3)) I3 (fun out σ' ρC s' a b c d => fin _ _ out σ' ρC s' a b c d)
  exact codeAny_compStart_list loop (wpAny_pyIter_listiter hit3 loop)

theorem WE.comp {elt iter : Expr} {x : Str} {px pos : Pos} {scope : Scope} {cl : List (Str × Addr)} {Q : V → Sg → Prop} (ok : c.ok) (hclos : closureFor scope c.env = pure cl) (hcell : ∀ y ∈ scope.names, y.2 ≠ .cell) (hk : scope.kind = .function)
    (hnames : ∀ y ∈ scope.names, y.2 = .local → scope.names.lookup y.1 = some .local) (hx : scope.names.lookup x = some .local)
    (hh : WE c iter ρ σ fun v σ₁ => ∃ l vs, v = .ref l ∧ σ₁ l = some (.list vs) ∧ vs.length ≤ 1000000 ∧ ∃ J : Nat → List V → Sg → Prop, J 0 [] σ₁ ∧ (∀ i out σ, J i out σ → σ l = some (.list vs)) ∧
      (∀ C gs i v out σ, i < vs.length → vs[i]? = some v → out.length = i → J i out σ → WE ⟨c.B, c.A, gs, compEnvC scope cl C c.env⟩ elt (updR (fun _ => none) x v) σ fun u σ' => J (i + 1) (out ++ [u]) σ') ∧
      ∀ out σ', out.length = vs.length → J vs.length out σ' → ∀ a, σ' a = none → Q (.ref a) (upd σ' a (.list out)))
    (hs : ∀ x, foldedSetIterable iter c.env x = pure x := by k_dflt (intro _; rfl)) : WE c (.ListComp elt [⟨.Name x px, iter, [], 0⟩] scope pos) ρ σ Q := fun s I => by
  rw [eval_ListComp]
  refine wpAny_comprehension_free (use := none) rfl hs hclos hk hnames (wpAny_mono (hh s I) (fun xv s₁ hxx => ?_) fun _ _ z => z)
  obtain ⟨st, v, σ₁, I₁, r, l, vs, e, hl, hz, J, h0, hT, turn, fin⟩ := hxx
  subst e; simp only [Rel] at r; subst r
  refine compLay (R := fun acc C => compPost (model c.B.prog c.B.w) c.A NoE none (PostE c ρ s.heap Q) acc C) ok hk hcell hx hz hl J h0 hT turn st I₁ ?_
  intro C acc out σ' ρC s' ho hJ st' I'
  obtain ⟨m, hn, _⟩ := (I'.hid _ (.head _)).1
  refine ⟨m, hn, fun h' hs' => ?_⟩
  have st'' : Stab s'.heap h' := stab_of_ext (I'.hid _ (.head _)).1 hs'.extBut
  have I'' := Inv.dropHid (tk := s'.toks) I' hs'.extBut
  exact ⟨st'.trans st'', .ref acc, _, Inv.unhide I'', by simp [Rel], fin out σ' ho hJ acc (I''.hid _ (.head _)).2.2⟩

/-- a name given a comprehension's list, its old value let go ahead -/
theorem WS.assignComp {elt iter : Expr} {x y : Str} {px py pos spos : Pos} {scope : Scope} {cl : List (Str × Addr)} {Q : QS} (ok : c.ok) (hclos : closureFor scope c.env = pure cl) (hcell : ∀ y ∈ scope.names, y.2 ≠ .cell) (hk : scope.kind = .function)
    (hnames : ∀ y ∈ scope.names, y.2 = .local → scope.names.lookup y.1 = some .local) (hx : scope.names.lookup x = some .local)
    (hsw : swapsWith (.ListComp elt [⟨.Name x px, iter, [], 0⟩] scope pos) (some (.Name y py)) spos.line c.env = pure true) (hy : c.env.kindOf y = some .local)
    (hh : WE c iter ρ σ fun v σ₁ => ∃ l vs, v = .ref l ∧ σ₁ l = some (.list vs) ∧ vs.length ≤ 1000000 ∧ ∃ J : Nat → List V → Sg → Prop, J 0 [] σ₁ ∧ (∀ i out σ, J i out σ → σ l = some (.list vs)) ∧
      (∀ C gs i v out σ, i < vs.length → vs[i]? = some v → out.length = i → J i out σ → WE ⟨c.B, c.A, gs, compEnvC scope cl C c.env⟩ elt (updR (fun _ => none) x v) σ fun u σ' => J (i + 1) (out ++ [u]) σ') ∧
      ∀ out σ', out.length = vs.length → J vs.length out σ' → ∀ a, σ' a = none → Q .next (updR ρ y (.ref a)) (upd σ' a (.list out)))
    (hs : ∀ x, foldedSetIterable iter c.env x = pure x := by k_dflt (intro _; rfl)) : WS c (.Assign [.Name y py] (.ListComp elt [⟨.Name x px, iter, [], 0⟩] scope pos) spos) ρ σ Q := fun s I => by
  rw [exec_Assign_Name_used _ _ _ _ hsw]
  refine wpAny_bind (wpAny_standAt (wpAny_bind ?_))
  show wpAny _ c.A (do let _ ← comprehension (.ListComp elt [⟨.Name x px, iter, [], 0⟩] scope pos) scope c.env _ (newList []) false (eval iter c.env) (some (PySem.assign (.Name y py) c.env))) _ _ s
  refine wpAny_bind (wpAny_mono (wpAny_comprehension_free (use := some (PySem.assign (.Name y py) c.env)) (Q := fun _ s' => PostS c s.heap Q .next s') rfl hs hclos hk hnames
    (wpAny_mono (hh s I) (fun xv s₁ hxx => ?_) fun _ _ z => z)) (fun _ s' hq => wpAny_pure (wpAny_pure hq)) fun _ _ e => e)
  obtain ⟨st, v, σ₁, I₁, r, l, vs, e, hl, hz, J, h0, hT, turn, fin⟩ := hxx
  subst e; simp only [Rel] at r; subst r
  refine compLay (R := fun acc C => compPost (model c.B.prog c.B.w) c.A NoE (some (PySem.assign (.Name y py) c.env)) (fun _ s' => PostS c s.heap Q .next s') acc C) ok hk hcell hx hz hl J h0 hT turn st I₁ ?_
  intro C acc out σ' ρC s' ho hJ st' I'
  show wpAny _ c.A (PySem.assign (.Name y py) c.env (.ref acc)) _ _ _
  have hf : σ' acc = none := (I'.hid _ (.tail _ (.head _))).2.2
  have I2 : Inv c.B ((c.env.locals, .frame ρ) :: (C, .frame ρC) :: c.gs) (upd σ' acc (.list out)) s' := Inv.swap (Inv.unhide (Inv.swap I'))
  refine wpAny_mono (WA.name (c := ⟨c.B, c.A, (C, .frame ρC) :: c.gs, c.env⟩) (x := y) (pos := py) (v := .ref acc) (Q := fun ρ' σ'' => ρ' = updR ρ y (.ref acc) ∧ σ'' = upd σ' acc (.list out)) ⟨ok.fn, ok.gl, ok.bi, ok.handled, ok.units⟩ ⟨rfl, rfl⟩ hy s' (.ref acc) I2 (by simp [Rel]))
    (fun _ s₂ ⟨st₂, ρ₂, σ₂, I₂, e1, e2⟩ => ?_) fun _ _ z => z.elim
  subst e1; subst e2
  have I3 : Inv c.B ((C, .frame ρC) :: (c.env.locals, .frame (updR ρ y (.ref acc))) :: c.gs) (upd σ' acc (.list out)) s₂ := Inv.swap I₂
  obtain ⟨m, hn, _⟩ := (I3.hid _ (.head _)).1
  refine ⟨m, hn, fun h' hs' => ?_⟩
  have st3 : Stab s₂.heap h' := stab_of_ext (I3.hid _ (.head _)).1 hs'.extBut
  exact ⟨(st'.trans st₂).trans st3, .next, _, _, Inv.dropHid (tk := s₂.toks) I3 hs'.extBut, rfl, fin out σ' ho hJ acc hf⟩
end
section
variable {prog : Program} {w : World} {A : Around}
open Classical in
end

section
variable {c : Cx} {ρ : Rho} {σ : Sg} {s : Shared}
open Classical in
/-! ## two dicts held against each other -/
open Classical in
open Classical in
/-- a slice of a list of the base -/
theorem WE.sliceBase {value : Expr} {hi : Expr} {p pos : Pos} {Q : V → Sg → Prop} {a : Addr} {vs : List Value} {ns : List Int} (hl : c.B.h₀.IsList a vs.toArray) (hi' : IntsAre vs ns) (hz : ns.length ≤ 1000)
    (hh : WE c value ρ σ fun v σ₁ => v = .raw (.ref a) ∧ WE c hi ρ σ₁ fun u σ₂ => ∃ k : Nat, u = .int k ∧ ∀ b, σ₂ b = none → Q (.ref b) (upd σ₂ b (.list ((ns.take k).map V.int))))
    (ht : ∀ o r, letTemporaryGo value o r = pure () := by k_dflt (intro _; rfl)) : WE c (.Subscript value (.Slice none (some hi) none p) pos) ρ σ Q := fun s I =>
  wpAny_Subscript_list_slice (wpAny_mono (hh s I) (fun x s₁ ⟨st, v, σ₁, I₁, r, e, k⟩ => evalPart_none_step (evalPart_some_step (wpAny_mono (k s₁ I₁) (fun z s₃ hxx => by
    obtain ⟨st', u, σ₃, I₃, ru, j, e2, q⟩ := hxx
    subst e; simp only [Rel] at r; subst r
    subst e2; simp only [Rel] at ru; obtain ⟨t, rfl⟩ := ru
    have hl3 : s₃.heap.IsList a vs.toArray := by
      obtain ⟨o, ho, hc, n, hd⟩ := hl
      exact ⟨o, I₃.base _ _ ho, hc, n, hd⟩
    have e : vs.length = ns.length := hi'.length
    refine ⟨a, vs.toArray, none, some (j : Int), rfl, hl3, by rw [List.size_toArray, sizeLine_eq]; lia, .none, .int _ t, ?_⟩
    have kk : ∀ b o, s₃.heap.get? b = some o → ((s₃.heap.push { cls := .type "slice", data := .fields #[.none, .int (j : Int) t, .none] }).push { cls := .type "list", data := .seq (slicePick vs.toArray none (some (j : Int)) none) }).get? b = some o := fun b o e => Heap.get?_push_of_some _ (Heap.get?_push_of_some _ e)
    have st2 := stab_of_keep kk
    have rs : Rels s₃.heap (ns.map V.int) vs := by
      have key : ∀ {vs : List Value} {ns : List Int}, IntsAre vs ns → Rels s₃.heap (ns.map V.int) vs := by
        intro vs ns h
        induction h with
        | nil => simp [Rels]
        | cons _ _ _ ih => simp only [List.map_cons, Rels]; exact ⟨by simp [Rel], ih⟩
      exact key hi'
    refine ⟨(st.trans st').trans st2, .ref _, _, Inv.alloc (o := .list ((ns.take j).map V.int)) (tk := s₃.toks) (a := s₃.heap.objs.size + 1) I₃ (Nat.le_succ _) kk ⟨(slicePick vs.toArray none (some (j : Int)) none).toList, 0, ?_, ?_⟩, by simp [Rel], q _ (Inv.fresh I₃ (Nat.le_succ _))⟩
    · have := IsL.new (s₃.heap.push { cls := .type "slice", data := .fields #[.none, .int (j : Int) t, .none] }) (slicePick vs.toArray none (some (j : Int)) none)
      rw [Heap.size_push] at this
      simpa using this
    · refine Rels.stab st2 ?_
      rw [slicePick_upto', List.map_take]
      simpa using rs.take j) fun _ _ z => z)) ) fun _ _ z => z) ht
end
section
variable {prog : Program} {w : World} {A : Around} {E : Value → Shared → Prop} {s : Shared} {env : Env}
theorem sub_slice_any {value : Expr} {lower upper : Option Expr} {p pos : Pos} {T id : String} {Q : Value → Shared → Prop} (hl : typeLookup (.type T) "__getitem__" = pure (some (.builtin id)))
    (h : wpAny (model prog w) A (eval value env) (fun o s₁ => wpAny (model prog w) A (eval (.Slice lower upper none p) env) (fun i s₂ => s₂.TypeIs o T ∧ wpAny (model prog w) A (getItem o i) Q E s₂) E s₁) E s) :
    wpAny (model prog w) A (eval (.Subscript value (.Slice lower upper none p) pos) env) Q E s := by
  rw [eval_Subscript]
  refine wpAny_bind (wpAny_mono h (fun o s₁ h₁ => wpAny_bind (wpAny_holding (wpAny_mono h₁ (fun i s₂ h₂ => wpAny_bind (wpAny_standAt ?_)) fun _ _ x => x)))
    fun _ _ x => x)
  have fin : wpAny (model prog w) A (operate [i, o] (getItem o i)) (fun r s₃ => wpAny (model prog w) A (letTemporaryGo value o r >>= fun _ => pure r) Q E s₃) E s₂ :=
    wpAny_operating (wpAny_mono h₂.2 (fun r s₃ h₃ => wpAny_bind (wpAny_letTemporaryGo (wpAny_pure h₃))) fun _ _ x => x)
  first
    | (refine wpAny_bind ?_
       rw [getitemInPython_of_ne h₂.1.not_modules]
       refine wpAny_bind (wpAny_specialOf h₂.1 hl ?_)
       first
         | exact wpAny_pure (wpAny_bind fin)
         | exact wpAny_bind (wpAny_pure (wpAny_bind fin))
         | exact wpAny_bind fin)
    | (refine wpAny_bind (wpAny_specialOf h₂.1 hl ?_)
       first
         | exact wpAny_bind (wpAny_pure (wpAny_bind fin))
         | exact wpAny_bind fin)
theorem list_slice_any {value : Expr} {lower upper : Option Expr} {p pos : Pos} {Q : Value → Shared → Prop}
    (h : wpAny (model prog w) A (eval value env) (fun o s₁ => wpAny (model prog w) A (evalPart lower env) (fun vl s₂ => wpAny (model prog w) A (evalPart upper env) (fun vu s₃ =>
      ∃ l items lo hi, o = .ref l ∧ s₃.heap.IsList l items ∧ items.size ≤ sizeLine ∧ IsPart vl lo ∧ IsPart vu hi ∧
        Q (.ref (s₃.heap.objs.size + 1)) { s₃ with heap := (s₃.heap.push { cls := .type "slice", data := .fields #[vl, vu, .none] }).push { cls := .type "list", data := .seq (slicePick items lo hi none) } }) E s₂) E s₁) E s) :
    wpAny (model prog w) A (eval (.Subscript value (.Slice lower upper none p) pos) env) Q E s := by
  refine sub_slice_any (T := "list") slot_list_getitem.lookup (wpAny_mono h (fun o s₁ h₁ => wpAny_Slice (wpAny_mono h₁ (fun vl s₂ h₂ => wpAny_mono h₂ (fun vu s₃ h₃ => ?_) fun _ _ e => e) fun _ _ e => e)) fun _ _ e => e)
  obtain ⟨l, items, lo, hi, rfl, hl, hsz, pl, pu, hQ⟩ := h₃
  rw [evalPart_none]
  refine wpAny_pure ⟨(hl.push _).typeIs, wpAny_getItem_list_slice (hl.push _) (Heap.IsSliceOf.new ..) pl pu .none (by simp) ?_ hsz⟩
  rw [Heap.size_push]
  exact hQ
end
section
variable {c : Cx} {ρ : Rho} {σ : Sg}
theorem WE.sliceA {value : Expr} {lo hi : Option Expr} {p pos : Pos} {Q : V → Sg → Prop}
    (hh : WE c value ρ σ fun v σ₁ => WPart c lo ρ σ₁ fun i σ₂ => WPart c hi ρ σ₂ fun j σ₃ => ∃ a l r, v = .ref a ∧ σ₃ a = some (.list l) ∧ l.length ≤ 1000000 ∧ cutList l i j = some r ∧ ∀ b, σ₃ b = none → Q (.ref b) (upd σ₃ b (.list r))) : WE c (.Subscript value (.Slice lo hi none p) pos) ρ σ Q := fun s I =>
  list_slice_any (wpAny_mono (hh s I) (fun x s₁ ⟨st, v, σ₁, I₁, r, k⟩ => wpAny_mono (WPart.run I₁ k) (fun y s₂ ⟨st', i, σ₂, pi, I₂, k⟩ => wpAny_mono (WPart.run I₂ k) (fun z s₃ hxx => by
    obtain ⟨st'', j, σ₃, pj, I₃, a, l, r', e, h1, hl, hc, q⟩ := hxx
    subst e; simp only [Rel] at r; subst r
    obtain ⟨xs, n, ho, rs⟩ := I₃.obj h1
    have e := rs.length
    refine ⟨a, xs.toArray, i, j, rfl, ho.isList, by rw [List.size_toArray, ← e, sizeLine_eq]; lia, pi, pj, ?_⟩
    have kk : ∀ b o, s₃.heap.get? b = some o → ((s₃.heap.push { cls := .type "slice", data := .fields #[y, z, .none] }).push { cls := .type "list", data := .seq (slicePick xs.toArray i j none) }).get? b = some o := fun b o e => Heap.get?_push_of_some _ (Heap.get?_push_of_some _ e)
    have st2 := stab_of_keep kk
    refine ⟨((st.trans st').trans st'').trans st2, .ref _, _, Inv.alloc (o := .list r') (tk := s₃.toks) (a := s₃.heap.objs.size + 1) I₃ (Nat.le_succ _) kk ⟨(slicePick xs.toArray i j none).toList, 0, ?_, (cut_rel rs hc).stab st2⟩, by simp [Rel], q _ (Inv.fresh I₃ (Nat.le_succ _))⟩
    have := IsL.new (s₃.heap.push { cls := .type "slice", data := .fields #[y, z, .none] }) (slicePick xs.toArray i j none)
    rw [Heap.size_push] at this
    simpa using this) fun _ _ z => z) fun _ _ z => z) fun _ _ z => z)
theorem WPart.no {Q : Option Int → Sg → Prop} (h : Q none σ) : WPart c none ρ σ Q := h
theorem WPart.yes {e : Expr} {Q : Option Int → Sg → Prop} (h : WE c e ρ σ fun v σ₁ => ∃ i, v = .int i ∧ Q (some i) σ₁) : WPart c (some e) ρ σ Q := h
end
/-! ## del xs[k:] ; list(d) ; texts compared -/
noncomputable def selB (start stop step : Int) (i : Nat) : Bool :=
  if step > 0 then start ≤ i && i < stop && (i - start) % step == 0
  else stop < i && i ≤ start && (start - i) % (-step) == 0
noncomputable def cutOut (xs : Array Value) (start stop step : Int) : Array Value := (xs.toList.zipIdx.filterMap fun (x, k) => if selB start stop step k then none else some x).toArray
theorem cutOut_le (xs : Array Value) (a b c : Int) : (cutOut xs a b c).size ≤ xs.size := by
  unfold cutOut
  rw [List.size_toArray]
  refine Nat.le_trans (List.length_filterMap_le _ _) (by simp)
section
variable {prog : Program} {w : World} {A : Around} {E : Value → Shared → Prop} {s : Shared}
theorem delItem_slice {l sl : Addr} {items : Array Value} {n : Nat} {vl vu : Value} {lo hi : Option Int} {Q : Unit → Shared → Prop} (hl : IsL s.heap l items n)
    (hs : s.heap.IsSliceOf sl vl vu .none) (pl : IsPart vl lo) (pu : IsPart vu hi)
    (h : Q () { s with heap := s.heap.update l (Obj.mapSeq fun xs => cutOut xs (sliceBounds lo hi none items.size).1 (sliceBounds lo hi none items.size).2.1 (sliceBounds lo hi none items.size).2.2) })
    (hsz : items.size ≤ sizeLine) : wpAny (model prog w) A (delItem (.ref l) (.ref sl)) Q E s := by
  obtain ⟨os, hos, hcs, hds⟩ := id hs
  have hTs : s.TypeIs (.ref sl) "slice" := ⟨os, hos, hcs⟩
  refine wpAny_delItem_slot ⟨_, hl, rfl⟩ (by decide) PySem.F.slot_list_delitem ?_
  refine wpAny_call_entry PySem.F.slot_list_delitem ⟨_, hl, rfl⟩ PySem.F.entry_list_delitem ?_ (PySem.F.args_list_delitem_2 _ _)
  show wpAny _ _ (Builtin.List.listSubscript? (.ref sl) >>= _) _ _ s
  refine wpAny_bind ?_
  unfold Builtin.List.listSubscript?
  refine wpAny_bind (wpAny_specialOf hTs slice_no_index ?_)
  simp only [Option.isNone_none, if_true]
  refine wpAny_pure ?_
  show wpAny _ _ (typeOf (.ref sl) >>= _) _ _ s
  refine wpAny_bind (wpAny_typeOf hTs ?_)
  rw [if_neg (by decide)]
  rw [listSliceParts_eq]
  refine wpAny_bind (wpAny_bind (wpAny_field hos hds (x := .none) rfl (wpAny_bind (wpAny_listPart .none ?_))))
  rw [if_neg (by exact Bool.false_ne_true)]
  refine wpAny_bind (wpAny_field hos hds (x := vl) rfl (wpAny_bind (wpAny_listPart pl ?_)))
  refine wpAny_bind (wpAny_field hos hds (x := vu) rfl (wpAny_bind (wpAny_listPart pu (wpAny_pure ?_))))
  refine wpAny_bind (m := Builtin.List.listItems (.ref l)) ?_
  unfold Builtin.List.listItems
  refine wpAny_bind (wpAny_seqItems hl rfl (wpAny_pure ?_))
  refine wpAny_bind (wpAny_of_eq (sliceIndices_raw lo hi none items.size (by simp)) ?_)
  refine wpAny_bind (wpAny_rule ?_)
  refine wpAny_bind (m := Builtin.List.listUpdate (.ref l) fun xs => cutOut xs (sliceBounds lo hi none items.size).1 (sliceBounds lo hi none items.size).2.1 (sliceBounds lo hi none items.size).2.2) ?_
  unfold Builtin.List.listUpdate
  refine wpAny_updateSeq hl rfl ?_ (hz := hsz) (_hz' := Nat.le_trans (cutOut_le _ _ _ _) (Nat.le_succ_of_le hsz))
  refine wpAny_bind (wpAny_letGo ?_)
  exact wpAny_pure ⟨_, rfl, h⟩
end
theorem cut_take (start : Nat) : ∀ (l : List Value) (i : Nat), (l.zipIdx i).filterMap (fun (x, k) => if selB start (i + l.length : Nat) 1 k then none else some x) = l.take (start - i)
  | [], i => by simp
  | x :: l, i => by
    have ih := cut_take start l (i + 1)
    rw [show i + 1 + l.length = i + (x :: l).length by simp; lia] at ih
    simp only [List.zipIdx_cons, List.filterMap_cons]
    by_cases h : i < start
    · have e : selB start (i + (x :: l).length : Nat) 1 i = false := by unfold selB; simp; lia
      rw [e]
      simp only [Bool.false_eq_true, if_false]
      rw [ih, show start - i = start - (i + 1) + 1 by lia, List.take_succ_cons]
    · have e : selB start (i + (x :: l).length : Nat) 1 i = true := by unfold selB; simp; lia
      rw [e]
      simp only [if_true]
      rw [ih, show start - i = 0 by lia, show start - (i + 1) = 0 by lia]; simp
theorem cutOut_from (xs : Array Value) {k : Int} (h0 : 0 ≤ k) (hk : k ≤ xs.size) : cutOut xs (sliceBounds (some k) none none xs.size).1 (sliceBounds (some k) none none xs.size).2.1 (sliceBounds (some k) none none xs.size).2.2 = (xs.toList.take k.toNat).toArray := by
  have h1 : (sliceBounds (some k) none none xs.size).1 = ((k.toNat : Nat) : Int) := by simp [sliceBounds]; lia
  have h2 : (sliceBounds (some k) none none xs.size).2.1 = ((0 + xs.toList.length : Nat) : Int) := by simp [sliceBounds]
  have h3 : (sliceBounds (some k) none none xs.size).2.2 = 1 := by simp [sliceBounds]
  rw [h1, h2, h3]
  unfold cutOut
  rw [cut_take, Nat.sub_zero]
theorem kdl_int {prog : Program} {w : World} {k : Int} {v : Value} (h : (intKind prog w).is k v = true) : ∃ t, v = .int k t := Value.isInt_shape h
section
variable {c : Cx} {ρ : Rho} {σ : Sg}
theorem WS.delFrom {o lo : Expr} {p p2 pos : Pos} {Q : QS}
    (hh : WE c o ρ σ fun v σ₁ => WE c lo ρ σ₁ fun w σ₂ => ∃ i, w = .int i ∧ ∃ a l, v = .ref a ∧ σ₂ a = some (.list l) ∧ 0 ≤ i ∧ i ≤ l.length ∧ l.length ≤ 1000000 ∧ Q .next ρ (upd σ₂ a (.list (l.take i.toNat)))) :
    WS c (.Delete [.Subscript o (.Slice (some lo) none none p) p2] pos) ρ σ Q := fun s I =>
  wpAny_Delete (wpAny_deleteEach_cons (wpAny_delete_Subscript (wpAny_mono (hh s I) (fun x s₁ ⟨st, v, σ₁, I₁, r, k⟩ =>
    wpAny_Slice (wpAny_mono (WPart.run (e := some lo) (Q := fun i σ₂ => match i with | some i => ∃ a l, v = .ref a ∧ σ₂ a = some (.list l) ∧ 0 ≤ i ∧ i ≤ l.length ∧ l.length ≤ 1000000 ∧ Q .next ρ (upd σ₂ a (.list (l.take i.toNat))) | none => False) I₁ k) (fun y s₂ hxx => by
      obtain ⟨st', i, σ₂, pi, I₂, kk⟩ := hxx
      match i, kk with
      | some i, ⟨a, l, e, h1, h0, hk, hl, q⟩ =>
      subst e; simp only [Rel] at r; subst r
      rw [evalPart_none]
      refine wpAny_pure ?_
      refine wpAny_pure ?_
      have r1 := rangeStep I₂ { cls := .type "slice", data := .fields #[y, .none, .none] } s₂.toks
      obtain ⟨xs, n, ho, rs⟩ := r1.2.obj h1
      have hlen := rs.length
      have hsz : xs.toArray.size ≤ sizeLine := by rw [List.size_toArray, ← hlen, sizeLine_eq]; lia
      refine delItem_slice (s := { s₂ with heap := s₂.heap.push { cls := .type "slice", data := .fields #[y, .none, .none] } }) ho (Heap.IsSliceOf.new ..) pi .none ?_ hsz
      have hx : Heap.ExtBut a (s₂.heap.push { cls := .type "slice", data := .fields #[y, .none, .none] }) ((s₂.heap.push { cls := .type "slice", data := .fields #[y, .none, .none] }).update a (Obj.mapSeq fun xs' => cutOut xs' (sliceBounds (some i) none none xs.toArray.size).1 (sliceBounds (some i) none none xs.toArray.size).2.1 (sliceBounds (some i) none none xs.toArray.size).2.2)) := (Heap.SameBut.update ..).extBut
      have st2 := r1.2.stabMut h1 hx
      have hself := Heap.get?_update_self (f := Obj.mapSeq fun xs' => cutOut xs' (sliceBounds (some i) none none xs.toArray.size).1 (sliceBounds (some i) none none xs.toArray.size).2.1 (sliceBounds (some i) none none xs.toArray.size).2.2) ho (by rfl)
      have hc : cutOut xs.toArray (sliceBounds (some i) none none xs.toArray.size).1 (sliceBounds (some i) none none xs.toArray.size).2.1 (sliceBounds (some i) none none xs.toArray.size).2.2 = (xs.take i.toNat).toArray := by
        have := cutOut_from xs.toArray h0 (by rw [List.size_toArray, ← hlen]; exact hk)
        simpa using this
      refine wpAny_deleteEach_nil ⟨((st.trans st').trans r1.1).trans st2, .next, ρ, _, Inv.mut (s := { s₂ with heap := s₂.heap.push { cls := .type "slice", data := .fields #[y, .none, .none] } }) (o' := .list (l.take i.toNat)) (tk := s₂.toks) r1.2 h1 hx ?_, rfl, q⟩
      refine ⟨xs.take i.toNat, if (xs.take i.toNat).toArray.size == xs.toArray.size then n else n + 1, ?_, (rs.take i.toNat).stab st2⟩
      unfold IsL; rw [hself]; simp only [Obj.mapSeq, hc]) fun _ _ z => z)) fun _ _ z => z)))
theorem WC.list_idict {a : Addr} {l : List (Int × V)} {Q : V → Sg → Prop} (ok : c.ok) (h1 : σ a = some (.idict l)) (hl : l.length ≤ 1000000) (hQ : ∀ b, σ b = none → Q (.ref b) (upd σ b (.list (l.map fun p => .int p.1)))) : WC c (.type "list") [.ref a] ρ σ Q := fun s xs I rs => by
  match xs, rs with
  | [x], rs =>
    simp only [Rels, Rel] at rs; obtain ⟨rfl, _⟩ := rs
    obtain ⟨kvs, hd, ra⟩ := I.obj h1
    obtain ⟨ep, hat⟩ := hd.dictAt
    have hlen := ra.length
    refine kdl_call (kdl_dict (Inv.lo I h1)) ok.handled hat (by rw [sizeLine_eq]; lia) fun h' tk acc c' hk hD hacc => ?_
    have st := stab_of_keep hk
    have I0 := Inv.alloc (o := .list (l.map fun p => .int p.1)) (tk := tk) (h' := h') I (Nat.le_refl _) hk ⟨acc.toList, c', by simpa using hD, ?_⟩
    · exact ⟨st, .ref _, _, I0, by simp [Rel], hQ _ (Inv.fresh I (Nat.le_refl _))⟩
    · have key : ∀ {l : List (Int × V)} {kvs : List (Int × Value)} {vs : List Value}, All2 (fun p q => p.1 = q.1 ∧ Rel s.heap p.2 q.2) l kvs → vs.length = kvs.length → (∀ (j : Nat) (v : Value), vs[j]? = some v → ∃ k x, kvs[j]? = some (k, x) ∧ (intKind c.B.prog c.B.w).is k v = true) → Rels h' (l.map fun p => .int p.1) vs := by
        intro l
        induction l with
        | nil =>
          intro kvs vs ra he hv
          cases kvs with
          | nil => cases vs with
            | nil => simp [Rels]
            | cons _ _ => simp at he
          | cons _ _ => exact ra.elim
        | cons p l ih =>
          intro kvs vs ra he hv
          cases kvs with
          | nil => exact ra.elim
          | cons q kvs =>
            cases vs with
            | nil => simp at he
            | cons v vs =>
              obtain ⟨k, x, e1, e2⟩ := hv 0 v rfl
              simp only [List.getElem?_cons_zero, Option.some.injEq] at e1
              subst e1
              simp only [List.map_cons, Rels]
              refine ⟨?_, ih ra.2 (by simpa using he) fun j v hj => hv (j + 1) v (by simpa using hj)⟩
              have e3 := ra.1.1
              rw [e3]
              simp only [Rel]
              obtain ⟨t, e⟩ := kdl_int e2
              exact ⟨t, e⟩
      exact key ra (by rw [Array.length_toList]; exact hacc.1) fun j v e => hacc.2 j v (by rw [← Array.getElem?_toList]; exact e)
  | [], rs => simp [Rels] at rs
  | _ :: _ :: _, rs => simp [Rels] at rs
theorem W2.eqS {a b : Str} {Q : V → Sg → Prop} (hu : c.A.units + 70 < cLine) (ha : PyData.strOk a = true) (hb : PyData.strOk b = true) (hQ : Q (.bool (decide (a = b))) σ) : W2 c (compareOp .Eq) (.str a) (.str b) ρ σ Q := by
  refine W2.eq hu (by unfold V.plain; exact ha) (by unfold V.plain; exact hb) ?_
  have : (@decide (V.str a = V.str b) (Classical.propDecidable _)) = decide (a = b) := by simp
  rw [this]; exact hQ
theorem str_v : PyData.strOk (Str.ofString "v") = true := by kernel_rfl
theorem str_a : PyData.strOk (Str.ofString "a") = true := by kernel_rfl
theorem str_i : PyData.strOk (Str.ofString "i") = true := by kernel_rfl
theorem str_s : PyData.strOk (Str.ofString "s") = true := by kernel_rfl
end
def IsLaw (B : Base) : Prop := B.K = hd.heap_1 B.w.params
noncomputable def fd_fixed_atoms : { fd : FuncData // ∀ P, ∃ oc od osl, (hd.heap_1 P).lookup 60 = some ⟨oc, od, .func fd, osl⟩ } := ⟨_, fun P => ⟨_, _, _, by k_is⟩⟩
theorem ok_fixed_atoms {B : Base} (hB : IsLaw B) : FnOK B.K 60 fd_fixed_atoms.1 where
  look := by rw [hB]; exact fd_fixed_atoms.2 _
  code := by rw [hB]; dsimp only [fd_fixed_atoms]; k_is
  body := rfl
  bind := bind0 (by rfl) (by rfl)
  cell := by decide +kernel
  loc := by decide +kernel
  co := by rfl
  gen := by rfl
  kind := by rfl
  gl := by rfl
  bi := by rfl
noncomputable def fd_fixed_functors : { fd : FuncData // ∀ P, ∃ oc od osl, (hd.heap_1 P).lookup 67 = some ⟨oc, od, .func fd, osl⟩ } := ⟨_, fun P => ⟨_, _, _, by k_is⟩⟩
theorem ok_fixed_functors {B : Base} (hB : IsLaw B) : FnOK B.K 67 fd_fixed_functors.1 where
  look := by rw [hB]; exact fd_fixed_functors.2 _
  code := by rw [hB]; dsimp only [fd_fixed_functors]; k_is
  body := rfl
  bind := bind0 (by rfl) (by rfl)
  cell := by decide +kernel
  loc := by decide +kernel
  co := by rfl
  gen := by rfl
  kind := by rfl
  gl := by rfl
  bi := by rfl
noncomputable def fd_sym_init : { fd : FuncData // ∀ P, ∃ oc od osl, (hd.heap_1 P).lookup 81 = some ⟨oc, od, .func fd, osl⟩ } := ⟨_, fun P => ⟨_, _, _, by k_is⟩⟩
theorem ok_sym_init {B : Base} (hB : IsLaw B) : FnOK B.K 81 fd_sym_init.1 where
  look := by rw [hB]; exact fd_sym_init.2 _
  code := by rw [hB]; dsimp only [fd_sym_init]; k_is
  body := rfl
  bind := bind1 (by rfl) (fun a => by rfl)
  cell := by decide +kernel
  loc := by decide +kernel
  co := by rfl
  gen := by rfl
  kind := by rfl
  gl := by rfl
  bi := by rfl
noncomputable def fd_sym_atom : { fd : FuncData // ∀ P, ∃ oc od osl, (hd.heap_1 P).lookup 88 = some ⟨oc, od, .func fd, osl⟩ } := ⟨_, fun P => ⟨_, _, _, by k_is⟩⟩
theorem ok_sym_atom {B : Base} (hB : IsLaw B) : FnOK B.K 88 fd_sym_atom.1 where
  look := by rw [hB]; exact fd_sym_atom.2 _
  code := by rw [hB]; dsimp only [fd_sym_atom]; k_is
  body := rfl
  bind := bind2 (by rfl) (fun a b => by rfl)
  cell := by decide +kernel
  loc := by decide +kernel
  co := by rfl
  gen := by rfl
  kind := by rfl
  gl := by rfl
  bi := by rfl
noncomputable def fd_sym_functor : { fd : FuncData // ∀ P, ∃ oc od osl, (hd.heap_1 P).lookup 102 = some ⟨oc, od, .func fd, osl⟩ } := ⟨_, fun P => ⟨_, _, _, by k_is⟩⟩
theorem ok_sym_functor {B : Base} (hB : IsLaw B) : FnOK B.K 102 fd_sym_functor.1 where
  look := by rw [hB]; exact fd_sym_functor.2 _
  code := by rw [hB]; dsimp only [fd_sym_functor]; k_is
  body := rfl
  bind := bind3 (by rfl) (fun a b c => by rfl)
  cell := by decide +kernel
  loc := by decide +kernel
  co := by rfl
  gen := by rfl
  kind := by rfl
  gl := by rfl
  bi := by rfl
noncomputable def fd_sym_func : { fd : FuncData // ∀ P, ∃ oc od osl, (hd.heap_1 P).lookup 109 = some ⟨oc, od, .func fd, osl⟩ } := ⟨_, fun P => ⟨_, _, _, by k_is⟩⟩
theorem ok_sym_func {B : Base} (hB : IsLaw B) : FnOK B.K 109 fd_sym_func.1 where
  look := by rw [hB]; exact fd_sym_func.2 _
  code := by rw [hB]; dsimp only [fd_sym_func]; k_is
  body := rfl
  bind := bind3 (by rfl) (fun a b c => by rfl)
  cell := by decide +kernel
  loc := by decide +kernel
  co := by rfl
  gen := by rfl
  kind := by rfl
  gl := by rfl
  bi := by rfl
noncomputable def fd_sym_arity : { fd : FuncData // ∀ P, ∃ oc od osl, (hd.heap_1 P).lookup 123 = some ⟨oc, od, .func fd, osl⟩ } := ⟨_, fun P => ⟨_, _, _, by k_is⟩⟩
theorem ok_sym_arity {B : Base} (hB : IsLaw B) : FnOK B.K 123 fd_sym_arity.1 where
  look := by rw [hB]; exact fd_sym_arity.2 _
  code := by rw [hB]; dsimp only [fd_sym_arity]; k_is
  body := rfl
  bind := bind2 (by rfl) (fun a b => by rfl)
  cell := by decide +kernel
  loc := by decide +kernel
  co := by rfl
  gen := by rfl
  kind := by rfl
  gl := by rfl
  bi := by rfl
noncomputable def fd_push : { fd : FuncData // ∀ P, ∃ oc od osl, (hd.heap_1 P).lookup 201 = some ⟨oc, od, .func fd, osl⟩ } := ⟨_, fun P => ⟨_, _, _, by k_is⟩⟩
theorem ok_push {B : Base} (hB : IsLaw B) : FnOK B.K 201 fd_push.1 where
  look := by rw [hB]; exact fd_push.2 _
  code := by rw [hB]; dsimp only [fd_push]; k_is
  body := rfl
  bind := bind2 (by rfl) (fun a b => by rfl)
  cell := by decide +kernel
  loc := by decide +kernel
  co := by rfl
  gen := by rfl
  kind := by rfl
  gl := by rfl
  bi := by rfl
noncomputable def fd_new_var : { fd : FuncData // ∀ P, ∃ oc od osl, (hd.heap_1 P).lookup 208 = some ⟨oc, od, .func fd, osl⟩ } := ⟨_, fun P => ⟨_, _, _, by k_is⟩⟩
theorem ok_new_var {B : Base} (hB : IsLaw B) : FnOK B.K 208 fd_new_var.1 where
  look := by rw [hB]; exact fd_new_var.2 _
  code := by rw [hB]; dsimp only [fd_new_var]; k_is
  body := rfl
  bind := bind1 (by rfl) (fun a => by rfl)
  cell := by decide +kernel
  loc := by decide +kernel
  co := by rfl
  gen := by rfl
  kind := by rfl
  gl := by rfl
  bi := by rfl
noncomputable def fd_reserve : { fd : FuncData // ∀ P, ∃ oc od osl, (hd.heap_1 P).lookup 215 = some ⟨oc, od, .func fd, osl⟩ } := ⟨_, fun P => ⟨_, _, _, by k_is⟩⟩
theorem ok_reserve {B : Base} (hB : IsLaw B) : FnOK B.K 215 fd_reserve.1 where
  look := by rw [hB]; exact fd_reserve.2 _
  code := by rw [hB]; dsimp only [fd_reserve]; k_is
  body := rfl
  bind := bind2 (by rfl) (fun a b => by rfl)
  cell := by decide +kernel
  loc := by decide +kernel
  co := by rfl
  gen := by rfl
  kind := by rfl
  gl := by rfl
  bi := by rfl
noncomputable def fd_deref : { fd : FuncData // ∀ P, ∃ oc od osl, (hd.heap_1 P).lookup 229 = some ⟨oc, od, .func fd, osl⟩ } := ⟨_, fun P => ⟨_, _, _, by k_is⟩⟩
theorem ok_deref {B : Base} (hB : IsLaw B) : FnOK B.K 229 fd_deref.1 where
  look := by rw [hB]; exact fd_deref.2 _
  code := by rw [hB]; dsimp only [fd_deref]; k_is
  body := rfl
  bind := bind2 (by rfl) (fun a b => by rfl)
  cell := by decide +kernel
  loc := by decide +kernel
  co := by rfl
  gen := by rfl
  kind := by rfl
  gl := by rfl
  bi := by rfl
noncomputable def fd_bind : { fd : FuncData // ∀ P, ∃ oc od osl, (hd.heap_1 P).lookup 243 = some ⟨oc, od, .func fd, osl⟩ } := ⟨_, fun P => ⟨_, _, _, by k_is⟩⟩
theorem ok_bind {B : Base} (hB : IsLaw B) : FnOK B.K 243 fd_bind.1 where
  look := by rw [hB]; exact fd_bind.2 _
  code := by rw [hB]; dsimp only [fd_bind]; k_is
  body := rfl
  bind := bind3 (by rfl) (fun a b c => by rfl)
  cell := by decide +kernel
  loc := by decide +kernel
  co := by rfl
  gen := by rfl
  kind := by rfl
  gl := by rfl
  bi := by rfl
noncomputable def fd_globalise : { fd : FuncData // ∀ P, ∃ oc od osl, (hd.heap_1 P).lookup 257 = some ⟨oc, od, .func fd, osl⟩ } := ⟨_, fun P => ⟨_, _, _, by k_is⟩⟩
theorem ok_globalise {B : Base} (hB : IsLaw B) : FnOK B.K 257 fd_globalise.1 where
  look := by rw [hB]; exact fd_globalise.2 _
  code := by rw [hB]; dsimp only [fd_globalise]; k_is
  body := rfl
  bind := bind2 (by rfl) (fun a b => by rfl)
  cell := by decide +kernel
  loc := by decide +kernel
  co := by rfl
  gen := by rfl
  kind := by rfl
  gl := by rfl
  bi := by rfl
noncomputable def fd_is_compound : { fd : FuncData // ∀ P, ∃ oc od osl, (hd.heap_1 P).lookup 285 = some ⟨oc, od, .func fd, osl⟩ } := ⟨_, fun P => ⟨_, _, _, by k_is⟩⟩
theorem ok_is_compound {B : Base} (hB : IsLaw B) : FnOK B.K 285 fd_is_compound.1 where
  look := by rw [hB]; exact fd_is_compound.2 _
  code := by rw [hB]; dsimp only [fd_is_compound]; k_is
  body := rfl
  bind := bind2 (by rfl) (fun a b => by rfl)
  cell := by decide +kernel
  loc := by decide +kernel
  co := by rfl
  gen := by rfl
  kind := by rfl
  gl := by rfl
  bi := by rfl
noncomputable def fd_functor_of : { fd : FuncData // ∀ P, ∃ oc od osl, (hd.heap_1 P).lookup 292 = some ⟨oc, od, .func fd, osl⟩ } := ⟨_, fun P => ⟨_, _, _, by k_is⟩⟩
theorem ok_functor_of {B : Base} (hB : IsLaw B) : FnOK B.K 292 fd_functor_of.1 where
  look := by rw [hB]; exact fd_functor_of.2 _
  code := by rw [hB]; dsimp only [fd_functor_of]; k_is
  body := rfl
  bind := bind2 (by rfl) (fun a b => by rfl)
  cell := by decide +kernel
  loc := by decide +kernel
  co := by rfl
  gen := by rfl
  kind := by rfl
  gl := by rfl
  bi := by rfl
noncomputable def fd_width : { fd : FuncData // ∀ P, ∃ oc od osl, (hd.heap_1 P).lookup 299 = some ⟨oc, od, .func fd, osl⟩ } := ⟨_, fun P => ⟨_, _, _, by k_is⟩⟩
theorem ok_width {B : Base} (hB : IsLaw B) : FnOK B.K 299 fd_width.1 where
  look := by rw [hB]; exact fd_width.2 _
  code := by rw [hB]; dsimp only [fd_width]; k_is
  body := rfl
  bind := bind2 (by rfl) (fun a b => by rfl)
  cell := by decide +kernel
  loc := by decide +kernel
  co := by rfl
  gen := by rfl
  kind := by rfl
  gl := by rfl
  bi := by rfl
noncomputable def fd_base : { fd : FuncData // ∀ P, ∃ oc od osl, (hd.heap_1 P).lookup 306 = some ⟨oc, od, .func fd, osl⟩ } := ⟨_, fun P => ⟨_, _, _, by k_is⟩⟩
theorem ok_base {B : Base} (hB : IsLaw B) : FnOK B.K 306 fd_base.1 where
  look := by rw [hB]; exact fd_base.2 _
  code := by rw [hB]; dsimp only [fd_base]; k_is
  body := rfl
  bind := bind2 (by rfl) (fun a b => by rfl)
  cell := by decide +kernel
  loc := by decide +kernel
  co := by rfl
  gen := by rfl
  kind := by rfl
  gl := by rfl
  bi := by rfl
noncomputable def fd_new_block : { fd : FuncData // ∀ P, ∃ oc od osl, (hd.heap_1 P).lookup 320 = some ⟨oc, od, .func fd, osl⟩ } := ⟨_, fun P => ⟨_, _, _, by k_is⟩⟩
theorem ok_new_block {B : Base} (hB : IsLaw B) : FnOK B.K 320 fd_new_block.1 where
  look := by rw [hB]; exact fd_new_block.2 _
  code := by rw [hB]; dsimp only [fd_new_block]; k_is
  body := rfl
  bind := bind2 (by rfl) (fun a b => by rfl)
  cell := by decide +kernel
  loc := by decide +kernel
  co := by rfl
  gen := by rfl
  kind := by rfl
  gl := by rfl
  bi := by rfl
noncomputable def fd_put_term : { fd : FuncData // ∀ P, ∃ oc od osl, (hd.heap_1 P).lookup 363 = some ⟨oc, od, .func fd, osl⟩ } := ⟨_, fun P => ⟨_, _, _, by k_is⟩⟩
theorem ok_put_term {B : Base} (hB : IsLaw B) : FnOK B.K 363 fd_put_term.1 where
  look := by rw [hB]; exact fd_put_term.2 _
  code := by rw [hB]; dsimp only [fd_put_term]; k_is
  body := rfl
  bind := bind3 (by rfl) (fun a b c => by rfl)
  cell := by decide +kernel
  loc := by decide +kernel
  co := by rfl
  gen := by rfl
  kind := by rfl
  gl := by rfl
  bi := by rfl
noncomputable def fd_whole_size : { fd : FuncData // ∀ P, ∃ oc od osl, (hd.heap_1 P).lookup 370 = some ⟨oc, od, .func fd, osl⟩ } := ⟨_, fun P => ⟨_, _, _, by k_is⟩⟩
theorem ok_whole_size {B : Base} (hB : IsLaw B) : FnOK B.K 370 fd_whole_size.1 where
  look := by rw [hB]; exact fd_whole_size.2 _
  code := by rw [hB]; dsimp only [fd_whole_size]; k_is
  body := rfl
  bind := bind3 (by rfl) (fun a b c => by rfl)
  cell := by decide +kernel
  loc := by decide +kernel
  co := by rfl
  gen := by rfl
  kind := by rfl
  gl := by rfl
  bi := by rfl
noncomputable def fd_take_term : { fd : FuncData // ∀ P, ∃ oc od osl, (hd.heap_1 P).lookup 377 = some ⟨oc, od, .func fd, osl⟩ } := ⟨_, fun P => ⟨_, _, _, by k_is⟩⟩
theorem ok_take_term {B : Base} (hB : IsLaw B) : FnOK B.K 377 fd_take_term.1 where
  look := by rw [hB]; exact fd_take_term.2 _
  code := by rw [hB]; dsimp only [fd_take_term]; k_is
  body := rfl
  bind := bind3 (by rfl) (fun a b c => by rfl)
  cell := by decide +kernel
  loc := by decide +kernel
  co := by rfl
  gen := by rfl
  kind := by rfl
  gl := by rfl
  bi := by rfl
noncomputable def fd_copy : { fd : FuncData // ∀ P, ∃ oc od osl, (hd.heap_1 P).lookup 389 = some ⟨oc, od, .func fd, osl⟩ } := ⟨_, fun P => ⟨_, _, _, by k_is⟩⟩
theorem ok_copy {B : Base} (hB : IsLaw B) : FnOK B.K 389 fd_copy.1 where
  look := by rw [hB]; exact fd_copy.2 _
  code := by rw [hB]; dsimp only [fd_copy]; k_is
  body := rfl
  bind := bind3 (by rfl) (fun a b c => by rfl)
  cell := by decide +kernel
  loc := by decide +kernel
  co := by rfl
  gen := by rfl
  kind := by rfl
  gl := by rfl
  bi := by rfl
noncomputable def fd_pick : { fd : FuncData // ∀ P, ∃ oc od osl, (hd.heap_1 P).lookup 396 = some ⟨oc, od, .func fd, osl⟩ } := ⟨_, fun P => ⟨_, _, _, by k_is⟩⟩
theorem ok_pick {B : Base} (hB : IsLaw B) : FnOK B.K 396 fd_pick.1 where
  look := by rw [hB]; exact fd_pick.2 _
  code := by rw [hB]; dsimp only [fd_pick]; k_is
  body := rfl
  bind := bind2 (by rfl) (fun a b => by rfl)
  cell := by decide +kernel
  loc := by decide +kernel
  co := by rfl
  gen := by rfl
  kind := by rfl
  gl := by rfl
  bi := by rfl
noncomputable def fd_grown : { fd : FuncData // ∀ P, ∃ oc od osl, (hd.heap_1 P).lookup 403 = some ⟨oc, od, .func fd, osl⟩ } := ⟨_, fun P => ⟨_, _, _, by k_is⟩⟩
theorem ok_grown {B : Base} (hB : IsLaw B) : FnOK B.K 403 fd_grown.1 where
  look := by rw [hB]; exact fd_grown.2 _
  code := by rw [hB]; dsimp only [fd_grown]; k_is
  body := rfl
  bind := bind3 (by rfl) (fun a b c => by rfl)
  cell := by decide +kernel
  loc := by decide +kernel
  co := by rfl
  gen := by rfl
  kind := by rfl
  gl := by rfl
  bi := by rfl
theorem IsLaw.k {B : Base} (h : IsLaw B) : B.K = hd.heap_1 B.w.params := h
noncomputable def ktab : List (Addr × Str) := [(154, Str.ofString "texts"), (154, Str.ofString "atom_numbers"), (154, Str.ofString "functors"), (154, Str.ofString "functor_numbers"), (380, Str.ofString "symbols"), (380, Str.ofString "max_heap"), (380, Str.ofString "heap"), (380, Str.ofString "stack"), (380, Str.ofString "trail"), (380, Str.ofString "hb"), (380, Str.ofString "bb")]
theorem ks_tab {B : Base} (hB : IsLaw B) : (ktab.all fun p => fieldOK B.K p.1 p.2 && setOK B.K p.1 p.2) = true := by rw [hB.k]; kernel_rfl
theorem fk_of {B : Base} (hB : IsLaw B) {C : Addr} {x : Str} (h : (C, x) ∈ ktab) : fieldOK B.K C x = true := (Bool.and_eq_true_iff.mp (List.all_eq_true.mp (ks_tab hB) _ h)).1
theorem sk_of {B : Base} (hB : IsLaw B) {C : Addr} {x : Str} (h : (C, x) ∈ ktab) : setOK B.K C x = true := (Bool.and_eq_true_iff.mp (List.all_eq_true.mp (ks_tab hB) _ h)).2
theorem mk_sym_atom {B : Base} (hB : IsLaw B) : MethOK B.K 154 (Str.ofString "atom") 88 := ⟨by rw [hB.k]; k_is, by rw [hB.k]; k_is, by rw [hB.k]; k_is, by rw [hB.k]; kernel_rfl⟩
theorem mk_sym_functor {B : Base} (hB : IsLaw B) : MethOK B.K 154 (Str.ofString "functor") 102 := ⟨by rw [hB.k]; k_is, by rw [hB.k]; k_is, by rw [hB.k]; k_is, by rw [hB.k]; kernel_rfl⟩
theorem mk_sym_func {B : Base} (hB : IsLaw B) : MethOK B.K 154 (Str.ofString "func") 109 := ⟨by rw [hB.k]; k_is, by rw [hB.k]; k_is, by rw [hB.k]; k_is, by rw [hB.k]; kernel_rfl⟩
theorem mk_sym_name {B : Base} (hB : IsLaw B) : MethOK B.K 154 (Str.ofString "name") 116 := ⟨by rw [hB.k]; k_is, by rw [hB.k]; k_is, by rw [hB.k]; k_is, by rw [hB.k]; kernel_rfl⟩
theorem mk_sym_arity {B : Base} (hB : IsLaw B) : MethOK B.K 154 (Str.ofString "arity") 123 := ⟨by rw [hB.k]; k_is, by rw [hB.k]; k_is, by rw [hB.k]; k_is, by rw [hB.k]; kernel_rfl⟩
theorem mk_push {B : Base} (hB : IsLaw B) : MethOK B.K 380 (Str.ofString "push") 201 := ⟨by rw [hB.k]; k_is, by rw [hB.k]; k_is, by rw [hB.k]; k_is, by rw [hB.k]; kernel_rfl⟩
theorem mk_new_var {B : Base} (hB : IsLaw B) : MethOK B.K 380 (Str.ofString "new_var") 208 := ⟨by rw [hB.k]; k_is, by rw [hB.k]; k_is, by rw [hB.k]; k_is, by rw [hB.k]; kernel_rfl⟩
theorem mk_reserve {B : Base} (hB : IsLaw B) : MethOK B.K 380 (Str.ofString "reserve") 215 := ⟨by rw [hB.k]; k_is, by rw [hB.k]; k_is, by rw [hB.k]; k_is, by rw [hB.k]; kernel_rfl⟩
theorem mk_deref {B : Base} (hB : IsLaw B) : MethOK B.K 380 (Str.ofString "deref") 229 := ⟨by rw [hB.k]; k_is, by rw [hB.k]; k_is, by rw [hB.k]; k_is, by rw [hB.k]; kernel_rfl⟩
theorem mk_bind {B : Base} (hB : IsLaw B) : MethOK B.K 380 (Str.ofString "bind") 243 := ⟨by rw [hB.k]; k_is, by rw [hB.k]; k_is, by rw [hB.k]; k_is, by rw [hB.k]; kernel_rfl⟩
theorem mk_globalise {B : Base} (hB : IsLaw B) : MethOK B.K 380 (Str.ofString "globalise") 257 := ⟨by rw [hB.k]; k_is, by rw [hB.k]; k_is, by rw [hB.k]; k_is, by rw [hB.k]; kernel_rfl⟩
theorem mk_is_compound {B : Base} (hB : IsLaw B) : MethOK B.K 380 (Str.ofString "is_compound") 285 := ⟨by rw [hB.k]; k_is, by rw [hB.k]; k_is, by rw [hB.k]; k_is, by rw [hB.k]; kernel_rfl⟩
theorem mk_functor_of {B : Base} (hB : IsLaw B) : MethOK B.K 380 (Str.ofString "functor_of") 292 := ⟨by rw [hB.k]; k_is, by rw [hB.k]; k_is, by rw [hB.k]; k_is, by rw [hB.k]; kernel_rfl⟩
theorem mk_width {B : Base} (hB : IsLaw B) : MethOK B.K 380 (Str.ofString "width") 299 := ⟨by rw [hB.k]; k_is, by rw [hB.k]; k_is, by rw [hB.k]; k_is, by rw [hB.k]; kernel_rfl⟩
theorem mk_base {B : Base} (hB : IsLaw B) : MethOK B.K 380 (Str.ofString "base") 306 := ⟨by rw [hB.k]; k_is, by rw [hB.k]; k_is, by rw [hB.k]; k_is, by rw [hB.k]; kernel_rfl⟩
theorem mk_new_block {B : Base} (hB : IsLaw B) : MethOK B.K 380 (Str.ofString "new_block") 320 := ⟨by rw [hB.k]; k_is, by rw [hB.k]; k_is, by rw [hB.k]; k_is, by rw [hB.k]; kernel_rfl⟩
theorem mk_put_term {B : Base} (hB : IsLaw B) : MethOK B.K 380 (Str.ofString "put_term") 363 := ⟨by rw [hB.k]; k_is, by rw [hB.k]; k_is, by rw [hB.k]; k_is, by rw [hB.k]; kernel_rfl⟩
theorem mk_whole_size {B : Base} (hB : IsLaw B) : MethOK B.K 380 (Str.ofString "whole_size") 370 := ⟨by rw [hB.k]; k_is, by rw [hB.k]; k_is, by rw [hB.k]; k_is, by rw [hB.k]; kernel_rfl⟩
theorem mk_take_term {B : Base} (hB : IsLaw B) : MethOK B.K 380 (Str.ofString "take_term") 377 := ⟨by rw [hB.k]; k_is, by rw [hB.k]; k_is, by rw [hB.k]; k_is, by rw [hB.k]; kernel_rfl⟩
noncomputable def mtab : List (Addr × Str × Addr) := [(154, Str.ofString "atom", 88), (154, Str.ofString "functor", 102), (154, Str.ofString "func", 109), (154, Str.ofString "name", 116), (154, Str.ofString "arity", 123), (380, Str.ofString "push", 201), (380, Str.ofString "new_var", 208), (380, Str.ofString "reserve", 215), (380, Str.ofString "deref", 229), (380, Str.ofString "bind", 243), (380, Str.ofString "globalise", 257), (380, Str.ofString "is_compound", 285), (380, Str.ofString "functor_of", 292), (380, Str.ofString "width", 299), (380, Str.ofString "base", 306), (380, Str.ofString "new_block", 320), (380, Str.ofString "put_term", 363), (380, Str.ofString "whole_size", 370), (380, Str.ofString "take_term", 377)]
theorem mk_all {B : Base} (hB : IsLaw B) : ∀ p ∈ mtab, MethOK B.K p.1 p.2.1 p.2.2 := by
  unfold mtab
  simp only [List.forall_mem_cons]
  exact ⟨mk_sym_atom hB, mk_sym_functor hB, mk_sym_func hB, mk_sym_name hB, mk_sym_arity hB, mk_push hB, mk_new_var hB, mk_reserve hB, mk_deref hB, mk_bind hB, mk_globalise hB, mk_is_compound hB, mk_functor_of hB, mk_width hB, mk_base hB, mk_new_block hB, mk_put_term hB, mk_whole_size hB, mk_take_term hB, List.forall_mem_nil _⟩
theorem mk_of {B : Base} (hB : IsLaw B) {C a : Addr} {x : Str} (h : (C, x, a) ∈ mtab) : MethOK B.K C x a := mk_all hB _ h
theorem bk_len : bootBuiltins (Str.ofString "len") = some (.builtin "len") := by rfl
theorem bk_abs : bootBuiltins (Str.ofString "abs") = some (.builtin "abs") := by rfl
theorem bk_int : bootBuiltins (Str.ofString "int") = some (.type "int") := by rfl
theorem bk_list : bootBuiltins (Str.ofString "list") = some (.type "list") := by rfl
theorem bk_tuple : bootBuiltins (Str.ofString "tuple") = some (.type "tuple") := by rfl
theorem bk_range : bootBuiltins (Str.ofString "range") = some (.type "range") := by rfl
local macro_rules | `(tactic| walk_at "lk") => `(tactic| k_dflt (first
  | assumption
  | exact updR_same _ _ _
  | (refine updR_skip (by k_dflt decide) ?_; walk_at "lk")
  | exact rho0_hit (by k_dflt decide)
  | (refine rho0_skip (by k_dflt decide) ?_; walk_at "lk")))
local macro_rules | `(tactic| walk_at "okt") => `(tactic| k_dflt (first | assumption | exact Cx.ok.push (by walk_at "okt") _))
local macro_rules | `(tactic| walk_at "ne") => `(tactic| k_dflt (first | assumption | exact Ne.symm (by assumption) | exact ne_ob (by assumption) (by assumption) (by nofun) | exact ne_fr (by assumption) (by assumption) | exact ne_fr' (by assumption) (by assumption)))
local macro_rules | `(tactic| walk_at "ob") => `(tactic| k_dflt (first | assumption | exact upd_same _ _ _ | (refine upd_at (by walk_at "ne") ?_; walk_at "ob")))
local macro_rules | `(tactic| walk_at "k") => `(tactic| k_dflt (dsimp only [Cx.push]; rw [IsLaw.k (by assumption)]; k_is))
local macro_rules | `(tactic| walk_at "kg") => `(tactic| k_dflt (dsimp only [Cx.push]; rw [IsLaw.k (by assumption)]; exact ⟨_, by k_is⟩))
local macro_rules | `(tactic| walk_at "kk") => `(tactic| k_dflt (dsimp only [Cx.push]; rw [IsLaw.k (by assumption)]; kernel_rfl))
local macro_rules | `(tactic| walk_at "un") => `(tactic| k_dflt (first | assumption | exact Cx.ok.units (by walk_at "okt")))
local macro_rules | `(tactic| walk_at "sz") => `(tactic| k_dflt (first | assumption | omega | (simp only [List.length_append, List.length_cons, List.length_nil, List.length_map, List.length_set, selfs_length]; omega) | (simp; omega) | simp))
local macro_rules | `(tactic| walk_at "dg") => `(tactic| k_dflt (first | exact dget_hit | (refine dget_skip (by k_dflt decide) ?_; walk_at "dg") | exact dget_nil))
local macro_rules | `(tactic| walk_at "dp") => `(tactic| k_dflt (first | exact dput_nil | exact dput_miss (by k_dflt decide) (by walk_at "dp")))
local macro_rules | `(tactic| walk_at "e") => `(tactic| with_reducible first
  | refine WSS.nil ?_
  | (show thenS _ _ _ _ _ _; first | refine thenS_next ?_ | refine thenS_ret ?_ | refine thenS_cont ?_)
  | (show turnQ _ _ _ _ _; first | refine turnQ_next ?_)
  | refine whileQ_ret ?_
  | (show WS _ _ _ _ _; first | refine WS.assign ?_ | refine WS.ifS ?_ | refine WS.ret ?_ | refine WS.expr ?_ | refine WS.cont ?_ | refine WS.augName (by walk_at "okt") (by walk_at "lk") ?_ | refine WS.augSub ?_)
  | (show WE _ _ _ _ _; first | refine WE.loc1 (by k_dflt rfl) (by walk_at "okt") (by walk_at "lk") ?_ | refine WE.cellv (by k_dflt rfl) (by walk_at "okt") (by k_dflt rfl) (by walk_at "ob") ?_ | refine WE.globI (by walk_at "okt") (by walk_at "kg") ?_ | refine WE.globR (by walk_at "okt") (by walk_at "k") ?_ | refine WE.blt (by walk_at "okt") (by walk_at "k") (by walk_at "bk") (by k_dflt decide) ?_ | refine WE.cint ?_ | refine WE.cstr ?_ | refine WE.cbool ?_ | refine WE.cnone ?_ | refine WE.bin ?_ | refine WE.cmp ?_ | refine WE.un ?_ | refine WE.ite ?_ | refine WE.attr ?_ | refine WE.sliceA ?_ | refine WE.sub ?_ | refine WE.tup ?_ | refine WE.list ?_ | refine WE.or2 ?_ | refine WE.meth ?_ | refine WE.callR (f := Value.builtin _) (fun Q' h => WE.blt (by walk_at "okt") (by walk_at "k") (by walk_at "bk") (by k_dflt decide) h) (by k_dflt rfl) ?_ | refine WE.callR (f := Value.type _) (fun Q' h => WE.blt (by walk_at "okt") (by walk_at "k") (by walk_at "bk") (by k_dflt decide) h) (by k_dflt rfl) ?_ | refine WE.callR (fun Q' h => WE.globR (by walk_at "okt") (by walk_at "k") h) (by walk_at "kk") ?_)
  | refine WPart.no ?_ | refine WPart.yes ?_
  | (show WT _ _ _ _ _; first | refine WT.cmp ?_ | refine WT.not ?_ | refine WT.and2 ?_ | refine WT.or2 ?_ | refine WT.val ?_)
  | refine WL.nil ?_ | refine WL.cons ?_
  | (show WA _ _ _ _ _ _; first | refine WA.name (by walk_at "okt") ?_ | refine WA.cellv (by k_dflt rfl) (by walk_at "okt") (by k_dflt rfl) (by walk_at "ob") ?_ | refine WA.sub ?_ | refine WA.attr ?_ | k_dflt refine WA.tup2 (by walk_at "okt") ?_)
  | refine W1.neg ?_ | refine W1.attr (by walk_at "ob") (by walk_at "ob") (by k_dflt walk_at "ks") (by walk_at "dg") (by k_dflt rfl) ?_
  | (show W2 _ _ _ _ _ _ _; first | refine W2.add ?_ | refine W2.sub ?_ | refine W2.iadd ?_ | refine W2.lt ?_ | refine W2.gt ?_ | refine W2.ge ?_ | refine W2.eqI (by walk_at "un") ?_ | refine W2.eqC (by walk_at "un") ?_ | refine W2.inI (by walk_at "ob") ?_ | refine W2.notInI (by walk_at "ob") ?_)
  | refine W2u.setAttr' (by walk_at "ob") (by walk_at "ob") (by k_dflt walk_at "ks") (by k_dflt simp) (by walk_at "dp") ?_
  | (show WSub _ _ _ _ _ _; first | refine WSub.cell0 ?_ | refine WSub.cell1 ?_ | refine WSub.tup (by k_dflt decide) (by k_dflt decide) (by k_dflt rfl) ?_ | refine WSub.list (by walk_at "ob") (by k_dflt decide) (by k_dflt decide) (by k_dflt rfl) ?_)
  | (show WMeth _ _ _ _ _ _; first | refine WMeth.listM (by walk_at "ob") PySem.F.slot_list_append PySem.F.type_list_append ?_ | refine WMeth.listM (by walk_at "ob") PySem.F.slot_list_pop PySem.F.type_list_pop ?_ | refine WMeth.sdictM (by walk_at "ob") PySem.F.slot_dict_get PySem.F.type_dict_get ?_ | refine WMeth.tdictM (by walk_at "ob") PySem.F.slot_dict_get PySem.F.type_dict_get ?_ | refine WMeth.idictM (by walk_at "ob") PySem.F.slot_dict_setdefault PySem.F.type_dict_setdefault ?_ | refine WMeth.idictM (by walk_at "ob") PySem.F.slot_dict_values PySem.F.type_dict_values ?_ | refine WMeth.instM (by walk_at "ob") (by walk_at "ob") (by k_dflt walk_at "mk") (by walk_at "dg") ?_)
  | (show WC _ _ _ _ _ _; first | refine WC.len_list (by walk_at "ob") (by walk_at "sz") ?_ | refine WC.len_idict (by walk_at "ob") (by walk_at "sz") ?_ | refine WC.append (by walk_at "ob") (by walk_at "sz") ?_ | refine WC.abs ?_ | refine WC.intInt ?_)
  | refine WSet.list (by walk_at "ob") (by k_dflt decide) (by k_dflt decide) (by k_dflt (simp; done)) ?_
  | refine okL ?_ | refine okR ?_ | refine le_and (by walk_at "sz") ?_ | refine raw_and ?_ | refine iteF ?_ | refine iteT ?_ | refine isBool ?_ | refine isInt ?_ | refine isTup ?_)
local macro_rules | `(tactic| walk_at "m") => `(tactic| first | (with_reducible refine WSS.cons ?_) | walk_at "e")
local macro_rules | `(tactic| walk_at "mem") => `(tactic| (with_reducible (first | exact List.mem_cons_self | (refine List.mem_cons_of_mem _ ?_; walk_at "mem"))))
local macro_rules | `(tactic| walk_at "ks") => `(tactic| (dsimp only [Cx.push]; first | (with_reducible refine fk_of (by assumption) ?_; unfold ktab; walk_at "mem") | (with_reducible refine sk_of (by assumption) ?_; unfold ktab; walk_at "mem")))
local macro_rules | `(tactic| walk_at "mk") => `(tactic| (dsimp only [Cx.push]; with_reducible exact mk_of (by assumption) (by unfold mtab; walk_at "mem")))
local macro_rules | `(tactic| walk_at "bk") => `(tactic| with_reducible first | exact bk_len | exact bk_abs | exact bk_int | exact bk_list | exact bk_tuple | exact bk_range)
structure StA where
  a : Addr
  d : Addr
  b : Addr
  h : Addr
  k : Addr
  t : Addr
noncomputable def StA.fields (S : StA) : List (Str × V) := [(Str.ofString "symbols", .ref S.b), (Str.ofString "max_heap", .int 100000), (Str.ofString "heap", .ref S.h), (Str.ofString "stack", .ref S.k), (Str.ofString "trail", .ref S.t), (Str.ofString "hb", .int 0), (Str.ofString "bb", .int 0)]
structure StoreAt (S : StA) (H : List V) (σ : Sg) : Prop where
  a : σ S.a = some (.inst 380 S.d)
  d : σ S.d = some (.sdict S.fields)
  h : σ S.h = some (.list H)
theorem c_push {B : Base} (hB : IsLaw B) {S : StA} {H : List V} {σ : Sg} (st : StoreAt S H σ) (x : V) (hz : H.length < 100000) {Q : V → Sg → Prop} (hQ : Q (.int H.length) (upd σ S.h (.list (H ++ [x])))) : Spec B (.ref 201) 1 [.ref S.a, x] σ Q := by
  refine Spec.fn (ok_push hB) rfl fun A gs L r hL => ?_
  have ok := (ok_push hB).okc (gs := gs) (L := L) r
  obtain ⟨h1, h2, h3⟩ := st
  unfold StA.fields at h2
  refine WSS.cons ?_
  repeat walk_at "m"
  refine iteB (fun h => absurd h (by omega)) fun _ => ?_
  repeat walk_at "m"
  exact hQ
/-! ## cells -/
inductive DerN (H : List Cell) : Nat → Cell → Cell → Prop
  | here {x : Cell} : x.1 ≠ 0 → x.1 ≠ 1 → DerN H 0 x x
  | self {x : Cell} : x.1 = 0 → 0 ≤ x.2 → H[x.2.toNat]? = some x → DerN H 0 x x
  | step {n : Nat} {x y z : Cell} : x.1 = 0 → 0 ≤ x.2 → H[x.2.toNat]? = some y → y ≠ x → DerN H n y z → DerN H (n + 1) x z
def Der (H : List Cell) (x y : Cell) : Prop := ∃ n, DerN H n x y
theorem DerN.tag {H : List Cell} {n : Nat} {x y : Cell} (h : DerN H n x y) : y.1 ≠ 1 := by
  induction h with
  | here _ h => exact h
  | self h => rw [h]; decide
  | step _ _ _ _ _ ih => exact ih
abbrev isCmp (x : Cell) : Prop := x.1 = 2 ∨ x.1 = 3

theorem c_new_var {B : Base} (hB : IsLaw B) {S : StA} {H : List V} {σ : Sg} (st : StoreAt S H σ) (hz : H.length < 100000) {Q : V → Sg → Prop} (hQ : Q (.tup [.int 0, .int H.length]) (upd σ S.h (.list (H ++ [.tup [.int 0, .int H.length]])))) : Spec B (.ref 208) 2 [.ref S.a] σ Q := by
  refine Spec.fn (ok_new_var hB) rfl fun A gs L r hL => ?_
  have ok := (ok_new_var hB).okc (gs := gs) (L := L) r
  have st0 := st
  obtain ⟨h1, h2, h3⟩ := st
  unfold StA.fields at h2
  refine WSS.cons ?_
  repeat walk_at "m"
  refine WC.spec r (c_push hB st0 _ hz ?_)
  repeat walk_at "m"
  exact hQ

theorem c_deref {B : Base} (hB : IsLaw B) {S : StA} {H : List Cell} {σ : Sg} (st : StoreAt S (H.map enc) σ) (hz : H.length ≤ 100000) {n : Nat} {x d : Cell} (hd : DerN H n x d) {Q : V → Sg → Prop} (hQ : Q (enc d) σ) : Spec B (.ref 229) 1 [.ref S.a, enc x] σ Q := by
  refine Spec.fn (ok_deref hB) rfl fun A gs L r hL => ?_
  have ok := (ok_deref hB).okc (gs := gs) (L := L) r
  obtain ⟨h1, h2, h3⟩ := st
  unfold StA.fields at h2
  refine WSS.one ?_
  refine WS.loop (fun n ρ σ' => σ' = σ ∧ ρ (Str.ofString "self") = some (.ref S.a) ∧ ∃ x, ρ (Str.ofString "cell") = some (enc x) ∧ DerN H n x d) n ⟨rfl, by walk_at "lk", x, by walk_at "lk", hd⟩ ?_
  rintro n ρ _ ⟨rfl, hs, x, hc, hd⟩
  repeat walk_at "m"
  refine iteB (fun h => ?_) (fun h => ?_)
  · cases hd with
    | here h' => exact absurd h h'
    | self _ h0 hu =>
      repeat walk_at "m"
      refine WSub.cells (by walk_at "ob") h0 hu (by omega) ?_
      repeat walk_at "m"
      refine iteB (fun _ => ?_) (fun h => absurd rfl h)
      repeat walk_at "m"
      exact hQ
    | step _ h0 hu hne hd =>
      repeat walk_at "m"
      refine WSub.cells (by walk_at "ob") h0 hu (by omega) ?_
      repeat walk_at "m"
      refine iteB (fun h => absurd h hne) (fun h => ?_)
      repeat walk_at "m"
      exact whileQ_next _ (Nat.lt_succ_self _) ⟨rfl, by walk_at "lk", _, by walk_at "lk", hd⟩
  · cases hd with
    | self h' => exact absurd h' h
    | step h' => exact absurd h' h
    | here h0 h1 =>
      repeat walk_at "m"
      refine iteB (fun h => absurd h h1) (fun h => ?_)
      repeat walk_at "m"
      exact hQ

theorem c_globalise {B : Base} (hB : IsLaw B) {S : StA} {H : List Cell} {σ : Sg} (st : StoreAt S (H.map enc) σ) (hz : H.length ≤ 100000) {x d : Cell} (hd : Der H x d) {Q : V → Sg → Prop} (hQ : Q (enc d) σ) : Spec B (.ref 257) 2 [.ref S.a, enc x] σ Q := by
  refine Spec.fn (ok_globalise hB) rfl fun A gs L r hL => ?_
  have ok := (ok_globalise hB).okc (gs := gs) (L := L) r
  have st0 := st
  obtain ⟨h1, h2, h3⟩ := st
  unfold StA.fields at h2
  obtain ⟨n, hd⟩ := hd
  refine WSS.cons ?_
  repeat walk_at "m"
  refine WC.spec r (c_deref hB st0 hz hd ?_)
  repeat walk_at "m"
  refine iteB (fun h => absurd h hd.tag) (fun h => ?_)
  repeat walk_at "m"
  exact hQ

theorem c_is_compound {B : Base} (hB : IsLaw B) {a : Addr} {x : Cell} {σ : Sg} {Q : V → Sg → Prop} (hQ : Q (.bool (decide (isCmp x))) σ) : Spec B (.ref 285) 1 [.ref a, enc x] σ Q := by
  refine Spec.fn (ok_is_compound hB) rfl fun A gs L r hL => ?_
  have ok := (ok_is_compound hB).okc (gs := gs) (L := L) r
  refine WSS.cons ?_
  repeat walk_at "m"
  refine iteB (fun h => ?_) (fun h => ?_)
  · rw [show decide (isCmp x) = true from by simp [isCmp, h]] at hQ; exact hQ
  · repeat walk_at "m"
    have : decide (isCmp x) = decide (x.1 = 3) := by simp [isCmp, h]
    rw [this] at hQ; exact hQ

theorem c_base {B : Base} (hB : IsLaw B) {a : Addr} {x : Cell} {σ : Sg} {Q : V → Sg → Prop} (hQ : Q (.int (if x.1 = 3 then x.2 else x.2 + 1)) σ) : Spec B (.ref 306) 1 [.ref a, enc x] σ Q := by
  refine Spec.fn (ok_base hB) rfl fun A gs L r hL => ?_
  have ok := (ok_base hB).okc (gs := gs) (L := L) r
  refine WSS.cons ?_
  repeat walk_at "m"
  refine iteB (fun h => ?_) (fun h => ?_)
  · rw [if_pos h] at hQ
    repeat walk_at "m"
    exact hQ
  · rw [if_neg h] at hQ
    repeat walk_at "m"
    exact hQ

theorem c_bind {B : Base} (hB : IsLaw B) {S : StA} {H : List V} {σ : Sg} (st : StoreAt S H σ) (hz : H.length ≤ 100000) {p : Int} (h0 : 0 ≤ p) (hp : p < H.length) (v : V) {Q : V → Sg → Prop} (hQ : Q .none (upd σ S.h (.list (H.set p.toNat v)))) : Spec B (.ref 243) 1 [.ref S.a, enc (0, p), v] σ Q := by
  refine Spec.fn (ok_bind hB) rfl fun A gs L r hL => ?_
  have ok := (ok_bind hB).okc (gs := gs) (L := L) r
  obtain ⟨h1, h2, h3⟩ := st
  unfold StA.fields at h2
  refine WSS.cons ?_
  repeat walk_at "m"
  refine iteB (fun h => ?_) (fun h => absurd rfl h)
  repeat walk_at "m"
  refine WSet.list (by walk_at "ob") h0 (by omega) (by omega) ?_
  repeat walk_at "m"
  refine iteB (fun h => by simp at h; omega) (fun h => ?_)
  repeat walk_at "m"
  exact hQ
theorem rangeN_zero {k : Int} (h : 0 ≤ k) : rangeN 0 k 1 = k.toNat := by
  unfold rangeN
  rw [rangeSize_one]
  split <;> omega
theorem small_zero {k : Int} (h : 0 ≤ k) (h' : k ≤ 1000000) : Builtin.Range.small 0 k 1 = true := small_one (by omega) (by omega) (by omega) (by omega)

theorem c_reserve {B : Base} (hB : IsLaw B) {S : StA} {H : List Cell} {σ : Sg} (st : StoreAt S (H.map enc) σ) {k : Int} (h0 : 0 ≤ k) (hz : H.length + k ≤ 100000) {Q : V → Sg → Prop} (hQ : Q (.int H.length) (upd σ S.h (.list ((H ++ selfs H.length k.toNat).map enc)))) : Spec B (.ref 215) 1 [.ref S.a, .int k] σ Q := by
  refine Spec.fn (ok_reserve hB) rfl fun A gs L r hL => ?_
  have ok := (ok_reserve hB).okc (gs := gs) (L := L) r
  obtain ⟨h1, h2, h3⟩ := st
  unfold StA.fields at h2
  have hl : (H.map enc).length = H.length := by simp
  refine WSS.cons ?_
  repeat walk_at "m"
  rw [hl]
  refine iteB (fun h => absurd h (by omega)) (fun h => ?_)
  repeat walk_at "m"
  refine WS.forRange ok (WRange.one ?_)
  repeat walk_at "m"
  refine ⟨small_zero h0 (by omega), fun i ρ σ' => i ≤ k.toNat ∧ σ' = upd σ S.h (.list ((H ++ selfs H.length i).map enc)) ∧ ρ (Str.ofString "self") = some (.ref S.a) ∧ ρ (Str.ofString "first") = some (.int H.length), ⟨Nat.zero_le _, ?_, by walk_at "lk", by walk_at "lk"⟩, ?_, ?_⟩
  · simp [selfs, upd_self h3]
  · rintro g i ρ _ hi ⟨hi', rfl, hs, hf⟩
    rw [rangeN_zero h0] at hi
    repeat walk_at "m"
    refine ⟨hi, ?_, by walk_at "lk", by walk_at "lk"⟩
    rw [upd_upd, selfs_succ]
    simp [enc]
  · rw [rangeN_zero h0]
    rintro ρ _ ⟨_, rfl, hs, hf⟩
    repeat walk_at "m"
    exact hQ

/-! ## symbols -/
structure SyA where
  b : Addr
  e : Addr
  tx : Addr
  an : Addr
  fu : Addr
  fn : Addr
noncomputable def SyA.fields (Y : SyA) : List (Str × V) := [(Str.ofString "texts", .ref Y.tx), (Str.ofString "atom_numbers", .ref Y.an), (Str.ofString "functors", .ref Y.fu), (Str.ofString "functor_numbers", .ref Y.fn)]
structure Sy where
  T : List Str
  M : List (Str × Int)
  F : List Cell
  G : List (List Int × Int)
structure SymAt (Y : SyA) (D : Sy) (σ : Sg) : Prop where
  b : σ Y.b = some (.inst 154 Y.e)
  e : σ Y.e = some (.sdict Y.fields)
  tx : σ Y.tx = some (.list (D.T.map V.str))
  an : σ Y.an = some (.sdict (D.M.map fun p => (p.1, .int p.2)))
  fu : σ Y.fu = some (.list (D.F.map enc))
  fn : σ Y.fn = some (.tdict (D.G.map fun p => (p.1, .int p.2)))
  ne : Y.tx ≠ Y.fu ∧ Y.e ≠ Y.an
theorem SymAt.kp {Y : SyA} {D : Sy} {σ σ' : Sg} (s : SymAt Y D σ) {ex : List Addr} (k : Kp ex σ σ') (h : ∀ a ∈ ex, a ≠ Y.b ∧ a ≠ Y.e ∧ a ≠ Y.tx ∧ a ≠ Y.an ∧ a ≠ Y.fu ∧ a ≠ Y.fn) : SymAt Y D σ' :=
  ⟨k _ _ s.b fun q => (h _ q).1 rfl, k _ _ s.e fun q => (h _ q).2.1 rfl, k _ _ s.tx fun q => (h _ q).2.2.1 rfl, k _ _ s.an fun q => (h _ q).2.2.2.1 rfl, k _ _ s.fu fun q => (h _ q).2.2.2.2.1 rfl, k _ _ s.fn fun q => (h _ q).2.2.2.2.2 rfl, s.ne⟩

theorem c_arity {B : Base} (hB : IsLaw B) {Y : SyA} {D : Sy} {σ : Sg} (sy : SymAt Y D σ) {f : Int} {k : Cell} (h0 : 0 ≤ f) (hk : D.F[f.toNat]? = some k) (hz : D.F.length ≤ 1000) {Q : V → Sg → Prop} (hQ : Q (.int k.2) σ) : Spec B (.ref 123) 1 [.ref Y.b, .int f] σ Q := by
  refine Spec.fn (ok_sym_arity hB) rfl fun A gs L r hL => ?_
  have ok := (ok_sym_arity hB).okc (gs := gs) (L := L) r
  obtain ⟨h1, h2, h3, h4, h5, h6, h7⟩ := sy
  unfold SyA.fields at h2
  refine WSS.cons ?_
  repeat walk_at "m"
  refine WSub.cells (by walk_at "ob") h0 hk (by omega) ?_
  repeat walk_at "m"
  exact hQ

noncomputable def fnOf (H : List Cell) (x : Cell) : Int := if x.1 = 3 then 0 else ((H[x.2.toNat]?).getD (0, 0)).2
noncomputable def ar (F : List Cell) (f : Int) : Int := ((F[f.toNat]?).getD (0, 0)).2
noncomputable def wd (F H : List Cell) (x : Cell) : Int := if x.1 = 3 then 2 else ar F (fnOf H x)
noncomputable def bs (x : Cell) : Int := if x.1 = 3 then x.2 else x.2 + 1
/-- a compound cell that may be looked into -/
structure CmpOK (F H : List Cell) (x : Cell) : Prop where
  c : isCmp x
  p : 0 ≤ x.2
  f : x.1 = 2 → x.2 < H.length ∧ 0 ≤ fnOf H x ∧ fnOf H x < F.length

theorem c_functor_of {B : Base} (hB : IsLaw B) {S : StA} {F H : List Cell} {σ : Sg} (st : StoreAt S (H.map enc) σ) (hz : H.length ≤ 100000) {x : Cell} (hx : CmpOK F H x) {Q : V → Sg → Prop} (hQ : Q (.int (fnOf H x)) σ) : Spec B (.ref 292) 1 [.ref S.a, enc x] σ Q := by
  refine Spec.fn (ok_functor_of hB) rfl fun A gs L r hL => ?_
  have ok := (ok_functor_of hB).okc (gs := gs) (L := L) r
  obtain ⟨h1, h2, h3⟩ := st
  unfold StA.fields at h2
  refine WSS.cons ?_
  repeat walk_at "m"
  refine iteB (fun h => ?_) (fun h => ?_)
  · obtain ⟨a, b, c⟩ := hx.f h
    have hp := hx.p
    have e : H[x.2.toNat]? = some (H[x.2.toNat]'(by omega)) := List.getElem?_eq_getElem (by omega)
    repeat walk_at "m"
    refine WSub.cells (by walk_at "ob") hx.p e (by omega) ?_
    repeat walk_at "m"
    have : fnOf H x = (H[x.2.toNat]'(by omega)).2 := by unfold fnOf; rw [if_neg (by rw [h]; decide), e]; rfl
    rw [← this]; exact hQ
  · have h3 : x.1 = 3 := by rcases hx.c with h' | h'; exact absurd h' h; exact h'
    repeat walk_at "m"
    refine iteB (fun h => ?_) (fun h => absurd h3 h)
    repeat walk_at "m"
    have : fnOf H x = 0 := by unfold fnOf; rw [if_pos h3]
    rw [← this]; exact hQ

theorem c_width {B : Base} (hB : IsLaw B) {S : StA} {Y : SyA} {D : Sy} {H : List Cell} {σ : Sg} (st : StoreAt S (H.map enc) σ) (sy : SymAt Y D σ) (hb : S.b = Y.b) (hz : H.length ≤ 100000) (hz2 : D.F.length ≤ 1000) {x : Cell} (hx : CmpOK D.F H x) {Q : V → Sg → Prop} (hQ : Q (.int (wd D.F H x)) σ) : Spec B (.ref 299) 2 [.ref S.a, enc x] σ Q := by
  refine Spec.fn (ok_width hB) rfl fun A gs L r hL => ?_
  have ok := (ok_width hB).okc (gs := gs) (L := L) r
  obtain ⟨h1, h2, h3⟩ := st
  unfold StA.fields at h2
  have sy0 := sy
  obtain ⟨g1, g2, g3, g4, g5, g6, g7⟩ := sy
  unfold SyA.fields at g2
  rw [hb] at h2
  refine WSS.cons ?_
  repeat walk_at "m"
  refine iteB (fun h => ?_) (fun h => ?_)
  · repeat walk_at "m"
    have : wd D.F H x = 2 := by unfold wd; rw [if_pos h]
    rw [← this]; exact hQ
  · have h2' : x.1 = 2 := by rcases hx.c with h' | h'; exact h'; exact absurd h' h
    obtain ⟨a, b, c⟩ := hx.f h2'
    have hp := hx.p
    have e : H[x.2.toNat]? = some (H[x.2.toNat]'(by omega)) := List.getElem?_eq_getElem (by omega)
    have e1 : fnOf H x = (H[x.2.toNat]'(by omega)).2 := by unfold fnOf; rw [if_neg h, e]; rfl
    have e2 : D.F[(fnOf H x).toNat]? = some (D.F[(fnOf H x).toNat]'(by omega)) := List.getElem?_eq_getElem (by omega)
    have e3 : wd D.F H x = (D.F[(fnOf H x).toNat]'(by omega)).2 := by unfold wd ar; rw [if_neg h, e2]; rfl
    repeat walk_at "m"
    refine iteB (fun _ => ?_) (fun h => absurd h2' h)
    repeat walk_at "m"
    refine WSub.cells (by walk_at "ob") hx.p e (by omega) ?_
    repeat walk_at "m"
    rw [← e1]
    refine WC.spec r (c_arity hB sy0 b e2 hz2 ?_)
    rw [← e3]; exact hQ

noncomputable def blk (f : Int) (H : List Cell) (w : Nat) : List Cell := if f = 0 then H ++ selfs H.length 2 else H ++ [((6 : Int), f)] ++ selfs (H.length + 1) w
noncomputable def mdc (f : Int) (H : List Cell) : Cell := if f = 0 then (3, H.length) else (2, H.length)
theorem selfs_set (H : List Cell) (k : Nat) (x : Cell) : (H ++ selfs H.length (k + 1)).set H.length x = H ++ [x] ++ selfs (H.length + 1) k := by
  have : selfs H.length (k + 1) = (0, (H.length : Int)) :: selfs (H.length + 1) k := by
    simp [selfs, List.range_succ_eq_map, Function.comp_def]
    intro i _; omega
  rw [this]; simp
theorem c_new_block {B : Base} (hB : IsLaw B) {S : StA} {Y : SyA} {D : Sy} {H : List Cell} {σ : Sg} (st : StoreAt S (H.map enc) σ) (sy : SymAt Y D σ) (hb : S.b = Y.b) (hz2 : D.F.length ≤ 1000) {f : Int} (h0 : 0 ≤ f) (hf : f < D.F.length) (ha : 0 ≤ ar D.F f) (hz : H.length + 3 + ar D.F f ≤ 100000)
    {Q : V → Sg → Prop} (hQ : Q (enc (mdc f H)) (upd σ S.h (.list ((blk f H (ar D.F f).toNat).map enc)))) : Spec B (.ref 320) 2 [.ref S.a, .int f] σ Q := by
  refine Spec.fn (ok_new_block hB) rfl fun A gs L r hL => ?_
  have ok := (ok_new_block hB).okc (gs := gs) (L := L) r
  have st0 := st
  obtain ⟨h1, h2, h3⟩ := st
  unfold StA.fields at h2
  have sy0 := sy
  obtain ⟨g1, g2, g3, g4, g5, g6, g7⟩ := sy
  unfold SyA.fields at g2
  rw [hb] at h2
  refine WSS.cons ?_
  repeat walk_at "m"
  refine iteB (fun h => ?_) (fun h => ?_)
  · subst h
    simp only [blk, mdc, if_true] at hQ
    repeat walk_at "m"
    refine WC.spec r (c_reserve hB st0 (by decide) (by omega) ?_)
    repeat walk_at "m"
    exact hQ
  · simp only [blk, mdc, h, if_false] at hQ
    have e2 : D.F[f.toNat]? = some (D.F[f.toNat]'(by omega)) := List.getElem?_eq_getElem (by omega)
    have e3 : ar D.F f = (D.F[f.toNat]'(by omega)).2 := by unfold ar; rw [e2]; rfl
    repeat walk_at "m"
    refine WC.spec r (c_arity hB sy0 h0 e2 hz2 ?_)
    rw [← e3]
    repeat walk_at "m"
    refine WC.spec r (c_reserve hB st0 (by omega) (by omega) ?_)
    repeat walk_at "m"
    refine WSet.list (by walk_at "ob") (by omega) (by omega) (by simp [selfs_length]; omega) ?_
    repeat walk_at "m"
    rw [upd_upd]
    have e4 : (1 + ar D.F f).toNat = (ar D.F f).toNat + 1 := by omega
    have e5 : (((H ++ selfs H.length (1 + ar D.F f).toNat).map enc).set (H.length : Int).toNat (.tup [.int 6, .int f])) = (H ++ [((6 : Int), f)] ++ selfs (H.length + 1) (ar D.F f).toNat).map enc := by
      rw [e4, ← selfs_set, List.map_set]; rfl
    rw [e5]
    exact hQ
theorem StoreAt.kp {S : StA} {H : List V} {σ σ' : Sg} (s : StoreAt S H σ) {ex : List Addr} (k : Kp ex σ σ') (h : ∀ a ∈ ex, a ≠ S.a ∧ a ≠ S.d ∧ a ≠ S.h) : StoreAt S H σ' :=
  ⟨k _ _ s.a fun q => (h _ q).1 rfl, k _ _ s.d fun q => (h _ q).2.1 rfl, k _ _ s.h fun q => (h _ q).2.2 rfl⟩
/-- the store's list is none of the symbols' -/
structure Apart (S : StA) (Y : SyA) : Prop where
  b : S.b = Y.b
  t : S.h ≠ Y.tx
  f : S.h ≠ Y.fu
noncomputable def dgI {K : Type} [DecidableEq K] (l : List (K × Int)) (k : K) : Option Int := (l.find? fun p => decide (p.1 = k)).map (·.2)
noncomputable def dpI {K : Type} [DecidableEq K] (l : List (K × Int)) (k : K) (v : Int) : List (K × Int) :=
  if l.any (fun p => decide (p.1 = k)) then l.map (fun p => if p.1 = k then (p.1, v) else p) else l ++ [(k, v)]
theorem dget_I {K : Type} [DecidableEq K] (l : List (K × Int)) (k : K) : dget (l.map fun p => (p.1, V.int p.2)) k = (dgI l k).map V.int := by
  induction l with
  | nil => rfl
  | cons p l ih =>
    simp only [dget, dgI, List.map_cons, List.find?_cons] at ih ⊢
    by_cases h : p.1 = k
    · simp [h]
    · simp only [h, decide_false]; exact ih
theorem dput_I {K : Type} [DecidableEq K] (l : List (K × Int)) (k : K) (v : Int) : dput (l.map fun p => (p.1, V.int p.2)) k (.int v) = (dpI l k v).map fun p => (p.1, V.int p.2) := by
  unfold dput dpI
  have : (l.map fun p => (p.1, V.int p.2)).any (fun p => decide (p.1 = k)) = l.any (fun p => decide (p.1 = k)) := by
    rw [List.any_map]; rfl
  rw [this]
  split
  · simp only [List.map_map]
    refine List.map_congr_left fun a _ => ?_
    by_cases h : a.1 = k <;> simp [h]
  · simp

noncomputable def atomS (D : Sy) (t : Str) : Int × Sy := if 0 ≤ (dgI D.M t).getD (-1) then ((dgI D.M t).getD (-1), D) else (D.T.length, { D with T := D.T ++ [t], M := dpI D.M t D.T.length })
noncomputable def functorS (D : Sy) (a n : Int) : Int × Sy := if 0 ≤ (dgI D.G [a, n]).getD (-1) then ((dgI D.G [a, n]).getD (-1), D) else (D.F.length, { D with F := D.F ++ [(a, n)], G := dpI D.G [a, n] D.F.length })
noncomputable def funcS (D : Sy) (t : Str) (n : Int) : Int × Sy := functorS (atomS D t).2 (atomS D t).1 n
def Sy.fits (D : Sy) (k : Nat) : Prop := D.T.length ≤ k ∧ D.M.length ≤ k ∧ D.F.length ≤ k ∧ D.G.length ≤ k

theorem c_atom {B : Base} (hB : IsLaw B) {Y : SyA} {D : Sy} {σ : Sg} (sy : SymAt Y D σ) (hz : D.fits 900) (t : Str) {Q : V → Sg → Prop} (hQ : ∀ σ', Kp [Y.tx, Y.an] σ σ' → SymAt Y (atomS D t).2 σ' → Q (.int (atomS D t).1) σ') : Spec B (.ref 88) 1 [.ref Y.b, .str t] σ Q := by
  refine Spec.fn (ok_sym_atom hB) rfl fun A gs L r hL => ?_
  have ok := (ok_sym_atom hB).okc (gs := gs) (L := L) r
  have sy0 := sy
  obtain ⟨h1, h2, h3, h4, h5, h6, h7, h8⟩ := sy
  unfold SyA.fields at h2
  obtain ⟨z1, z2, z3, z4⟩ := hz
  refine WSS.cons ?_
  repeat walk_at "m"
  refine WC.get_sdict (by walk_at "ob") ?_
  rw [dget_I]
  have e : ((dgI D.M t).map V.int).getD (.int (-1)) = .int ((dgI D.M t).getD (-1)) := by cases dgI D.M t <;> rfl
  rw [e]
  unfold atomS at hQ
  repeat walk_at "m"
  refine iteB (fun h => ?_) (fun h => ?_)
  · rw [if_pos h] at hQ
    repeat walk_at "m"
    exact hQ _ (Kp.refl _ _) sy0
  · rw [if_neg h] at hQ
    repeat walk_at "m"
    have ht : (D.T.map V.str).length = D.T.length := by simp
    rw [ht]
    have n1 : Y.an ≠ Y.tx := ne_ob h4 h3 (by nofun)
    refine WSet.sdict (by walk_at "ob") (by simp; omega) ?_
    repeat walk_at "m"
    rw [dput_I]
    refine hQ _ (((Kp.refl _ _).upd (.inl (.head _))).upd (.inl (.tail _ (.head _)))) ⟨by walk_at "ob", ?_, ?_, by walk_at "ob", ?_, by walk_at "ob", h7, h8⟩
    · unfold SyA.fields; walk_at "ob"
    · refine upd_at (Ne.symm n1) ?_
      rw [upd_same]; simp
    · have n2 : Y.fu ≠ Y.tx := Ne.symm h7
      walk_at "ob"

theorem c_functor {B : Base} (hB : IsLaw B) {Y : SyA} {D : Sy} {σ : Sg} (sy : SymAt Y D σ) (hz : D.fits 900) (a n : Int) {Q : V → Sg → Prop} (hQ : ∀ σ', Kp [Y.fu, Y.fn] σ σ' → SymAt Y (functorS D a n).2 σ' → Q (.int (functorS D a n).1) σ') : Spec B (.ref 102) 1 [.ref Y.b, .int a, .int n] σ Q := by
  refine Spec.fn (ok_sym_functor hB) rfl fun A gs L r hL => ?_
  have ok := (ok_sym_functor hB).okc (gs := gs) (L := L) r
  have sy0 := sy
  obtain ⟨h1, h2, h3, h4, h5, h6, h7, h8⟩ := sy
  unfold SyA.fields at h2
  obtain ⟨z1, z2, z3, z4⟩ := hz
  have hu : A.units + 1 < cLine := by have := units_of r; omega
  refine WSS.cons ?_
  repeat walk_at "m"
  refine WC.get_tdict (k := [a, n]) hu (by walk_at "ob") ?_
  rw [dget_I]
  have e : ((dgI D.G [a, n]).map V.int).getD (.int (-1)) = .int ((dgI D.G [a, n]).getD (-1)) := by cases dgI D.G [a, n] <;> rfl
  rw [e]
  unfold functorS at hQ
  repeat walk_at "m"
  refine iteB (fun h => ?_) (fun h => ?_)
  · rw [if_pos h] at hQ
    repeat walk_at "m"
    exact hQ _ (Kp.refl _ _) sy0
  · rw [if_neg h] at hQ
    repeat walk_at "m"
    have ht : (D.F.map enc).length = D.F.length := by simp
    rw [ht]
    have n1 : Y.fn ≠ Y.fu := ne_ob h6 h5 (by nofun)
    refine WSet.tdict (k := [a, n]) hu (by walk_at "ob") (by simp; omega) ?_
    repeat walk_at "m"
    rw [dput_I]
    refine hQ _ (((Kp.refl _ _).upd (.inl (.head _))).upd (.inl (.tail _ (.head _)))) ⟨by walk_at "ob", ?_, ?_, by walk_at "ob", ?_, by walk_at "ob", h7, h8⟩
    · unfold SyA.fields; walk_at "ob"
    · walk_at "ob"
    · refine upd_at (Ne.symm n1) ?_
      rw [upd_same]; simp [enc]

theorem atomS_fits {D : Sy} {k : Nat} (h : D.fits k) (t : Str) : (atomS D t).2.fits (k + 1) := by
  obtain ⟨a, b, c, d⟩ := h
  unfold atomS
  split
  · exact ⟨by dsimp only; omega, by dsimp only; omega, by dsimp only; omega, by dsimp only; omega⟩
  · refine ⟨by simp; omega, ?_, by dsimp only; omega, by dsimp only; omega⟩
    simp only [dpI]; split <;> simp <;> omega
theorem functorS_fits {D : Sy} {k : Nat} (h : D.fits k) (x y : Int) : (functorS D x y).2.fits (k + 1) := by
  obtain ⟨a, b, c, d⟩ := h
  unfold functorS
  split
  · exact ⟨by dsimp only; omega, by dsimp only; omega, by dsimp only; omega, by dsimp only; omega⟩
  · refine ⟨by dsimp only; omega, by dsimp only; omega, by simp; omega, ?_⟩
    simp only [dpI]; split <;> simp <;> omega
theorem Sy.fits.mono {D : Sy} {k m : Nat} (h : D.fits k) (l : k ≤ m) : D.fits m := ⟨by have := h.1; omega, by have := h.2.1; omega, by have := h.2.2.1; omega, by have := h.2.2.2; omega⟩
theorem funcS_fits {D : Sy} {k : Nat} (h : D.fits k) (t : Str) (n : Int) : (funcS D t n).2.fits (k + 2) := functorS_fits (atomS_fits h t) _ _

theorem c_func {B : Base} (hB : IsLaw B) {Y : SyA} {D : Sy} {σ : Sg} (sy : SymAt Y D σ) (hz : D.fits 890) (t : Str) (n : Int) {Q : V → Sg → Prop} (hQ : ∀ σ', Kp [Y.tx, Y.an, Y.fu, Y.fn] σ σ' → SymAt Y (funcS D t n).2 σ' → Q (.int (funcS D t n).1) σ') : Spec B (.ref 109) 2 [.ref Y.b, .str t, .int n] σ Q := by
  refine Spec.fn (ok_sym_func hB) rfl fun A gs L r hL => ?_
  have ok := (ok_sym_func hB).okc (gs := gs) (L := L) r
  have sy0 := sy
  obtain ⟨h1, h2, h3, h4, h5, h6, h7, h8⟩ := sy
  unfold SyA.fields at h2
  refine WSS.cons ?_
  repeat walk_at "m"
  refine WC.spec r (c_atom hB sy0 (hz.mono (by omega)) t fun σ1 k1 s1 => ?_)
  repeat walk_at "m"
  refine WC.spec r (c_functor hB s1 ((atomS_fits hz t).mono (by omega)) _ _ fun σ2 k2 s2 => ?_)
  refine hQ _ ((k1.weak ?_).trans (k2.weak ?_)) s2 <;> simp
noncomputable def atoms0 : List Str := ["[]", ".", "{}", "-", "+", "*", "/", ",", "|", ";", "->", "\\+", ":-", "?-", "-->", "!", "true", "fail", "false", "call", "=", "^", "error", "", "end_of_file", "system", "$VAR", "catch", "throw"].map Str.ofString
noncomputable def functors0 : List (Str × Int) := [(".", 2), (",", 2), (";", 2), ("->", 2), ("\\+", 1), (":-", 2), (":-", 1), ("?-", 1), ("-->", 2), ("{}", 1), ("=", 2), ("^", 2), ("-", 1), ("-", 2), ("+", 2), ("/", 2), ("error", 2), ("$VAR", 1), ("catch", 3), ("throw", 1), ("!", 0), ("true", 0), ("fail", 0), ("false", 0), ("call", 1), ("call", 2), ("call", 3), ("call", 4), ("call", 5), ("call", 6), ("call", 7), ("call", 8)].map fun p => (Str.ofString p.1, (p.2 : Int))
noncomputable def D00 : Sy := atoms0.foldl (fun D t => (atomS D t).2) ⟨[], [], [], []⟩
noncomputable def D0 : Sy := functors0.foldl (fun D p => (funcS D p.1 p.2).2) D00
theorem c_fixed_atoms {B : Base} (hB : IsLaw B) {σ : Sg} {Q : V → Sg → Prop} (hQ : Q (.tup (atoms0.map V.str)) σ) : Spec B (.ref 60) 1 [] σ Q := by
  refine Spec.fn (ok_fixed_atoms hB) rfl fun A gs L r hL => ?_
  have ok := (ok_fixed_atoms hB).okc (gs := gs) (L := L) r
  refine WSS.cons ?_
  repeat walk_at "m"
  exact hQ
theorem c_fixed_functors {B : Base} (hB : IsLaw B) {σ : Sg} {Q : V → Sg → Prop} (hQ : Q (.tup (functors0.map fun p => .tup [.str p.1, .int p.2])) σ) : Spec B (.ref 67) 1 [] σ Q := by
  refine Spec.fn (ok_fixed_functors hB) rfl fun A gs L r hL => ?_
  have ok := (ok_fixed_functors hB).okc (gs := gs) (L := L) r
  refine WSS.cons ?_
  repeat walk_at "m"
  exact hQ
theorem foldl_take {α β : Type} (f : β → α → β) (b : β) (l : List α) (i : Nat) (x : α) (h : l[i]? = some x) : (l.take (i + 1)).foldl f b = f ((l.take i).foldl f b) x := by
  rw [List.take_add_one, h]; simp
theorem fits_atoms (l : List Str) : ∀ (D : Sy) (k : Nat), D.fits k → (l.foldl (fun D t => (atomS D t).2) D).fits (k + l.length) := by
  induction l with
  | nil => intro D k h; exact h
  | cons t l ih => intro D k h; exact (ih _ _ (atomS_fits h t)).mono (by simp; omega)
theorem fits_funcs (l : List (Str × Int)) : ∀ (D : Sy) (k : Nat), D.fits k → (l.foldl (fun D p => (funcS D p.1 p.2).2) D).fits (k + 2 * l.length) := by
  induction l with
  | nil => intro D k h; exact h
  | cons t l ih => intro D k h; exact (ih _ _ (funcS_fits h t.1 t.2)).mono (by simp; omega)

inductive SiA (a d : Addr) (Y : SyA) (σ : Sg) (Df : Nat → Sy) (i : Nat) (ρ : Rho) (σ' : Sg) : Prop
  | mk (r : ρ (Str.ofString "self") = some (.ref a)) (k : Kp [d] σ σ') (s : SymAt Y (Df i) σ')
theorem c_sym_init {B : Base} (hB : IsLaw B) {a d : Addr} {σ : Sg} (h1 : σ a = some (.inst 154 d)) (h2 : σ d = some (.sdict [])) {Q : V → Sg → Prop}
    (hQ : ∀ Y σ', Y.b = a → Y.e = d → σ Y.tx = none → σ Y.an = none → σ Y.fu = none → σ Y.fn = none → Kp [d] σ σ' → SymAt Y D0 σ' → Q .none σ') : Spec B (.ref 81) 3 [.ref a] σ Q := by
  refine Spec.fn (ok_sym_init hB) rfl fun A gs L r hL => ?_
  have ok := (ok_sym_init hB).okc (gs := gs) (L := L) r
  refine WSS.cons ?_
  repeat walk_at "m"
  intro tx e1
  repeat walk_at "m"
  refine WE.sdict fun an f => ?_
  obtain ⟨n2, f⟩ := fr_upd f
  obtain ⟨n1, e2⟩ := fr_upd f
  repeat walk_at "m"
  intro fu f
  obtain ⟨n3, f⟩ := fr_upd f
  obtain ⟨n4, f⟩ := fr_upd f
  obtain ⟨_, f⟩ := fr_upd f
  obtain ⟨n5, e3⟩ := fr_upd f
  repeat walk_at "m"
  refine WE.tdict fun fn f => ?_
  obtain ⟨n6, f⟩ := fr_upd f
  obtain ⟨n7, f⟩ := fr_upd f
  obtain ⟨_, f⟩ := fr_upd f
  obtain ⟨n8, f⟩ := fr_upd f
  obtain ⟨_, f⟩ := fr_upd f
  obtain ⟨n9, e4⟩ := fr_upd f
  repeat walk_at "m"
  have n10 : tx ≠ d := ne_fr e1 h2
  have na : a ≠ d := ne_ob h1 h2 (by nofun)
  have na1 := ne_fr' h1 e1
  have na2 := ne_fr' h1 e2
  have na3 := ne_fr' h1 e3
  have na4 := ne_fr' h1 e4
  refine (?_ : ∀ σ1, Kp [d] σ σ1 → SymAt ⟨a, d, tx, an, fu, fn⟩ ⟨[], [], [], []⟩ σ1 → WS _ _ _ σ1 _) _ ?_ ?_
  rotate_left
  · exact ((((((((Kp.refl _ _).upd (.inr e1)).upd (.inl (.head _))).upd (.inr e2)).upd (.inl (.head _))).upd (.inr e3)).upd (.inl (.head _))).upd (.inr e4)).upd (.inl (.head _))
  · refine ⟨?_, upd_same _ _ _, ?_, ?_, ?_, ?_, ⟨Ne.symm n5, Ne.symm n2⟩⟩ <;> dsimp only [List.map_nil]
    all_goals walk_at "ob"
  intro σ1 k1 sy1
  have hat : (atoms0.map V.str).length = atoms0.length := by simp
  have hfu : (functors0.map fun p => V.tup [.str p.1, .int p.2]).length = functors0.length := by simp
  have hal : atoms0.length = 29 := by decide
  have hfl : functors0.length = 32 := by decide
  have ex : ∀ {l : List Addr}, (∀ x ∈ l, x = tx ∨ x = an ∨ x = fu ∨ x = fn) → ∀ {σ2 σ3 : Sg}, Kp l σ2 σ3 → Kp [d] σ σ2 → Kp [d] σ σ3 := by
    intro l hl σ2 σ3 k' k b o hb hx
    refine k' b o (k b o hb hx) fun q => ?_
    rcases hl b q with rfl | rfl | rfl | rfl
    · rw [e1] at hb; cases hb
    · rw [e2] at hb; cases hb
    · rw [e3] at hb; cases hb
    · rw [e4] at hb; cases hb
  refine WS.forTup ok ?_
  repeat walk_at "m"
  refine WC.specA r (c_fixed_atoms hB ?_)
  refine ⟨_, rfl, SiA a d ⟨a, d, tx, an, fu, fn⟩ σ (fun i => (atoms0.take i).foldl (fun D t => (atomS D t).2) ⟨[], [], [], []⟩), ⟨by walk_at "lk", k1, sy1⟩, ?_, ?_⟩
  · rintro g i v ρ σ2 hi hv ⟨hs, k2, sy2⟩
    rw [hat] at hi
    rw [List.getElem?_map, List.getElem?_eq_getElem hi] at hv
    simp only [Option.map_some, Option.some.injEq] at hv
    subst hv
    have hs1 := sy2.b
    have hs2 := sy2.e
    unfold SyA.fields at hs2
    dsimp only at hs1 hs2
    repeat walk_at "m"
    refine WC.spec r ((c_atom hB sy2 ((fits_atoms (atoms0.take i) _ 0 (by simp [Sy.fits])).mono (by simp; omega)) _ fun σ3 k3 sy3 => ?_).more (by omega))
    repeat walk_at "m"
    refine ⟨by walk_at "lk", ex (by simp) k3 k2, ?_⟩
    rw [foldl_take _ _ _ _ _ (List.getElem?_eq_getElem hi)]
    exact sy3
  · rw [hat]
    rintro ρ σ2 ⟨hs, k2, sy2⟩
    rw [List.take_of_length_le (Nat.le_refl _)] at sy2
    repeat walk_at "m"
    refine WS.forTup ok ?_
    repeat walk_at "m"
    refine WC.specA r (c_fixed_functors hB ?_)
    refine ⟨_, rfl, SiA a d ⟨a, d, tx, an, fu, fn⟩ σ (fun i => (functors0.take i).foldl (fun D p => (funcS D p.1 p.2).2) D00), ⟨by walk_at "lk", k2, sy2⟩, ?_, ?_⟩
    · rintro g i v ρ σ2 hi hv ⟨hs, k2, sy2⟩
      rw [hfu] at hi
      rw [List.getElem?_map, List.getElem?_eq_getElem hi] at hv
      simp only [Option.map_some, Option.some.injEq] at hv
      subst hv
      have hs1 := sy2.b
      have hs2 := sy2.e
      unfold SyA.fields at hs2
      dsimp only at hs1 hs2
      repeat walk_at "m"
      refine WC.spec r ((c_func hB sy2 ((fits_funcs (functors0.take i) _ 29 ((fits_atoms atoms0 _ 0 (by simp [Sy.fits])).mono (by omega))).mono (by simp; omega)) _ _ fun σ3 k3 sy3 => ?_).more (by omega))
      repeat walk_at "m"
      refine ⟨by walk_at "lk", ex (by simp) k3 k2, ?_⟩
      rw [foldl_take _ _ _ _ _ (List.getElem?_eq_getElem hi)]
      exact sy3
    · rw [hfu]
      rintro ρ σ2 ⟨hs, k2, sy2⟩
      rw [List.take_of_length_le (Nat.le_refl _)] at sy2
      repeat walk_at "m"
      exact hQ ⟨a, d, tx, an, fu, fn⟩ _ rfl rfl e1 e2 e3 e4 k2 sy2
noncomputable def D1 : Sy := (funcS D0 (Str.ofString "g") 1).2
noncomputable def D2 : Sy := (funcS D1 (Str.ofString "h") 2).2
theorem d_g0 : (funcS D0 (Str.ofString "g") 1).1 = 32 := by decide +kernel
theorem d_h0 : (funcS D1 (Str.ofString "h") 2).1 = 33 := by decide +kernel
theorem d_len0 : D0.F.length = 32 := by decide +kernel
theorem d_fits0 : D0.fits 100 := by unfold Sy.fits; decide +kernel
theorem d_fits1 : D1.fits 110 := (funcS_fits d_fits0 _ _).mono (by omega)
theorem d_fits2 : D2.fits 120 := (funcS_fits d_fits1 _ _).mono (by omega)
theorem c_Symbols {c : Cx} {ρ : Rho} {σ : Sg} (hB : IsLaw c.B) (r : Room c.A 4) {Q : V → Sg → Prop} (hQ : ∀ Y σ', σ Y.b = none → σ Y.e = none → σ Y.tx = none → σ Y.an = none → σ Y.fu = none → σ Y.fn = none → Kp [] σ σ' → SymAt Y D0 σ' → Q (.ref Y.b) σ') : WC c (.ref 154) [] ρ σ Q := by
  refine WC.cls (fI := 81) r (by rw [hB.k]; kernel_rfl) (by rw [hB.k]; kernel_rfl) (by rw [hB.k]; kernel_rfl) fun a d ha hd hne => ?_
  refine c_sym_init hB (upd_same _ _ _) (upd_at (Ne.symm hne) (upd_same _ _ _)) ?_
  rintro Y σ' rfl rfl f1 f2 f3 f4 k sy
  refine ⟨rfl, hQ Y σ' ha hd (fr_upd (fr_upd f1).2).2 (fr_upd (fr_upd f2).2).2 (fr_upd (fr_upd f3).2).2 (fr_upd (fr_upd f4).2).2 (fun b o hb _ => ?_) sy⟩
  have n1 := ne_fr' hb ha
  have n2 := ne_fr' hb hd
  exact k b o (by rw [upd_ne _ _ n1, upd_ne _ _ n2]; exact hb) (by simpa using n2)

noncomputable def fd_cells_init : { fd : FuncData // ∀ P, ∃ oc od osl, (hd.heap_1 P).lookup 194 = some ⟨oc, od, .func fd, osl⟩ } := ⟨_, fun P => ⟨_, _, _, by k_is⟩⟩
noncomputable def dflt : { o : Obj // ∀ P, (hd.heap_1 P).lookup 187 = some o } := ⟨_, fun P => by k_is⟩
theorem c_cells_init {B : Base} (hB : IsLaw B) {a d b : Addr} {σ : Sg} (h1 : σ a = some (.inst 380 d)) (h2 : σ d = some (.sdict [])) {Q : V → Sg → Prop}
    (hQ : ∀ S σ', S.a = a → S.d = d → S.b = b → σ S.h = none → Kp [d] σ σ' → StoreAt S [] σ' → Q .none σ') : Spec B (.ref 194) 1 [.ref a, .ref b] σ Q := by
  obtain ⟨oc, od, osl, hK⟩ := fd_cells_init.2 B.w.params
  refine Spec.def (fd := fd_cells_init.1) (body := bodyOf fd_cells_init.1) (extra := [.int 100000 441]) (extraV := [.int 100000]) (names := namesOf fd_cells_init.1) (by rw [hB.k]; exact hK) (by rw [hB.k]; dsimp only [fd_cells_init]; k_is) rfl (fun s xs X e => ?_) (fun _ => by simp [Rels, Rel]) ?_ ?_ rfl rfl rfl rfl rfl ?_
  · have ho : s.heap.get? 187 = some dflt.1 := X _ _ (by rw [hB.k]; exact dflt.2 _)
    obtain ⟨x, y, rfl⟩ := list2 e
    exact BindsTo.of_defaults (T := 187) (items := #[.int 100000 441]) (n := 0) rfl ho rfl rfl rfl
  · intro x hx
    exact of_decide_eq_true (List.all_eq_true.mp (show (fd_cells_init.1.scope.names.all fun x => decide (x.2 ≠ .cell)) = true by decide +kernel) x hx)
  · intro x hx
    exact of_decide_eq_true (List.all_eq_true.mp (show ((namesOf fd_cells_init.1).all fun x => decide (fd_cells_init.1.scope.names.lookup x = some .local)) = true by decide +kernel) x hx)
  · intro A gs L r hL
    have ok : Cx.ok ⟨B, A, gs, callEnv fd_cells_init.1 L 194⟩ := r.ok (c := ⟨B, A, gs, callEnv fd_cells_init.1 L 194⟩) rfl rfl rfl
    refine WSS.cons ?_
    repeat walk_at "m"
    intro h f
    obtain ⟨n1, f⟩ := fr_upd f
    obtain ⟨_, f1⟩ := fr_upd f
    clear f
    repeat walk_at "m"
    intro k f
    obtain ⟨_, f⟩ := fr_upd f
    obtain ⟨n2, f⟩ := fr_upd f
    obtain ⟨_, f⟩ := fr_upd f
    obtain ⟨_, f2⟩ := fr_upd f
    clear f
    repeat walk_at "m"
    intro t f
    obtain ⟨_, f⟩ := fr_upd f
    obtain ⟨n3, f⟩ := fr_upd f
    obtain ⟨_, f⟩ := fr_upd f
    obtain ⟨n4, f⟩ := fr_upd f
    obtain ⟨_, f⟩ := fr_upd f
    obtain ⟨_, f3⟩ := fr_upd f
    clear f
    repeat walk_at "m"
    have na : a ≠ d := ne_ob h1 h2 (by nofun)
    have nh := ne_fr' h1 f1
    have nk := ne_fr' h1 f2
    have nt := ne_fr' h1 f3
    have kp : ∀ {σ' : Sg} (o : O), Kp [d] σ σ' → Kp [d] σ (upd σ' d o) := fun o k => k.upd (.inl (.head _))
    refine hQ ⟨a, d, b, h, k, t⟩ _ rfl rfl rfl f1 ?_ ⟨?_, upd_same _ _ _, ?_⟩
    · exact kp _ (kp _ (kp _ (Kp.upd (kp _ (Kp.upd (kp _ (Kp.upd (kp _ (kp _ (Kp.refl _ _))) (.inr f1))) (.inr f2))) (.inr f3))))
    · walk_at "ob"
    · walk_at "ob"
theorem c_Store {c : Cx} {ρ : Rho} {σ : Sg} (hB : IsLaw c.B) (r : Room c.A 2) {b : Addr} {Q : V → Sg → Prop} (hQ : ∀ S σ', S.b = b → σ S.a = none → σ S.d = none → σ S.h = none → Kp [] σ σ' → StoreAt S [] σ' → Q (.ref S.a) σ') : WC c (.ref 380) [.ref b] ρ σ Q := by
  refine WC.cls (fI := 194) r (by rw [hB.k]; kernel_rfl) (by rw [hB.k]; kernel_rfl) (by rw [hB.k]; kernel_rfl) fun a d ha hd hne => ?_
  refine c_cells_init hB (upd_same _ _ _) (upd_at (Ne.symm hne) (upd_same _ _ _)) ?_
  rintro S σ' rfl rfl e f1 k st
  refine ⟨rfl, hQ S σ' e ha hd (fr_upd (fr_upd f1).2).2 (fun b o hb _ => ?_) st⟩
  have n1 := ne_fr' hb ha
  have n2 := ne_fr' hb hd
  exact k b o (by rw [upd_ne _ _ n1, upd_ne _ _ n2]; exact hb) (by simpa using n2)
theorem WSS.cut {c : Cx} {ρ : Rho} {σ : Sg} {st : Stmt} {rest : List Stmt} {Q : QS} (P : Rho → Sg → Prop) (h1 : WS c st ρ σ fun fl ρ' σ' => fl = .next ∧ P ρ' σ') (h2 : ∀ ρ' σ', P ρ' σ' → WSS c rest ρ' σ' Q) : WSS c (st :: rest) ρ σ Q :=
  WSS.cons fun s I => wpAny_mono (h1 s I) (fun _ _ ⟨st, fl, ρ', σ', I', r, e, p⟩ => ⟨st, fl, ρ', σ', I', r, by subst e; exact h2 _ _ p⟩) fun _ _ z => z
structure UrnAt (U l : Addr) (ns : List Int) (σ : Sg) : Prop where
  u : ∃ u k : Int, σ U = some (.list [.int u, .ref l, .int k]) ∧ 0 ≤ k
  li : σ l = some (.list (ns.map V.int))
  ne : U ≠ l
  z : ns.length ≤ 1000
theorem UrnAt.kp {U l : Addr} {ns : List Int} {σ σ' : Sg} (s : UrnAt U l ns σ) {ex : List Addr} (k : Kp ex σ σ') (h : ∀ a ∈ ex, a ≠ U ∧ a ≠ l) : UrnAt U l ns σ' := by
  obtain ⟨u, j, h1, h2⟩ := s.u
  exact ⟨⟨u, j, k _ _ h1 fun q => (h _ q).1 rfl, h2⟩, k _ _ s.li fun q => (h _ q).2 rfl, s.ne, s.z⟩
theorem c_pick {B : Base} (hB : IsLaw B) {U l : Addr} {ns : List Int} {σ : Sg} (un : UrnAt U l ns σ) {f : Int} (h0 : 0 < f) (hf : f.natAbs.log2 < 9000) {Q : V → Sg → Prop}
    (hQ : ∀ r σ', 0 ≤ r → r < f → Kp [U] σ σ' → UrnAt U l ns σ' → Q (.int r) σ') : Spec B (.ref 396) 1 [.ref U, .int f] σ Q := by
  refine Spec.fn (ok_pick hB) rfl fun A gs L r hL => ?_
  have ok := (ok_pick hB).okc (gs := gs) (L := L) r
  obtain ⟨⟨u, k, hu, hk⟩, hl, hne, hz⟩ := un
  have hns : (ns.map V.int).length = ns.length := by simp
  refine WSS.cut (fun ρ σ' => ∃ u k : Int, ρ (Str.ofString "urn") = some (.ref U) ∧ ρ (Str.ofString "faces") = some (.int f) ∧ Kp [U] σ σ' ∧ σ' U = some (.list [.int u, .ref l, .int k]) ∧ 0 ≤ k ∧ σ' l = some (.list (ns.map V.int))) ?_ ?_
  · repeat walk_at "m"
    refine iteB (fun h => ?_) (fun h => ?_)
    · repeat walk_at "m"
      refine iteB (fun h => ?_) (fun h => ?_)
      · have hk' : k.toNat < ns.length := by rw [hns] at h; omega
        have hg : (ns.map V.int)[k.toNat]? = some (.int ns[k.toNat]) := by rw [List.getElem?_map, List.getElem?_eq_getElem hk']; rfl
        repeat walk_at "m"
        refine WSub.list (by walk_at "ob") hk (by omega) hg ?_
        repeat walk_at "m"
        refine ⟨rfl, _, k + 1, by walk_at "lk", by walk_at "lk", ((Kp.refl _ _).upd (.inl (.head _))).upd (.inl (.head _)), upd_same _ _ _, by omega, ?_⟩
        rw [upd_ne _ _ (Ne.symm hne), upd_ne _ _ (Ne.symm hne)]; exact hl
      · repeat walk_at "m"
        exact ⟨rfl, _, _, by walk_at "lk", by walk_at "lk", Kp.refl _ _, hu, hk, hl⟩
    · repeat walk_at "m"
      exact ⟨rfl, _, _, by walk_at "lk", by walk_at "lk", Kp.refl _ _, hu, hk, hl⟩
  · rintro ρ σ' ⟨u, k, hur, hfa, kp, hu, hk, hl⟩
    have hf0 : f ≠ 0 := by omega
    refine WSS.cons ?_
    repeat walk_at "m"
    refine W2.mod hf0 ?_
    repeat walk_at "m"
    refine W2.ifdiv hf0 hf ?_
    repeat walk_at "m"
    exact hQ _ _ (Int.fmod_nonneg_of_pos _ h0) (Int.fmod_lt_of_pos _ h0) (kp.upd (.inl (.head _))) ⟨⟨u.fdiv f, k, upd_same _ _ _, hk⟩, by rw [upd_ne _ _ (Ne.symm hne)]; exact hl, hne, hz⟩
/-! ## the world of a law: urn, store, symbols and what else stands -/
structure WA4 where
  S : StA
  Y : SyA
  U : Addr
  l : Addr
  ns : List Int
noncomputable def WA4.adr (W : WA4) : List Addr := [W.U, W.l, W.S.a, W.S.d, W.S.h, W.Y.b, W.Y.e, W.Y.tx, W.Y.an, W.Y.fu, W.Y.fn]
theorem nin_adr {W : WA4} {a : Addr} : a ∉ W.adr ↔ (a ≠ W.U ∧ a ≠ W.l ∧ a ≠ W.S.a ∧ a ≠ W.S.d ∧ a ≠ W.S.h ∧ a ≠ W.Y.b ∧ a ≠ W.Y.e ∧ a ≠ W.Y.tx ∧ a ≠ W.Y.an ∧ a ≠ W.Y.fu ∧ a ≠ W.Y.fn) := by
  simp only [WA4.adr, List.mem_cons, List.not_mem_nil, or_false, not_or, ne_eq]
structure Wd (W : WA4) (H : List Cell) (D : Sy) (X : List (Addr × O)) (σ : Sg) : Prop where
  un : UrnAt W.U W.l W.ns σ
  st : StoreAt W.S (H.map enc) σ
  sy : SymAt W.Y D σ
  ap : Apart W.S W.Y
  b1 : W.U ≠ W.S.h
  b2 : W.U ≠ W.Y.tx
  b3 : W.U ≠ W.Y.fu
  b4 : W.l ≠ W.S.h
  b5 : W.l ≠ W.Y.tx
  b6 : W.l ≠ W.Y.fu
  b7 : W.S.d ≠ W.Y.an
  xs : ∀ p ∈ X, σ p.1 = some p.2
  nd : (X.map (·.1)).Nodup
  xb : ∀ p ∈ X, p.1 ∉ W.adr
section
variable {W : WA4} {H H' : List Cell} {D D' : Sy} {X : List (Addr × O)} {σ σ' : Sg}
theorem Wd.live (w : Wd W H D X σ) {a : Addr} (h : a ∈ W.adr) : ∃ o, σ a = some o := by
  obtain ⟨u, k, hu, _⟩ := w.un.u
  simp only [WA4.adr, List.mem_cons, List.not_mem_nil, or_false] at h
  rcases h with rfl | rfl | rfl | rfl | rfl | rfl | rfl | rfl | rfl | rfl | rfl
  · exact ⟨_, hu⟩
  · exact ⟨_, w.un.li⟩
  · exact ⟨_, w.st.a⟩
  · exact ⟨_, w.st.d⟩
  · exact ⟨_, w.st.h⟩
  · exact ⟨_, w.sy.b⟩
  · exact ⟨_, w.sy.e⟩
  · exact ⟨_, w.sy.tx⟩
  · exact ⟨_, w.sy.an⟩
  · exact ⟨_, w.sy.fu⟩
  · exact ⟨_, w.sy.fn⟩
theorem Wd.put (w : Wd W H D X σ) {a : Addr} {o : O} (h : σ a = none) : Wd W H D ((a, o) :: X) (upd σ a o) := by
  have ne : ∀ b o', σ b = some o' → b ≠ a := fun b o' hb => ne_fr' hb h
  have kp : Kp [] σ (upd σ a o) := (Kp.refl _ _).upd (.inr h)
  refine ⟨w.un.kp kp (by simp), w.st.kp kp (by simp), w.sy.kp kp (by simp), w.ap, w.b1, w.b2, w.b3, w.b4, w.b5, w.b6, w.b7, fun p hp => ?_, ?_, fun p hp => ?_⟩
  · rcases List.mem_cons.mp hp with rfl | hp
    · exact upd_same _ _ _
    · exact kp _ _ (w.xs p hp) (by simp)
  · simp only [List.map_cons, List.nodup_cons]
    refine ⟨fun q => ?_, w.nd⟩
    obtain ⟨p, hp, e⟩ := List.mem_map.mp q
    exact ne _ _ (w.xs p hp) e
  · rcases List.mem_cons.mp hp with rfl | hp
    · intro q; obtain ⟨o', ho⟩ := w.live q; exact ne _ _ ho rfl
    · exact w.xb p hp
theorem Wd.kp0 (w : Wd W H D X σ) (k : Kp [] σ σ') : Wd W H D X σ' :=
  ⟨w.un.kp k (by simp), w.st.kp k (by simp), w.sy.kp k (by simp), w.ap, w.b1, w.b2, w.b3, w.b4, w.b5, w.b6, w.b7, fun p hp => k _ _ (w.xs p hp) (by simp), w.nd, w.xb⟩
/-- one of the others changed -/
theorem Wd.setK {X1 X2 : List (Addr × O)} {a : Addr} {o o' : O} (w : Wd W H D (X1 ++ (a, o) :: X2) σ) (k : Kp [a] σ σ') (h : σ' a = some o') : Wd W H D (X1 ++ (a, o') :: X2) σ' := by
  have hx := nin_adr.mp (w.xb (a, o) (List.mem_append_right _ (.head _)))
  obtain ⟨x1, x2, x3, x4, x5, x6, x7, x8, x9, x10, x11⟩ := hx
  have nd := w.nd
  rw [List.map_append, List.map_cons, List.nodup_append] at nd
  simp only [List.nodup_cons] at nd
  refine ⟨w.un.kp k (by simp; exact ⟨x1, x2⟩), w.st.kp k (by simp; exact ⟨x3, x4, x5⟩), w.sy.kp k (by simp; exact ⟨x6, x7, x8, x9, x10, x11⟩), w.ap, w.b1, w.b2, w.b3, w.b4, w.b5, w.b6, w.b7, fun p hp => ?_, by simpa using w.nd, fun p hp => ?_⟩
  · rcases List.mem_append.mp hp with h1 | h1
    · refine k _ _ (w.xs p (by simp [h1])) ?_
      simp only [List.mem_singleton]
      intro e
      exact nd.2.2 p.1 (List.mem_map_of_mem h1) a (.head _) e
    · rcases List.mem_cons.mp h1 with rfl | h1
      · exact h
      · refine k _ _ (w.xs p (by simp [h1])) ?_
        simp only [List.mem_singleton]
        intro e
        exact nd.2.1.1 (e ▸ List.mem_map_of_mem h1)
  · rcases List.mem_append.mp hp with h1 | h1
    · exact w.xb p (by simp [h1])
    · rcases List.mem_cons.mp h1 with rfl | h1
      · exact w.xb (a, o) (by simp)
      · exact w.xb p (by simp [h1])
theorem Wd.set {X1 X2 : List (Addr × O)} {a : Addr} {o o' : O} (w : Wd W H D (X1 ++ (a, o) :: X2) σ) : Wd W H D (X1 ++ (a, o') :: X2) (upd σ a o') := w.setK ((Kp.refl _ _).upd (.inl (.head _))) (upd_same _ _ _)
theorem Wd.sub {X' : List (Addr × O)} (w : Wd W H D X σ) (h : X'.Sublist X) : Wd W H D X' σ :=
  ⟨w.un, w.st, w.sy, w.ap, w.b1, w.b2, w.b3, w.b4, w.b5, w.b6, w.b7, fun p hp => w.xs p (h.subset hp), (h.map _).nodup w.nd, fun p hp => w.xb p (h.subset hp)⟩
theorem Wd.perm {X' : List (Addr × O)} (w : Wd W H D X σ) (h : X.Perm X') : Wd W H D X' σ :=
  ⟨w.un, w.st, w.sy, w.ap, w.b1, w.b2, w.b3, w.b4, w.b5, w.b6, w.b7, fun p hp => w.xs p (h.symm.subset hp), (h.map _).nodup_iff.mp w.nd, fun p hp => w.xb p (h.symm.subset hp)⟩
theorem Wd.pick (w : Wd W H D X σ) (k : Kp [W.U] σ σ') (u : UrnAt W.U W.l W.ns σ') : Wd W H D X σ' := by
  obtain ⟨u', k', hu, _⟩ := w.un.u
  refine ⟨u, w.st.kp k ?_, w.sy.kp k ?_, w.ap, w.b1, w.b2, w.b3, w.b4, w.b5, w.b6, w.b7, fun p hp => k _ _ (w.xs p hp) ?_, w.nd, w.xb⟩
  · simp only [List.mem_singleton, forall_eq]
    exact ⟨ne_ob hu w.st.a (by nofun), ne_ob hu w.st.d (by nofun), w.b1⟩
  · simp only [List.mem_singleton, forall_eq]
    exact ⟨ne_ob hu w.sy.b (by nofun), ne_ob hu w.sy.e (by nofun), w.b2, ne_ob hu w.sy.an (by nofun), w.b3, ne_ob hu w.sy.fn (by nofun)⟩
  · have := nin_adr.mp (w.xb p hp)
    exact fun e => this.1 (List.mem_singleton.mp e)
theorem Wd.heap (w : Wd W H D X σ) (k : Kp [W.S.h] σ σ') (h : σ' W.S.h = some (.list (H'.map enc))) : Wd W H' D X σ' := by
  obtain ⟨u', k', hu, _⟩ := w.un.u
  refine ⟨w.un.kp k (by simp only [List.mem_singleton, forall_eq]; exact ⟨Ne.symm w.b1, Ne.symm w.b4⟩), ⟨k _ _ w.st.a ?_, k _ _ w.st.d ?_, h⟩, w.sy.kp k ?_, w.ap, w.b1, w.b2, w.b3, w.b4, w.b5, w.b6, w.b7, fun p hp => k _ _ (w.xs p hp) ?_, w.nd, w.xb⟩
  · simpa using ne_ob w.st.a w.st.h (by nofun)
  · simpa using ne_ob w.st.d w.st.h (by nofun)
  · simp only [List.mem_singleton, forall_eq]
    exact ⟨ne_ob w.st.h w.sy.b (by nofun), ne_ob w.st.h w.sy.e (by nofun), w.ap.t, ne_ob w.st.h w.sy.an (by nofun), w.ap.f, ne_ob w.st.h w.sy.fn (by nofun)⟩
  · have := nin_adr.mp (w.xb p hp)
    exact fun e => this.2.2.2.2.1 (List.mem_singleton.mp e)
theorem Wd.sym (w : Wd W H D X σ) (k : Kp [W.Y.tx, W.Y.an, W.Y.fu, W.Y.fn] σ σ') (h : SymAt W.Y D' σ') : Wd W H D' X σ' := by
  obtain ⟨u', k', hu, _⟩ := w.un.u
  have a1 := w.st.a; have a2 := w.st.d; have a3 := w.st.h; have c1 := w.sy.tx; have c2 := w.sy.an; have c3 := w.sy.fu; have c4 := w.sy.fn; have li := w.un.li
  refine ⟨w.un.kp k ?_, w.st.kp k ?_, h, w.ap, w.b1, w.b2, w.b3, w.b4, w.b5, w.b6, w.b7, fun p hp => k _ _ (w.xs p hp) ?_, w.nd, w.xb⟩
  · simp only [List.mem_cons, List.not_mem_nil, or_false, forall_eq_or_imp, forall_eq]
    exact ⟨⟨Ne.symm w.b2, Ne.symm w.b5⟩, ⟨ne_ob c2 hu (by nofun), ne_ob c2 li (by nofun)⟩, ⟨Ne.symm w.b3, Ne.symm w.b6⟩, ne_ob c4 hu (by nofun), ne_ob c4 li (by nofun)⟩
  · simp only [List.mem_cons, List.not_mem_nil, or_false, forall_eq_or_imp, forall_eq]
    exact ⟨⟨ne_ob c1 a1 (by nofun), ne_ob c1 a2 (by nofun), Ne.symm w.ap.t⟩, ⟨ne_ob c2 a1 (by nofun), Ne.symm w.b7, ne_ob c2 a3 (by nofun)⟩, ⟨ne_ob c3 a1 (by nofun), ne_ob c3 a2 (by nofun), Ne.symm w.ap.f⟩, ne_ob c4 a1 (by nofun), ne_ob c4 a2 (by nofun), ne_ob c4 a3 (by nofun)⟩
  · have := nin_adr.mp (w.xb p hp)
    simp only [List.mem_cons, List.not_mem_nil, or_false, not_or]
    exact ⟨this.2.2.2.2.2.2.2.1, this.2.2.2.2.2.2.2.2.1, this.2.2.2.2.2.2.2.2.2.1, this.2.2.2.2.2.2.2.2.2.2⟩
theorem Wd.tl {x : Addr × O} (w : Wd W H D (x :: X) σ) : Wd W H D X σ := w.sub (List.sublist_cons_self _ _)
theorem Wd.x0 {a : Addr} {o : O} (w : Wd W H D ((a, o) :: X) σ) : σ a = some o := w.xs (a, o) (.head _)
theorem Wd.x1 {x : Addr × O} {a : Addr} {o : O} (w : Wd W H D (x :: (a, o) :: X) σ) : σ a = some o := w.tl.x0
theorem Wd.x2 {x y : Addr × O} {a : Addr} {o : O} (w : Wd W H D (x :: y :: (a, o) :: X) σ) : σ a = some o := w.tl.x1
theorem Wd.x3 {x y z : Addr × O} {a : Addr} {o : O} (w : Wd W H D (x :: y :: z :: (a, o) :: X) σ) : σ a = some o := w.tl.x2
theorem Wd.x4 {x y z t : Addr × O} {a : Addr} {o : O} (w : Wd W H D (x :: y :: z :: t :: (a, o) :: X) σ) : σ a = some o := w.tl.x3
theorem Wd.x5 {x y z t u : Addr × O} {a : Addr} {o : O} (w : Wd W H D (x :: y :: z :: t :: u :: (a, o) :: X) σ) : σ a = some o := w.tl.x4
theorem Wd.x6 {x y z t u v : Addr × O} {a : Addr} {o : O} (w : Wd W H D (x :: y :: z :: t :: u :: v :: (a, o) :: X) σ) : σ a = some o := w.tl.x5
theorem Wd.set0 {a : Addr} {o o' : O} (w : Wd W H D ((a, o) :: X) σ) : Wd W H D ((a, o') :: X) (upd σ a o') := Wd.set (X1 := []) w
theorem Wd.set1 {x : Addr × O} {a : Addr} {o o' : O} (w : Wd W H D (x :: (a, o) :: X) σ) : Wd W H D (x :: (a, o') :: X) (upd σ a o') := Wd.set (X1 := [x]) w
theorem Wd.set2 {x y : Addr × O} {a : Addr} {o o' : O} (w : Wd W H D (x :: y :: (a, o) :: X) σ) : Wd W H D (x :: y :: (a, o') :: X) (upd σ a o') := Wd.set (X1 := [x, y]) w
theorem Wd.set3 {x y z : Addr × O} {a : Addr} {o o' : O} (w : Wd W H D (x :: y :: z :: (a, o) :: X) σ) : Wd W H D (x :: y :: z :: (a, o') :: X) (upd σ a o') := Wd.set (X1 := [x, y, z]) w
theorem Wd.set4 {x y z t : Addr × O} {a : Addr} {o o' : O} (w : Wd W H D (x :: y :: z :: t :: (a, o) :: X) σ) : Wd W H D (x :: y :: z :: t :: (a, o') :: X) (upd σ a o') := Wd.set (X1 := [x, y, z, t]) w
end

/-! ## cells that may be walked -/
structure COK (F H : List Cell) (x : Cell) : Prop where
  tag : x.1 = 0 ∨ x.1 = 2 ∨ x.1 = 3 ∨ x.1 = 4 ∨ x.1 = 5
  ref : x.1 = 0 → 0 ≤ x.2 ∧ ∃ c, H[x.2.toNat]? = some c ∧ c.1 ≠ 6
  cmp : isCmp x → CmpOK F H x
  fn : x.1 = 2 → ∃ f, H[x.2.toNat]? = some (6, f) ∧ f ≠ 0
  wdt : isCmp x → wd F H x = 1 ∨ wd F H x = 2
  arg : isCmp x → ∀ i : Nat, i < (wd F H x).toNat → ∃ c, H[(bs x).toNat + i]? = some c ∧ c.1 ≠ 6
/-- the heap changed, but no functor cell, and no cell became one -/
structure Ch (H H' : List Cell) : Prop where
  len : H.length ≤ H'.length
  fn : ∀ (p : Nat) (f : Int), H[p]? = some (6, f) → H'[p]? = some (6, f)
  oth : ∀ (p : Nat) (c : Cell), H[p]? = some c → c.1 ≠ 6 → ∃ c', H'[p]? = some c' ∧ c'.1 ≠ 6
local macro_rules | `(tactic| walk_at "wd") => `(tactic| (have h₁ := (Wd.st (by assumption)).a; have h₂ := (Wd.st (by assumption)).d; have h₃ := (Wd.st (by assumption)).h; have h₄ := (Wd.sy (by assumption)).b; have h₅ := (Wd.sy (by assumption)).e; unfold StA.fields at h₂; unfold SyA.fields at h₅; (try have k₀ := Wd.x0 (by assumption)); (try have k₁ := Wd.x1 (by assumption)); (try have k₂ := Wd.x2 (by assumption)); (try have k₃ := Wd.x3 (by assumption)); (try have k₄ := Wd.x4 (by assumption)); (try have k₅ := Wd.x5 (by assumption)); (try have k₆ := Wd.x6 (by assumption))))
/-! ## terms, and how they are laid -/
inductive Tr where
  | var (k : Int)
  | atom (n : Int)
  | num (n : Int)
  | s1 (f : Int) (a : Tr)
  | s2 (f : Int) (a b : Tr)
namespace Tr
noncomputable def enc : Tr → V
  | .var k => .tup [.str (Str.ofString "v"), .int k]
  | .atom n => .tup [.str (Str.ofString "a"), .int n]
  | .num n => .tup [.str (Str.ofString "i"), .int n]
  | .s1 f a => .tup [.str (Str.ofString "s"), .int f, .tup [a.enc]]
  | .s2 f a b => .tup [.str (Str.ofString "s"), .int f, .tup [a.enc, b.enc]]
noncomputable def kids : Tr → Option (Int × List Tr)
  | .s1 f a => some (f, [a])
  | .s2 f a b => some (f, [a, b])
  | _ => none
noncomputable def size : Tr → Nat
  | .s1 _ a => a.size + 1
  | .s2 _ a b => a.size + b.size + 1
  | _ => 1
def okF (F : List Cell) : Tr → Prop
  | .s1 f a => 0 < f ∧ f < F.length ∧ ar F f = 1 ∧ a.okF F
  | .s2 f a b => 0 ≤ f ∧ f < F.length ∧ ar F f = 2 ∧ a.okF F ∧ b.okF F
  | _ => True
noncomputable def vars : Tr → List Int
  | .var k => [k]
  | .s1 _ a => a.vars
  | .s2 _ a b => a.vars ++ b.vars
  | _ => []
noncomputable def map (φ : Int → Int) : Tr → Tr
  | .var k => .var (φ k)
  | .atom n => .atom n
  | .num n => .num n
  | .s1 f a => .s1 f (a.map φ)
  | .s2 f a b => .s2 f (a.map φ) (b.map φ)
noncomputable def bind (θ : Int → Tr) : Tr → Tr
  | .var k => θ k
  | .atom n => .atom n
  | .num n => .num n
  | .s1 f a => .s1 f (a.bind θ)
  | .s2 f a b => .s2 f (a.bind θ) (b.bind θ)
end Tr
noncomputable def lkC (T : List (Int × Cell)) (k : Int) : Option Cell := (T.find? fun p => decide (p.1 = k)).map (·.2)
theorem dget_C (T : List (Int × Cell)) (k : Int) : dget (T.map fun p => (p.1, enc p.2)) k = (lkC T k).map enc := by
  induction T with
  | nil => rfl
  | cons p l ih =>
    simp only [dget, lkC, List.map_cons, List.find?_cons] at ih ⊢
    by_cases h : p.1 = k
    · simp [h]
    · simp only [h, decide_false]; exact ih
theorem lkC_mem {T : List (Int × Cell)} {k : Int} {z : Cell} (h : lkC T k = some z) : (k, z) ∈ T := by
  unfold lkC at h
  cases hf : T.find? (fun p => decide (p.1 = k)) with
  | none => rw [hf] at h; cases h
  | some q =>
    rw [hf] at h
    simp only [Option.map_some, Option.some.injEq] at h
    have h1 := List.mem_of_find?_eq_some hf
    have h2 : q.1 = k := by simpa using List.find?_some hf
    have : q = (k, z) := Prod.ext h2 h
    rw [← this]; exact h1
theorem lkC_none {T : List (Int × Cell)} {k : Int} (h : lkC T k = none) : k ∉ T.map (·.1) := by
  unfold lkC at h
  intro hk
  obtain ⟨p, hp, e⟩ := List.mem_map.mp hk
  rw [Option.map_eq_none_iff, List.find?_eq_none] at h
  exact h p hp (by simpa using e)
theorem lkC_app (T T' : List (Int × Cell)) (k : Int) : lkC (T ++ T') k = (lkC T k).or (lkC T' k) := by
  unfold lkC
  rw [List.find?_append]
  cases T.find? (fun p => decide (p.1 = k)) <;> simp
theorem lkC_app_l {T T' : List (Int × Cell)} {k : Int} {z : Cell} (h : lkC T k = some z) : lkC (T ++ T') k = some z := by rw [lkC_app, h]; rfl
theorem dput_C {T : List (Int × Cell)} {k : Int} (h : lkC T k = none) (z : Cell) : dput (T.map fun p => (p.1, enc p.2)) k (enc z) = (T ++ [(k, z)]).map fun p => (p.1, enc p.2) := by
  unfold dput
  have hk := lkC_none h
  have : (T.map fun p => (p.1, enc p.2)).any (fun p => decide (p.1 = k)) = false := by
    rw [List.any_eq_false]
    intro p hp
    obtain ⟨q, hq, rfl⟩ := List.mem_map.mp hp
    simp only [decide_eq_true_eq]
    rintro rfl
    exact hk (List.mem_map_of_mem hq)
  rw [this]; simp

noncomputable def encP (p : Int × Cell) : Int × V := (p.1, enc p.2)
theorem dget_P (T : List (Int × Cell)) (k : Int) : dget (T.map encP) k = (lkC T k).map enc := dget_C T k
theorem dput_P {T : List (Int × Cell)} {k : Int} (h : lkC T k = none) (z : Cell) : dput (T.map encP) k (enc z) = (T ++ [(k, z)]).map encP := dput_C h z
noncomputable def hdf (f : Int) : Nat := if f = 0 then 0 else 1
noncomputable def cellOf (f : Int) (s : Nat) : Cell := if f = 0 then (3, (s : Int)) else (2, (s : Int))
noncomputable def blkN (s : Nat) (f : Int) (w : Nat) : List Cell := (if f = 0 then [] else [((6 : Int), f)]) ++ selfs (s + hdf f) w
noncomputable def places : Nat → List Tr → List (Nat × Tr)
  | _, [] => []
  | b, a :: as => (b, a) :: places (b + 1) as
inductive LayQ (L : Nat) : List Cell → List (Int × Cell) → List (Nat × Tr) → List Cell → List (Int × Cell) → Prop
  | nil {N : List Cell} {T : List (Int × Cell)} : LayQ L N T [] N T
  | old {N N' : List Cell} {T T' : List (Int × Cell)} {Q : List (Nat × Tr)} {p : Nat} {k : Int} {z : Cell} : lkC T k = some z → LayQ L (N.set (p - L) z) T Q N' T' → LayQ L N T ((p, .var k) :: Q) N' T'
  | new {N N' : List Cell} {T T' : List (Int × Cell)} {Q : List (Nat × Tr)} {p : Nat} {k : Int} : lkC T k = none → LayQ L N (T ++ [(k, (0, (p : Int)))]) Q N' T' → LayQ L N T ((p, .var k) :: Q) N' T'
  | atom {N N' : List Cell} {T T' : List (Int × Cell)} {Q : List (Nat × Tr)} {p : Nat} {n : Int} : LayQ L (N.set (p - L) (4, n)) T Q N' T' → LayQ L N T ((p, .atom n) :: Q) N' T'
  | num {N N' : List Cell} {T T' : List (Int × Cell)} {Q : List (Nat × Tr)} {p : Nat} {n : Int} : LayQ L (N.set (p - L) (5, n)) T Q N' T' → LayQ L N T ((p, .num n) :: Q) N' T'
  | str {N N' : List Cell} {T T' : List (Int × Cell)} {Q : List (Nat × Tr)} {p : Nat} {t : Tr} {f : Int} {as : List Tr} : t.kids = some (f, as) →
      LayQ L ((N ++ blkN (L + N.length) f as.length).set (p - L) (cellOf f (L + N.length))) T (Q ++ places (L + N.length + hdf f) as) N' T' → LayQ L N T ((p, t) :: Q) N' T'
inductive PutT (L : Nat) (T : List (Int × Cell)) : Tr → Cell → List Cell → List (Int × Cell) → Prop
  | old {k : Int} {z : Cell} : lkC T k = some z → PutT L T (.var k) z [] T
  | new {k : Int} : lkC T k = none → PutT L T (.var k) (0, (L : Int)) [(0, (L : Int))] (T ++ [(k, (0, (L : Int)))])
  | atom {n : Int} : PutT L T (.atom n) (4, n) [] T
  | num {n : Int} : PutT L T (.num n) (5, n) [] T
  | str {t : Tr} {f : Int} {as : List Tr} {N' : List Cell} {T' : List (Int × Cell)} : t.kids = some (f, as) → LayQ L (blkN L f as.length) T (places (L + hdf f) as) N' T' → PutT L T t (cellOf f L) N' T'
noncomputable def mapT (φ : Int → Int) (T : List (Int × Cell)) : List (Int × Cell) := T.map fun p => (φ p.1, p.2)
theorem lkC_map {φ : Int → Int} {S : Int → Prop} (inj : ∀ a b, S a → S b → φ a = φ b → a = b) {T : List (Int × Cell)} (hT : ∀ p ∈ T, S p.1) {k : Int} (hk : S k) : lkC (mapT φ T) (φ k) = lkC T k := by
  induction T with
  | nil => rfl
  | cons p T ih =>
    have ih := ih fun q hq => hT q (.tail _ hq)
    unfold mapT lkC at ih ⊢
    simp only [List.map_cons, List.find?_cons]
    by_cases h : p.1 = k
    · simp [h]
    · have : φ p.1 ≠ φ k := fun e => h (inj _ _ (hT p (.head _)) hk e)
      simp only [h, this, decide_false]
      exact ih
theorem kids_map (φ : Int → Int) (t : Tr) : (t.map φ).kids = t.kids.map fun q => (q.1, q.2.map (Tr.map φ)) := by
  cases t <;> rfl
theorem places_map (φ : Int → Int) : ∀ (b : Nat) (as : List Tr), (places b as).map (fun q => (q.1, q.2.map φ)) = places b (as.map (Tr.map φ))
  | _, [] => rfl
  | b, a :: as => by simp [places, places_map φ (b + 1) as]
theorem places_mem : ∀ {b : Nat} {as : List Tr} {q : Nat × Tr}, q ∈ places b as → q.2 ∈ as
  | _, [], _, h => nomatch h
  | b, a :: as, q, h => by
    simp only [places] at h
    rcases List.mem_cons.mp h with rfl | h
    · exact .head _
    · exact .tail _ (places_mem h)
theorem kids_vars {t : Tr} {f : Int} {as : List Tr} (h : t.kids = some (f, as)) : ∀ a ∈ as, ∀ v ∈ a.vars, v ∈ t.vars := by
  cases t with
  | s1 g a => simp only [Tr.kids, Option.some.injEq, Prod.mk.injEq] at h; obtain ⟨_, rfl⟩ := h; intro b hb v hv; simp at hb; subst hb; exact hv
  | s2 g a b =>
    simp only [Tr.kids, Option.some.injEq, Prod.mk.injEq] at h; obtain ⟨_, rfl⟩ := h
    intro c hc v hv
    simp only [List.mem_cons, List.not_mem_nil, or_false] at hc
    rcases hc with rfl | rfl
    · exact List.mem_append_left _ hv
    · exact List.mem_append_right _ hv
  | _ => cases h
theorem LayQ.map {φ : Int → Int} {S : Int → Prop} (inj : ∀ a b, S a → S b → φ a = φ b → a = b) {L : Nat} {N N' : List Cell} {T T' : List (Int × Cell)} {Q : List (Nat × Tr)} (a : LayQ L N T Q N' T') : (∀ p ∈ T, S p.1) → (∀ q ∈ Q, ∀ v ∈ q.2.vars, S v) →
    LayQ L N (mapT φ T) (Q.map fun q => (q.1, q.2.map φ)) N' (mapT φ T') ∧ ∀ p ∈ T', S p.1 := by
  induction a with
  | nil => exact fun hT _ => ⟨.nil, hT⟩
  | @old N N' T T' Q p k z h _ ih =>
    intro hT hQ
    have hk : S k := hQ _ (.head _) k (.head _)
    obtain ⟨x, y⟩ := ih hT fun q hq => hQ q (.tail _ hq)
    exact ⟨.old (by rw [lkC_map inj hT hk]; exact h) x, y⟩
  | @new N N' T T' Q p k h _ ih =>
    intro hT hQ
    have hk : S k := hQ _ (.head _) k (.head _)
    obtain ⟨x, y⟩ := ih (fun q hq => by
      rcases List.mem_append.mp hq with hq | hq
      · exact hT q hq
      · simp at hq; subst hq; exact hk) fun q hq => hQ q (.tail _ hq)
    refine ⟨.new (by rw [lkC_map inj hT hk]; exact h) ?_, y⟩
    have e : mapT φ (T ++ [(k, (0, (p : Int)))]) = mapT φ T ++ [(φ k, (0, (p : Int)))] := by simp [mapT]
    rw [← e]; exact x
  | atom _ ih =>
    intro hT hQ
    obtain ⟨x, y⟩ := ih hT fun q hq => hQ q (.tail _ hq)
    exact ⟨.atom x, y⟩
  | num _ ih =>
    intro hT hQ
    obtain ⟨x, y⟩ := ih hT fun q hq => hQ q (.tail _ hq)
    exact ⟨.num x, y⟩
  | @str N N' T T' Q p t f as h _ ih =>
    intro hT hQ
    obtain ⟨x, y⟩ := ih hT fun q hq => by
      rcases List.mem_append.mp hq with hq | hq
      · exact hQ q (.tail _ hq)
      · exact fun v hv => hQ _ (.head _) v (kids_vars h _ (places_mem hq) v hv)
    refine ⟨.str (f := f) (as := as.map (Tr.map φ)) (by rw [kids_map, h]; rfl) ?_, y⟩
    rw [List.length_map, ← places_map, ← List.map_append]
    exact x
theorem PutT.map {φ : Int → Int} {S : Int → Prop} (inj : ∀ a b, S a → S b → φ a = φ b → a = b) {L : Nat} {T T' : List (Int × Cell)} {t : Tr} {y : Cell} {N' : List Cell} (a : PutT L T t y N' T') (hT : ∀ p ∈ T, S p.1) (ht : ∀ v ∈ t.vars, S v) :
    PutT L (mapT φ T) (t.map φ) y N' (mapT φ T') ∧ ∀ p ∈ T', S p.1 := by
  cases a with
  | old h => exact ⟨.old (by rw [lkC_map inj hT (ht _ (.head _))]; exact h), hT⟩
  | @new k h =>
    refine ⟨?_, fun q hq => ?_⟩
    · have e : mapT φ (T ++ [(k, (0, (L : Int)))]) = mapT φ T ++ [(φ k, (0, (L : Int)))] := by simp [mapT]
      rw [e]
      exact .new (by rw [lkC_map inj hT (ht _ (.head _))]; exact h)
    · rcases List.mem_append.mp hq with hq | hq
      · exact hT q hq
      · simp at hq; subst hq; exact ht _ (.head _)
  | atom => exact ⟨.atom, hT⟩
  | num => exact ⟨.num, hT⟩
  | @str _ f as _ _ h l =>
    obtain ⟨x, y⟩ := l.map inj hT fun q hq v hv => ht v (kids_vars h _ (places_mem hq) v hv)
    refine ⟨.str (f := f) (as := as.map (Tr.map φ)) (by rw [kids_map, h]; rfl) ?_, y⟩
    rw [List.length_map, ← places_map]
    exact x
/-! ## put_term -/
noncomputable def qsz (Q : List (Nat × Tr)) : Nat := (Q.map fun q => q.2.size).sum
noncomputable def flat (E : List (Nat × List Tr)) : List (Nat × Tr) := E.flatMap fun e => places e.1 e.2
noncomputable def msr (E : List (Nat × List Tr)) : Nat := (E.map fun e => 1 + (e.2.map Tr.size).sum).sum
noncomputable def encE (e : Nat × List Tr) : V := .tup [.int e.1, .tup (e.2.map Tr.enc)]
theorem qsz_places : ∀ (as : List Tr) (b : Nat), qsz (places b as) = (as.map Tr.size).sum
  | [], _ => rfl
  | a :: as, b => by simp only [places, qsz, List.map_cons, List.sum_cons]; have := qsz_places as (b + 1); unfold qsz at this; rw [this]
theorem qsz_app (Q R : List (Nat × Tr)) : qsz (Q ++ R) = qsz Q + qsz R := by simp [qsz]
/-! ## bounds -/
theorem qsz_cons (q : Nat × Tr) (Q : List (Nat × Tr)) : qsz (q :: Q) = q.2.size + qsz Q := by simp [qsz]
theorem ar_mil {a b : Nat} (h : a + b ≤ 1000) : a ≤ 1000000 := Nat.le_trans (Nat.le_trans (Nat.le_add_right _ _) h) (by decide)
theorem ar_mil2 {a b c : Nat} (h : a + 1 ≤ c) (h2 : b + c ≤ 1000) : a ≤ 1000000 := by lia
theorem ar_hun {a : Nat} (h : a ≤ 10000) : a ≤ 100000 := Nat.le_trans h (by decide)
theorem ar_hm {a : Nat} (h : a ≤ 100000) : a ≤ 1000000 := Nat.le_trans h (by decide)
theorem ar_hn {h n q : Nat} (h1 : h ≤ 10000) (h2 : n + 3 * q ≤ 1000) : h + n ≤ 100000 := by lia
theorem ar_hn2 {h n q : Nat} (h1 : h ≤ 10000) (h2 : n + 3 * q ≤ 1000) : h + n ≤ 20000 := by lia
theorem ar_pi (b i : Nat) : (b : Int) + (0 + (i : Int) * 1) = ((b + i : Nat) : Int) := by rw [Int.zero_add, Int.mul_one]; rfl
theorem ar_p0 (b i : Nat) : (0 : Int) ≤ (b : Int) + (0 + (i : Int) * 1) := by rw [ar_pi]; exact Int.natCast_nonneg _
theorem ar_p63' {p h n q : Nat} (h1 : h ≤ 10000) (h2 : n + 3 * q ≤ 1000) (h3 : p < h + n) : (p : Int) < 2 ^ 63 := by lia
theorem ar_p63 {b i h n q : Nat} (h1 : h ≤ 10000) (h2 : n + 3 * q ≤ 1000) (h3 : b + i < h + n) : (b : Int) + (0 + (i : Int) * 1) < 2 ^ 63 := by rw [ar_pi]; exact ar_p63' h1 h2 h3
theorem ar_plt {b i h n : Nat} (h3 : b + i < h + n) : (b : Int) + (0 + (i : Int) * 1) < ((h + n : Nat) : Int) := by rw [ar_pi]; exact Int.ofNat_lt.mpr h3
theorem ar_plt2 {b i h n k : Nat} (h3 : b + i < h + n) : (b : Int) + (0 + (i : Int) * 1) < ((h + (n + k) : Nat) : Int) := by rw [ar_pi]; exact Int.ofNat_lt.mpr (Nat.lt_of_lt_of_le h3 (Nat.add_le_add_left (Nat.le_add_right _ _) _))
theorem ar_plt' {p h n k : Nat} (h3 : p < h + n) : (p : Int) < ((h + (n + k) : Nat) : Int) := Int.ofNat_lt.mpr (Nat.lt_of_lt_of_le h3 (Nat.add_le_add_left (Nat.le_add_right _ _) _))
theorem ar_nn {b : Int} {i : Nat} (h : 0 ≤ b) : 0 ≤ b + (0 + (i : Int) * 1) := by rw [Int.zero_add, Int.mul_one]; exact Int.add_nonneg h (Int.natCast_nonneg _)
theorem ar_tn {b : Int} {i : Nat} (h : 0 ≤ b) : (b + (0 + (i : Int) * 1)).toNat = b.toNat + i := by rw [Int.zero_add, Int.mul_one, Int.toNat_add_nat h]
theorem ar_m {a b c M : Nat} (h : a + b + c + 1 ≤ M) : b + c + 1 ≤ M := by lia
theorem ar_m2 {a b c s M : Nat} (h : a + b + c + 1 ≤ M) (h2 : a = s + 1) : b + (c + 1 + s) + 1 ≤ M := by lia
theorem ar_w {m M : Nat} (h : 0 + m + 1 ≤ M) : m < M := by rw [Nat.zero_add] at h; exact h
theorem ar_i {M s m : Nat} (h : M = 1 + s + m) : s + m + 1 ≤ M := by rw [h, Nat.add_assoc 1, Nat.add_comm 1]; exact Nat.le_refl _
theorem ar_e {E a q s : Nat} (h : E + (a + q) ≤ 1000) (h2 : a = s + 1) : E + (0 + 1) + (q + s) ≤ 1000 := by lia
theorem ar_e1 {E a q : Nat} (h : E + (a + q) ≤ 1000) : E + q ≤ 1000 := by lia
theorem ar_it {n s r : Nat} (h : n + 3 * (s + r) ≤ 1000) : s ≤ 500 := by lia
theorem ar_nb {l n : Nat} {a : Int} (h : l ≤ 20000) (ha : a = n) (hn : n = 1 ∨ n = 2) : (l : Int) + 3 + a ≤ 100000 := by lia
theorem ar_n0 {n : Nat} {a : Int} (ha : a = n) : 0 ≤ a := ha ▸ Int.natCast_nonneg _
theorem ar_a63 {a e q : Nat} (h : a < e) (h2 : e + q ≤ 1000) : (a : Int) < 2 ^ 63 := by lia
theorem ar_z {d n s t : Nat} (hd : d ≤ 1) (hn : n = 1 ∨ n = 2) (h : t = s + 1) (ht : t ≤ 200) : d + n + 3 * s ≤ 1000 := by lia
theorem ar_z2 {l s t : Nat} (hl : l ≤ 500) (h : t = s + 1) (ht : t ≤ 200) : l + s ≤ 1000 := by lia
theorem ar_20 {a : Nat} (h : a ≤ 10000) : a ≤ 20000 := Nat.le_trans h (by decide)
theorem ar_k {n i : Nat} (h : i < n) : ∃ k, n = i + k + 1 ∧ n - 1 - i = k := by obtain ⟨k, rfl⟩ := Nat.exists_eq_add_of_lt h; exact ⟨k, rfl, by rw [Nat.add_sub_cancel, Nat.add_sub_cancel_left]⟩
theorem ar_j {n i : Nat} (h : i < n) : n - 1 - i < n := by obtain ⟨k, h1, h2⟩ := ar_k h; rw [h2, h1]; exact Nat.lt_succ_of_le (Nat.le_add_left _ _)
theorem ar_s (n i : Nat) : n - (i + 1) = n - 1 - i := by rw [Nat.sub_sub, Nat.add_comm]
theorem ar_u {n i : Nat} (h : i < n) : n - 1 - i + 1 = n - i := by obtain ⟨k, h1, h2⟩ := ar_k h; rw [h2, h1, Nat.add_assoc, Nat.add_sub_cancel_left]
theorem ar_ki (i k : Nat) : ((i + k + 1 : Nat) : Int) - 1 + (i : Int) * -1 = (k : Int) := by lia
theorem ar_nn2 {b : Int} {n i : Nat} (h : 0 ≤ b) (h2 : i < n) : 0 ≤ b + ((n : Int) - 1 + (i : Int) * -1) := by obtain ⟨k, rfl, _⟩ := ar_k h2; rw [ar_ki]; exact Int.add_nonneg h (Int.natCast_nonneg _)
theorem ar_tm {b : Int} {n i : Nat} (h : 0 ≤ b) (h2 : i < n) : (b + ((n : Int) - 1 + (i : Int) * -1)).toNat = b.toNat + (n - 1 - i) := by obtain ⟨k, h3, h4⟩ := ar_k h2; rw [h4]; subst h3; rw [ar_ki, Int.toNat_add_nat h]
theorem ar_A {n i T : Nat} (h : n = 1 ∨ n = 2) (h2 : T ≤ 1000) : n - (n - i) + (T + 1) ≤ 1000000 := Nat.le_trans (Nat.add_le_add (Nat.le_trans (Nat.sub_le _ _) (show n ≤ 2 by rcases h with rfl | rfl <;> decide)) (Nat.succ_le_succ h2)) (by decide)
theorem ar_lt {s w t : Nat} (h : t = s + 1) : 2 * s + (1 + w) < 2 * t + w := by lia
theorem ar_big {a : Nat} (h : a ≤ 500) : ¬ ((a : Int) > 100000 + 1) := by lia
theorem ar_10 {a : Nat} (h : a = 1 ∨ a = 2) : a ≤ 10 := by rcases h with rfl | rfl <;> decide
theorem ar_p1 {n a q : Nat} (h : n + 3 * (a + q) ≤ 1000) : n + 3 * q ≤ 1000 := Nat.le_trans (Nat.add_le_add_left (Nat.mul_le_mul_left _ (Nat.le_add_left _ _)) _) h
theorem ar_p2 {t q : Nat} (h : t + (1 + q) ≤ 1000) : t + (0 + 1) + q ≤ 1000 := by rw [Nat.add_assoc]; exact h
theorem ar_p3 {n d w q s a : Nat} (h : n + 3 * (a + q) ≤ 1000) (hs : a = s + 1) (hd : d ≤ 1) (hw : w = 1 ∨ w = 2) : n + (d + w) + 3 * (q + s) ≤ 1000 := by lia
theorem ar_p4 {t q s a : Nat} (h : t + (a + q) ≤ 1000) (hs : a = s + 1) : t + (q + s) ≤ 1000 := by lia
theorem hdf_le (f : Int) : hdf f ≤ 1 := by unfold hdf; split <;> decide
theorem places_bd : ∀ {as : List Tr} {b : Nat} {q : Nat × Tr}, q ∈ places b as → b ≤ q.1 ∧ q.1 < b + as.length ∧ q.2 ∈ as
  | [], _, _, h => nomatch h
  | a :: as, b, q, h => by
    simp only [places] at h
    rcases List.mem_cons.mp h with rfl | h
    · exact ⟨Nat.le_refl _, by simp, .head _⟩
    · obtain ⟨h1, h2, h3⟩ := places_bd h
      exact ⟨by omega, by simp; omega, .tail _ h3⟩
theorem Tr.kids_size {t : Tr} {f : Int} {as : List Tr} (h : t.kids = some (f, as)) : t.size = (as.map Tr.size).sum + 1 := by
  cases t with
  | s1 g a => simp only [Tr.kids, Option.some.injEq, Prod.mk.injEq] at h; obtain ⟨_, rfl⟩ := h; simp [Tr.size]
  | s2 g a b => simp only [Tr.kids, Option.some.injEq, Prod.mk.injEq] at h; obtain ⟨_, rfl⟩ := h; simp [Tr.size]
  | _ => cases h
theorem Tr.kids_enc {t : Tr} {f : Int} {as : List Tr} (h : t.kids = some (f, as)) : t.enc = .tup [.str (Str.ofString "s"), .int f, .tup (as.map Tr.enc)] := by
  cases t with
  | s1 g a => simp only [Tr.kids, Option.some.injEq, Prod.mk.injEq] at h; obtain ⟨rfl, rfl⟩ := h; rfl
  | s2 g a b => simp only [Tr.kids, Option.some.injEq, Prod.mk.injEq] at h; obtain ⟨rfl, rfl⟩ := h; rfl
  | _ => cases h
theorem Tr.kids_ok {F : List Cell} {t : Tr} {f : Int} {as : List Tr} (h : t.kids = some (f, as)) (k : t.okF F) : 0 ≤ f ∧ f < F.length ∧ ar F f = as.length ∧ (f = 0 → as.length = 2) ∧ (as.length = 1 ∨ as.length = 2) ∧ ∀ a ∈ as, a.okF F := by
  cases t with
  | s1 g a =>
    simp only [Tr.kids, Option.some.injEq, Prod.mk.injEq] at h; obtain ⟨rfl, rfl⟩ := h
    obtain ⟨h1, h2, h3, h4⟩ := k
    exact ⟨by omega, h2, by simpa using h3, fun e => by omega, .inl rfl, by simpa using h4⟩
  | s2 g a b =>
    simp only [Tr.kids, Option.some.injEq, Prod.mk.injEq] at h; obtain ⟨rfl, rfl⟩ := h
    obtain ⟨h1, h2, h3, h4, h5⟩ := k
    exact ⟨h1, h2, by simpa using h3, fun _ => rfl, .inr rfl, by simpa using ⟨h4, h5⟩⟩
  | _ => cases h
theorem blkN_len (s : Nat) (f : Int) (w : Nat) : (blkN s f w).length = hdf f + w := by
  unfold blkN hdf; split <;> simp [selfs_length]; omega
structure PI (F : List Cell) (L : Nat) (N : List Cell) (T : List (Int × Cell)) (Q : List (Nat × Tr)) (N' : List Cell) (T' : List (Int × Cell)) : Prop where
  run : LayQ L N T Q N' T'
  inq : ∀ q ∈ Q, L ≤ q.1 ∧ q.1 < L + N.length ∧ q.2.okF F
  zN : N.length + 3 * qsz Q ≤ 1000
  zT : T.length + qsz Q ≤ 1000
/-- a step of the laying, by the term ahead -/
def LayStep (L : Nat) (N : List Cell) (T : List (Int × Cell)) (N' : List Cell) (T' : List (Int × Cell)) (Q : List (Nat × Tr)) (p : Nat) : Tr → Prop
  | .var k => (∃ z, lkC T k = some z ∧ LayQ L (N.set (p - L) z) T Q N' T') ∨ (lkC T k = none ∧ LayQ L N (T ++ [(k, (0, (p : Int)))]) Q N' T')
  | .atom n => LayQ L (N.set (p - L) (4, n)) T Q N' T'
  | .num n => LayQ L (N.set (p - L) (5, n)) T Q N' T'
  | t => ∃ f as, t.kids = some (f, as) ∧ LayQ L ((N ++ blkN (L + N.length) f as.length).set (p - L) (cellOf f (L + N.length))) T (Q ++ places (L + N.length + hdf f) as) N' T'
theorem LayQ.step {L : Nat} {N N' : List Cell} {T T' : List (Int × Cell)} {Q : List (Nat × Tr)} {p : Nat} {t : Tr} (a : LayQ L N T ((p, t) :: Q) N' T') : LayStep L N T N' T' Q p t := by
  cases a with
  | old h r => exact .inl ⟨_, h, r⟩
  | new h r => exact .inr ⟨h, r⟩
  | atom r => exact r
  | num r => exact r
  | str h r =>
    cases t with
    | s1 _ _ => exact ⟨_, _, h, r⟩
    | s2 _ _ _ => exact ⟨_, _, h, r⟩
    | _ => cases h
theorem LayStep.str {L : Nat} {N N' : List Cell} {T T' : List (Int × Cell)} {Q : List (Nat × Tr)} {p : Nat} {t : Tr} {f : Int} {as : List Tr} (a : LayStep L N T N' T' Q p t) (e : t.kids = some (f, as)) :
    LayQ L ((N ++ blkN (L + N.length) f as.length).set (p - L) (cellOf f (L + N.length))) T (Q ++ places (L + N.length + hdf f) as) N' T' := by
  cases t with
  | s1 _ _ => obtain ⟨_, _, e', r⟩ := a; rw [e] at e'; cases e'; exact r
  | s2 _ _ _ => obtain ⟨_, _, e', r⟩ := a; rw [e] at e'; cases e'; exact r
  | _ => cases e
section
variable {F N N' : List Cell} {T T' : List (Int × Cell)} {Q : List (Nat × Tr)} {L p : Nat} {k n : Int}
theorem PI.leaf {t : Tr} {v : Cell} (h : PI F L N T ((p, t) :: Q) N' T') (r : LayQ L (N.set (p - L) v) T Q N' T') : PI F L (N.set (p - L) v) T Q N' T' := by
  obtain ⟨_, i, z1, z2⟩ := h
  rw [qsz_cons] at z1 z2
  exact ⟨r, fun q hq => by rw [List.length_set]; exact i q (.tail _ hq), by rw [List.length_set]; exact ar_p1 z1, ar_e1 z2⟩
theorem PI.old {z : Cell} (h : PI F L N T ((p, .var k) :: Q) N' T') (e : lkC T k = some z) : PI F L (N.set (p - L) z) T Q N' T' := by
  rcases h.run.step with ⟨z', e', r⟩ | ⟨e', _⟩
  · rw [e] at e'; cases e'; exact h.leaf r
  · rw [e] at e'; cases e'
theorem PI.new (h : PI F L N T ((p, .var k) :: Q) N' T') (e : lkC T k = none) : PI F L N (T ++ [(k, (0, (p : Int)))]) Q N' T' := by
  rcases h.run.step with ⟨z', e', r⟩ | ⟨_, r⟩
  · rw [e] at e'; cases e'
  · obtain ⟨_, i, z1, z2⟩ := h
    rw [qsz_cons] at z1 z2
    exact ⟨r, fun q hq => i q (.tail _ hq), ar_p1 z1, by rw [List.length_append, List.length_cons, List.length_nil]; exact ar_p2 z2⟩
theorem PI.atom (h : PI F L N T ((p, .atom n) :: Q) N' T') : PI F L (N.set (p - L) (4, n)) T Q N' T' := h.leaf h.run.step
theorem PI.num (h : PI F L N T ((p, .num n) :: Q) N' T') : PI F L (N.set (p - L) (5, n)) T Q N' T' := h.leaf h.run.step
theorem PI.str {t : Tr} {f : Int} {as : List Tr} (h : PI F L N T ((p, t) :: Q) N' T') (e : t.kids = some (f, as)) : PI F L ((N ++ blkN (L + N.length) f as.length).set (p - L) (cellOf f (L + N.length))) T (Q ++ places (L + N.length + hdf f) as) N' T' := by
  have r := h.run.step.str e
  obtain ⟨_, i, z1, z2⟩ := h
  have hok := Tr.kids_ok e (i _ (.head _)).2.2
  have hs := Tr.kids_size e
  rw [qsz_cons] at z1 z2
  refine ⟨r, fun q hq => ?_, ?_, ?_⟩
  · rw [List.length_set, List.length_append, blkN_len]
    rcases List.mem_append.mp hq with hq | hq
    · obtain ⟨a, b, c⟩ := i q (.tail _ hq); exact ⟨a, Nat.lt_of_lt_of_le b (Nat.add_le_add_left (Nat.le_add_right _ _) _), c⟩
    · obtain ⟨a, b, c⟩ := places_bd hq; exact ⟨Nat.le_trans (Nat.le_trans (Nat.le_add_right _ _) (Nat.le_add_right _ _)) a, by rw [← Nat.add_assoc L, ← Nat.add_assoc (L + N.length)]; exact b, hok.2.2.2.2.2 _ c⟩
  · rw [List.length_set, List.length_append, blkN_len, qsz_app, qsz_places]
    exact ar_p3 z1 hs (hdf_le f) hok.2.2.2.2.1
  · rw [qsz_app, qsz_places]; exact ar_p4 z2 hs
end
theorem blk_eq {F H : List Cell} {f : Int} {w : Nat} (h : ar F f = w) (h0 : f = 0 → w = 2) : blk f H (ar F f).toNat = H ++ blkN H.length f w := by
  rw [h, Int.toNat_natCast]
  unfold blk blkN hdf
  by_cases e : f = 0
  · rw [if_pos e, if_pos e, h0 e, if_pos e]; simp
  · rw [if_neg e, if_neg e, if_neg e, List.append_assoc]
theorem mdc_eq (f : Int) (H : List Cell) : mdc f H = cellOf f H.length := rfl
theorem cell_base (f : Int) (s : Nat) : (if (cellOf f s).1 = 3 then (cellOf f s).2 else (cellOf f s).2 + 1) = ((s + hdf f : Nat) : Int) := by
  unfold cellOf hdf
  by_cases e : f = 0
  · simp [e]
  · simp [e]
theorem set_new {H N : List Cell} {p : Nat} {z : Cell} (h : H.length ≤ p) : (H ++ N).set p z = H ++ N.set (p - H.length) z := List.set_append_right _ _ h
inductive PuA (W : WA4) (D : Sy) (X : List (Addr × O)) (tb lk : Addr) (H : List Cell) (T : List (Int × Cell)) (t : Tr) (i : Nat) (ρ' : Rho) (σ' : Sg) : Prop
  | mk (r1 : ρ' (Str.ofString "self") = some (.ref W.S.a)) (r2 : ρ' (Str.ofString "table") = some (.ref tb)) (r3 : ρ' (Str.ofString "term") = some t.enc) (w : Wd W H D ((lk, .list ((T.map encP).map fun p => .int p.1)) :: (tb, .idict (T.map encP)) :: X) σ')
inductive PuO (W : WA4) (D : Sy) (X : List (Addr × O)) (tb wt : Addr) (z : Cell) (H N' : List Cell) (T' : List (Int × Cell)) (n : Nat) (ρ' : Rho) (σ' : Sg) : Prop
  | mk (at_ : Nat) (E : List (Nat × List Tr)) (N : List Cell) (T₁ : List (Int × Cell)) (hn : n = msr (E.drop at_)) (ha : at_ ≤ E.length) (hE : E.length + qsz (flat (E.drop at_)) ≤ 1000) (pi : PI D.F H.length N T₁ (flat (E.drop at_)) N' T')
    (r1 : ρ' (Str.ofString "self") = some (.ref W.S.a)) (r2 : ρ' (Str.ofString "table") = some (.ref tb)) (r4 : ρ' (Str.ofString "waiting") = some (.ref wt)) (r5 : ρ' (Str.ofString "at") = some (.int at_)) (r6 : ρ' (Str.ofString "made") = some (enc z))
    (w : Wd W (H ++ N) D ((wt, .list (E.map encE)) :: (tb, .idict (T₁.map encP)) :: X) σ')
inductive PuI (W : WA4) (D : Sy) (X : List (Addr × O)) (tb wt : Addr) (z : Cell) (H N' : List Cell) (T' : List (Int × Cell)) (at_ M b0 : Nat) (items : List Tr) (i : Nat) (ρ' : Rho) (σ' : Sg) : Prop
  | mk (hi : i ≤ items.length) (E : List (Nat × List Tr)) (N : List Cell) (T₁ : List (Int × Cell)) (hl : at_ + 1 ≤ E.length) (hE : E.length + qsz (places (b0 + i) (items.drop i) ++ flat (E.drop (at_ + 1))) ≤ 1000)
    (pi : PI D.F H.length N T₁ (places (b0 + i) (items.drop i) ++ flat (E.drop (at_ + 1))) N' T') (hm : ((items.drop i).map Tr.size).sum + msr (E.drop (at_ + 1)) + 1 ≤ M)
    (r1 : ρ' (Str.ofString "self") = some (.ref W.S.a)) (r2 : ρ' (Str.ofString "table") = some (.ref tb)) (r4 : ρ' (Str.ofString "waiting") = some (.ref wt)) (r5 : ρ' (Str.ofString "at") = some (.int ((at_ : Int) + 1))) (r6 : ρ' (Str.ofString "made") = some (enc z)) (r7 : ρ' (Str.ofString "place") = some (.int ((b0 + i : Nat) : Int)))
    (w : Wd W (H ++ N) D ((wt, .list (E.map encE)) :: (tb, .idict (T₁.map encP)) :: X) σ')
theorem msr_snoc (E : List (Nat × List Tr)) (e : Nat × List Tr) : msr (E ++ [e]) = msr E + 1 + (e.2.map Tr.size).sum := by
  unfold msr; rw [List.map_append, List.sum_append, Nat.add_assoc]; rfl
theorem c_put_term {B : Base} (hB : IsLaw B) {W : WA4} {D : Sy} {X : List (Addr × O)} {tb : Addr} {T : List (Int × Cell)} {H : List Cell} {σ : Sg} (w : Wd W H D ((tb, .idict (T.map encP)) :: X) σ) (hz2 : D.F.length ≤ 1000)
    (tg : ∀ p ∈ T, p.2.1 = 0) (tl : T.length ≤ 500) (hH : H.length ≤ 10000) {t : Tr} (tk : t.okF D.F) (ts : t.size ≤ 200) {y : Cell} {N' : List Cell} {T' : List (Int × Cell)} (pt : PutT H.length T t y N' T') {Q : V → Sg → Prop}
    (hQ : ∀ σ', Wd W (H ++ N') D ((tb, .idict (T'.map encP)) :: X) σ' → Q (enc y) σ') : Spec B (.ref 363) 4 [.ref W.S.a, t.enc, .ref tb] σ Q := by
  refine Spec.fn (ok_put_term hB) rfl fun A gs L r hL => ?_
  have ok := (ok_put_term hB).okc (gs := gs) (L := L) r
  have zH := ar_hun hH
  walk_at "wd"
  refine WSS.cons ?_
  refine WS.forList ok ?_
  repeat walk_at "e"
  refine WC.list_idict ok w.x0 (by rw [List.length_map]; omega) fun lk hlk => ?_
  have w1 := w.put (o := .list ((T.map encP).map fun p => .int p.1)) hlk
  generalize upd σ lk (.list ((T.map encP).map fun p => .int p.1)) = σ1 at w1
  refine ⟨lk, _, rfl, w1.x0, PuA W D X tb lk H T t, ⟨by walk_at "lk", by walk_at "lk", by walk_at "lk", w1⟩, fun i ρ σ ⟨_, _, _, h⟩ => h.x0, ?_, ?_⟩
  · rintro g i v ρ2 σ2 hi hv ⟨r1, r2, r3, w2⟩
    simp only [List.map_map, List.getElem?_map, Option.map_eq_some_iff, Function.comp] at hv
    obtain ⟨p, hp, rfl⟩ := hv
    have hm := List.mem_of_getElem? hp
    obtain ⟨z, hz, hz0⟩ : ∃ z, lkC T p.1 = some z ∧ z.1 = 0 := by
      cases hl : lkC T p.1 with
      | none => exact absurd (List.mem_map_of_mem (f := (·.1)) hm) (lkC_none hl)
      | some z => exact ⟨z, rfl, tg _ (lkC_mem hl)⟩
    walk_at "wd"
    repeat walk_at "m"
    refine WSub.idict (by walk_at "ob") (show dget (T.map encP) p.1 = some (enc z) by rw [dget_P, hz]; rfl) ?_
    repeat walk_at "m"
    refine iteB (fun h => ?_) (fun h => ?_)
    · rw [hz0] at h; exact absurd h (by decide)
    · repeat walk_at "m"
      exact ⟨by walk_at "lk", by walk_at "lk", by walk_at "lk", w2⟩
  rintro ρ2 σ2 ⟨r1, r2, r3, w2⟩
  have w2 := w2.tl
  clear w1 w hlk
  walk_at "wd"
  repeat walk_at "m"
  have hku : A.units + 70 < cLine := ok.units
  cases pt with
  | @old k z hl =>
    refine WSub.tup (l := [.str (Str.ofString "v"), .int k]) (by decide) (by decide) (by rfl) ?_
    repeat walk_at "m"
    refine W2.eqS ok.units str_v str_v ?_
    repeat walk_at "m"
    refine iteB (fun _ => ?_) (fun h => absurd rfl h)
    repeat walk_at "m"
    refine WSub.tup (l := [.str (Str.ofString "v"), .int k]) (by decide) (by decide) (by rfl) ?_
    repeat walk_at "m"
    rw [dget_P, hl]
    refine iteV (fun h => by simp at h) (fun _ => ?_)
    repeat walk_at "m"
    refine WSub.tup (l := [.str (Str.ofString "v"), .int k]) (by decide) (by decide) (by rfl) ?_
    repeat walk_at "m"
    refine WSub.idict (by walk_at "ob") (by rw [dget_P, hl]; rfl) ?_
    repeat walk_at "m"
    refine hQ _ ?_
    rw [List.append_nil]; exact w2
  | @new k hl =>
    refine WSub.tup (l := [.str (Str.ofString "v"), .int k]) (by decide) (by decide) (by rfl) ?_
    repeat walk_at "m"
    refine W2.eqS ok.units str_v str_v ?_
    repeat walk_at "m"
    refine iteB (fun _ => ?_) (fun h => absurd rfl h)
    repeat walk_at "m"
    refine WSub.tup (l := [.str (Str.ofString "v"), .int k]) (by decide) (by decide) (by rfl) ?_
    repeat walk_at "m"
    rw [dget_P, hl]
    refine iteV (fun _ => ?_) (fun h => by simp at h)
    repeat walk_at "m"
    refine WC.specA r (c_new_var hB w2.st (by rw [List.length_map]; exact Nat.lt_of_le_of_lt hH (by decide)) ?_)
    have hS : (H.map enc) ++ [.tup [.int 0, .int (H.map enc).length]] = (H ++ [((0 : Int), (H.length : Int))]).map enc := by simp [enc]
    rw [hS, List.length_map]
    have w3 : Wd W (H ++ [((0 : Int), (H.length : Int))]) D _ _ := w2.heap ((Kp.refl _ _).upd (.inl (.head _))) (upd_same _ _ _)
    generalize upd σ2 W.S.h (.list ((H ++ [((0 : Int), (H.length : Int))]).map enc)) = σ3 at w3
    have k0 := w3.x0
    repeat walk_at "m"
    refine WSub.tup (l := [.str (Str.ofString "v"), .int k]) (by decide) (by decide) (by rfl) ?_
    repeat walk_at "m"
    refine WSet.idict (by walk_at "ob") (by rw [List.length_map]; exact Nat.le_trans tl (by decide)) ?_
    have e1 : dput (T.map encP) k (.tup [.int 0, .int (H.length : Int)]) = (T ++ [(k, ((0 : Int), (H.length : Int)))]).map encP := dput_P hl ((0 : Int), (H.length : Int))
    rw [e1]
    have w4 := w3.set0 (o' := .idict ((T ++ [(k, ((0 : Int), (H.length : Int)))]).map encP))
    generalize upd σ3 tb (.idict ((T ++ [(k, ((0 : Int), (H.length : Int)))]).map encP)) = σ4 at w4
    have k0 := w4.x0
    repeat walk_at "m"
    refine WSub.tup (l := [.str (Str.ofString "v"), .int k]) (by decide) (by decide) (by rfl) ?_
    repeat walk_at "m"
    refine WSub.idict (u := enc (0, (H.length : Int))) (by walk_at "ob") (by rw [dget_P, lkC_app, hl]; simp [lkC]) ?_
    repeat walk_at "m"
    exact hQ _ w4
  | @atom n =>
    refine WSub.tup (l := [.str (Str.ofString "a"), .int n]) (by decide) (by decide) (by rfl) ?_
    repeat walk_at "m"
    refine W2.eqS ok.units str_a str_v ?_
    repeat walk_at "m"
    refine iteB (fun h => absurd h (by decide)) (fun _ => ?_)
    repeat walk_at "m"
    refine W2.eqS ok.units str_a str_a ?_
    repeat walk_at "m"
    refine iteB (fun _ => ?_) (fun h => absurd rfl h)
    repeat walk_at "m"
    refine WSub.tup (l := [.str (Str.ofString "a"), .int n]) (by decide) (by decide) (by rfl) ?_
    repeat walk_at "m"
    refine hQ _ ?_
    rw [List.append_nil]; exact w2
  | @num n =>
    refine WSub.tup (l := [.str (Str.ofString "i"), .int n]) (by decide) (by decide) (by rfl) ?_
    repeat walk_at "m"
    refine W2.eqS ok.units str_i str_v ?_
    repeat walk_at "m"
    refine iteB (fun h => absurd h (by decide)) (fun _ => ?_)
    repeat walk_at "m"
    refine W2.eqS ok.units str_i str_a ?_
    repeat walk_at "m"
    refine iteB (fun h => absurd h (by decide)) (fun _ => ?_)
    repeat walk_at "m"
    refine W2.eqS ok.units str_i str_i ?_
    repeat walk_at "m"
    refine iteB (fun _ => ?_) (fun h => absurd rfl h)
    repeat walk_at "m"
    refine WSub.tup (l := [.str (Str.ofString "i"), .int n]) (by decide) (by decide) (by rfl) ?_
    repeat walk_at "m"
    refine hQ _ ?_
    rw [List.append_nil]; exact w2
  | @str _ f as _ _ hk ly =>
    have ek := Tr.kids_enc hk
    have hok := Tr.kids_ok hk tk
    have hsz := Tr.kids_size hk
    rw [ek] at r3 ⊢
    refine WSub.tup (l := [.str (Str.ofString "s"), .int f, .tup (as.map Tr.enc)]) (by decide) (by decide) (by rfl) ?_
    repeat walk_at "m"
    refine W2.eqS ok.units str_s str_v ?_
    repeat walk_at "m"
    refine iteB (fun h => absurd h (by decide)) (fun _ => ?_)
    repeat walk_at "m"
    refine W2.eqS ok.units str_s str_a ?_
    repeat walk_at "m"
    refine iteB (fun h => absurd h (by decide)) (fun _ => ?_)
    repeat walk_at "m"
    refine W2.eqS ok.units str_s str_i ?_
    repeat walk_at "m"
    refine iteB (fun h => absurd h (by decide)) (fun _ => ?_)
    repeat walk_at "m"
    refine WC.specA r (c_new_block hB w2.st w2.sy w2.ap.b hz2 hok.1 hok.2.1 (ar_n0 hok.2.2.1) (ar_nb (ar_20 hH) hok.2.2.1 hok.2.2.2.2.1) ?_)
    rw [blk_eq hok.2.2.1 hok.2.2.2.1, mdc_eq]
    have w3 : Wd W (H ++ blkN H.length f as.length) D _ _ := w2.heap ((Kp.refl _ _).upd (.inl (.head _))) (upd_same _ _ _)
    generalize upd σ2 W.S.h (.list ((H ++ blkN H.length f as.length).map enc)) = σ3 at w3
    walk_at "wd"
    repeat walk_at "e"
    refine WSS.cons ?_
    repeat walk_at "e"
    refine WC.specA r (c_base hB ?_)
    rw [cell_base]
    repeat walk_at "e"
    intro wt hwt
    have w4 := w3.put (o := .list ([(H.length + hdf f, as)].map encE)) hwt
    rw [show ([.tup [.int ((H.length + hdf f : Nat) : Int), .tup (as.map Tr.enc)]] : List V) = [(H.length + hdf f, as)].map encE from rfl]
    generalize upd σ3 wt (.list ([(H.length + hdf f, as)].map encE)) = σ4 at w4
    walk_at "wd"
    repeat walk_at "e"
    refine WSS.cons ?_
    repeat walk_at "e"
    have pi0 : PI D.F H.length (blkN H.length f as.length) T (flat ([(H.length + hdf f, as)] : List (Nat × List Tr))) N' T' := by
      have hd : hdf f ≤ 1 := by unfold hdf; split <;> omega
      refine ⟨by simpa [flat] using ly, fun q hq => ?_, ?_, ?_⟩
      · have hq : q ∈ places (H.length + hdf f) as := by simpa [flat] using hq
        obtain ⟨a, b, c⟩ := places_bd hq
        rw [blkN_len]
        exact ⟨by omega, by omega, hok.2.2.2.2.2 _ c⟩
      · rw [blkN_len, show flat ([(H.length + hdf f, as)] : List (Nat × List Tr)) = places (H.length + hdf f) as by simp [flat], qsz_places]
        exact ar_z hd hok.2.2.2.2.1 hsz ts
      · rw [show flat ([(H.length + hdf f, as)] : List (Nat × List Tr)) = places (H.length + hdf f) as by simp [flat], qsz_places]; exact ar_z2 tl hsz ts
    have hE0 : ([(H.length + hdf f, as)] : List (Nat × List Tr)).length + qsz (flat (([(H.length + hdf f, as)] : List (Nat × List Tr)).drop 0)) ≤ 1000 := by
      rw [List.drop_zero, show flat ([(H.length + hdf f, as)] : List (Nat × List Tr)) = places (H.length + hdf f) as by simp [flat], qsz_places]; simp only [List.length_cons, List.length_nil]; omega
    refine WSS.cut (fun ρ' σ' => ρ' (Str.ofString "made") = some (enc (cellOf f H.length)) ∧ Wd W (H ++ N') D ((tb, .idict (T'.map encP)) :: X) σ') ?_ ?_
    rotate_left
    · rintro ρ' σ' ⟨rm, w5⟩
      repeat walk_at "m"
      exact hQ σ' w5
    refine WS.loop (PuO W D X tb wt (cellOf f H.length) H N' T') _ ⟨0, _, _, _, rfl, Nat.zero_le _, hE0, pi0, by walk_at "lk", by walk_at "lk", by walk_at "lk", by walk_at "lk", by walk_at "lk", w4⟩ ?_
    clear w3 w4 pi0
    rintro n ρ1 σ5 ⟨at_, E, N, T₁, rfl, hat, hE, pi, r1, r2, r4, r5, r6, w5⟩
    walk_at "wd"
    repeat walk_at "e"
    rw [List.length_map]
    refine iteB (fun hlt => ?_) (fun hge => ?_)
    rotate_left
    · repeat walk_at "m"
      have : at_ = E.length := by omega
      subst this
      rw [List.drop_length] at pi
      cases pi.run
      exact ⟨rfl, r6, w5.tl⟩
    have hlt' : at_ < E.length := Int.ofNat_lt.mp hlt
    have hd0 : E.drop at_ = E[at_] :: E.drop (at_ + 1) := List.drop_eq_getElem_cons hlt'
    generalize hee : E[at_] = e0 at hd0
    have hwat : (E.map encE)[at_]? = some (encE e0) := by rw [List.getElem?_map, List.getElem?_eq_getElem hlt', hee]; rfl
    obtain ⟨b0, items⟩ := e0
    rw [hd0] at pi ⊢
    refine WSS.cons ?_
    repeat walk_at "e"
    refine WSub.list (by walk_at "ob") (Int.natCast_nonneg _) (ar_a63 hlt' hE) (by simpa using hwat) ?_
    repeat walk_at "e"
    refine WSS.cons ?_
    repeat walk_at "e"
    refine WSS.one ?_
    refine WS.forTup (by walk_at "okt") ?_
    repeat walk_at "e"
    rw [hd0] at hE
    have hfl : flat ((b0, items) :: E.drop (at_ + 1)) = places b0 items ++ flat (E.drop (at_ + 1)) := by simp [flat]
    have hms : msr ((b0, items) :: E.drop (at_ + 1)) = 1 + (items.map Tr.size).sum + msr (E.drop (at_ + 1)) := by simp [msr]
    rw [hfl] at pi hE
    generalize hM : msr ((b0, items) :: E.drop (at_ + 1)) = M at hms
    refine ⟨PuI W D X tb wt (cellOf f H.length) H N' T' at_ M b0 items,
      ⟨Nat.zero_le _, E, N, T₁, hlt', by simpa using hE, by simpa using pi, by rw [List.drop_zero]; exact ar_i hms, by walk_at "lk", by walk_at "lk", by walk_at "lk", by walk_at "lk", by walk_at "lk", by walk_at "lk", w5⟩, ?_, ?_⟩
    rotate_left
    · rw [List.length_map]
      rintro ρ2 σ6 ⟨_, E, N, T₁, hl1, hE1, pi1, hm1, r1, r2, r4, r5, r6, r7, w6⟩
      rw [List.drop_length] at pi1 hm1 hE1
      simp only [places, List.nil_append, List.map_nil, List.sum_nil] at pi1 hm1 hE1
      exact whileQ_next (msr (E.drop (at_ + 1))) (ar_w hm1) ⟨at_ + 1, E, N, T₁, rfl, hl1, hE1, pi1, r1, r2, r4, by simpa using r5, r6, w6⟩
    clear w5 pi hE hwat
    rintro g i v ρ2 σ6 hi hv ⟨_, E, N, T₁, hl1, hE1, pi1, hm1, r1, r2, r4, r5, r6, r7, w6⟩
    rw [List.length_map] at hi
    rw [List.getElem?_map, List.getElem?_eq_getElem hi] at hv
    simp only [Option.map_some, Option.some.injEq] at hv
    have hdi : items.drop i = items[i] :: items.drop (i + 1) := List.drop_eq_getElem_cons hi
    generalize items[i] = it at hv hdi
    subst hv
    rw [hdi] at pi1 hm1 hE1
    simp only [places, List.cons_append, List.map_cons, List.sum_cons] at pi1 hm1 hE1
    have hin := pi1.inq _ (.head _)
    simp only at hin
    have zN := pi1.zN
    have zT : (T₁.map encP).length ≤ 1000000 := by rw [List.length_map]; exact ar_mil pi1.zT
    have zE : (E.map encE).length ≤ 1000000 := by rw [List.length_map]; exact ar_mil hE1
    rw [qsz_cons] at hE1
    have hp0 : (0 : Int) ≤ ((b0 + i : Nat) : Int) := Int.natCast_nonneg _
    have hp63 := ar_p63' hH zN hin.2.1
    have hplt : ((b0 + i : Nat) : Int) < ((H ++ N).map enc).length := by rw [List.length_map, List.length_append]; exact Int.ofNat_lt.mpr hin.2.1
    have hplus : ((b0 + i : Nat) : Int) + 1 = ((b0 + (i + 1) : Nat) : Int) := rfl
    have store_ : ∀ {N : List Cell} {σ' : Sg} (z : Cell) {X' : List (Addr × O)}, Wd W (H ++ N) D X' σ' → Wd W (H ++ N.set (b0 + i - H.length) z) D X' (upd σ' W.S.h (.list (((H ++ N).map enc).set (((b0 + i : Nat) : Int)).toNat (enc z)))) := by
      intro N σ' z X' w
      rw [Int.toNat_natCast, ← List.map_set, set_new hin.1]
      exact w.heap ((Kp.refl _ _).upd (.inl (.head _))) (upd_same _ _ _)
    walk_at "wd"
    repeat walk_at "e"
    refine WSS.cons ?_
    repeat walk_at "e"
    cases hkd : it.kids with
    | none =>
      cases it with
      | s1 _ _ => cases hkd
      | s2 _ _ _ => cases hkd
      | var k =>
        refine WSub.tup (l := [.str (Str.ofString "v"), .int k]) (by decide) (by decide) (by rfl) ?_
        repeat walk_at "m"
        refine W2.eqS ok.units str_v str_v ?_
        repeat walk_at "e"
        refine iteB (fun _ => ?_) (fun h => absurd rfl h)
        refine WSS.one ?_
        repeat walk_at "e"
        refine WSub.tup (l := [.str (Str.ofString "v"), .int k]) (by decide) (by decide) (by rfl) ?_
        repeat walk_at "e"
        rw [dget_P]
        cases hl : lkC T₁ k with
        | some z =>
          refine iteV (fun _ => ?_) (fun h => by simp at h)
          repeat walk_at "m"
          refine WSub.tup (l := [.str (Str.ofString "v"), .int k]) (by decide) (by decide) (by rfl) ?_
          repeat walk_at "m"
          refine WSub.idict (by walk_at "ob") (by rw [dget_P, hl]; rfl) ?_
          repeat walk_at "m"
          refine WSet.list (by walk_at "ob") hp0 hp63 hplt ?_
          have w7 := store_ z w6
          repeat walk_at "m"
          exact ⟨hi, E, _, T₁, hl1, ar_e1 hE1, pi1.old hl, ar_m hm1, by walk_at "lk", by walk_at "lk", by walk_at "lk", by walk_at "lk", by walk_at "lk", (by rw [← hplus]; walk_at "lk"), w7⟩
        | none =>
          refine iteV (fun h => by simp at h) (fun _ => ?_)
          repeat walk_at "m"
          refine WSub.tup (l := [.str (Str.ofString "v"), .int k]) (by decide) (by decide) (by rfl) ?_
          repeat walk_at "m"
          refine WSet.idict (by walk_at "ob") zT ?_
          rw [show (V.tup [.int 0, .int ((b0 + i : Nat) : Int)]) = enc (0, ((b0 + i : Nat) : Int)) from rfl, dput_P hl]
          have w7 := w6.set1 (o' := .idict ((T₁ ++ [(k, ((0 : Int), ((b0 + i : Nat) : Int)))]).map encP))
          repeat walk_at "m"
          exact ⟨hi, E, _, _, hl1, ar_e1 hE1, pi1.new hl, ar_m hm1, by walk_at "lk", by walk_at "lk", by walk_at "lk", by walk_at "lk", by walk_at "lk", (by rw [← hplus]; walk_at "lk"), w7⟩
      | atom n =>
        refine WSub.tup (l := [.str (Str.ofString "a"), .int n]) (by decide) (by decide) (by rfl) ?_
        repeat walk_at "m"
        refine W2.eqS ok.units str_a str_v ?_
        repeat walk_at "e"
        refine iteB (fun h => absurd h (by decide)) (fun _ => ?_)
        refine WSS.one ?_
        repeat walk_at "e"
        refine W2.eqS ok.units str_a str_a ?_
        repeat walk_at "e"
        refine iteB (fun _ => ?_) (fun h => absurd rfl h)
        repeat walk_at "m"
        refine WSub.tup (l := [.str (Str.ofString "a"), .int n]) (by decide) (by decide) (by rfl) ?_
        repeat walk_at "m"
        refine WSet.list (by walk_at "ob") hp0 hp63 hplt ?_
        have w7 := store_ ((4 : Int), n) w6
        repeat walk_at "m"
        exact ⟨hi, E, _, T₁, hl1, ar_e1 hE1, pi1.atom, ar_m hm1, by walk_at "lk", by walk_at "lk", by walk_at "lk", by walk_at "lk", by walk_at "lk", (by rw [← hplus]; walk_at "lk"), w7⟩
      | num n =>
        refine WSub.tup (l := [.str (Str.ofString "i"), .int n]) (by decide) (by decide) (by rfl) ?_
        repeat walk_at "m"
        refine W2.eqS ok.units str_i str_v ?_
        repeat walk_at "e"
        refine iteB (fun h => absurd h (by decide)) (fun _ => ?_)
        refine WSS.one ?_
        repeat walk_at "e"
        refine W2.eqS ok.units str_i str_a ?_
        repeat walk_at "e"
        refine iteB (fun h => absurd h (by decide)) (fun _ => ?_)
        refine WSS.one ?_
        repeat walk_at "e"
        refine W2.eqS ok.units str_i str_i ?_
        repeat walk_at "e"
        refine iteB (fun _ => ?_) (fun h => absurd rfl h)
        repeat walk_at "m"
        refine WSub.tup (l := [.str (Str.ofString "i"), .int n]) (by decide) (by decide) (by rfl) ?_
        repeat walk_at "m"
        refine WSet.list (by walk_at "ob") hp0 hp63 hplt ?_
        have w7 := store_ ((5 : Int), n) w6
        repeat walk_at "m"
        exact ⟨hi, E, _, T₁, hl1, ar_e1 hE1, pi1.num, ar_m hm1, by walk_at "lk", by walk_at "lk", by walk_at "lk", by walk_at "lk", by walk_at "lk", (by rw [← hplus]; walk_at "lk"), w7⟩
    | some fa =>
      obtain ⟨f1, as1⟩ := fa
      have ek1 := Tr.kids_enc hkd
      have hok1 := Tr.kids_ok hkd hin.2.2
      have hsz1 := Tr.kids_size hkd
      rw [ek1]
      refine WSub.tup (l := [.str (Str.ofString "s"), .int f1, .tup (as1.map Tr.enc)]) (by decide) (by decide) (by rfl) ?_
      repeat walk_at "m"
      refine W2.eqS ok.units str_s str_v ?_
      repeat walk_at "e"
      refine iteB (fun h => absurd h (by decide)) (fun _ => ?_)
      refine WSS.one ?_
      repeat walk_at "e"
      refine W2.eqS ok.units str_s str_a ?_
      repeat walk_at "e"
      refine iteB (fun h => absurd h (by decide)) (fun _ => ?_)
      refine WSS.one ?_
      repeat walk_at "e"
      refine W2.eqS ok.units str_s str_i ?_
      repeat walk_at "e"
      refine iteB (fun h => absurd h (by decide)) (fun _ => ?_)
      repeat walk_at "m"
      have hHN : (H ++ N).length = H.length + N.length := List.length_append ..
      refine WC.specA r (c_new_block hB w6.st w6.sy w6.ap.b hz2 hok1.1 hok1.2.1 (ar_n0 hok1.2.2.1) (ar_nb (by rw [hHN]; exact ar_hn2 hH zN) hok1.2.2.1 hok1.2.2.2.2.1) ?_)
      rw [blk_eq hok1.2.2.1 hok1.2.2.2.1, mdc_eq, hHN, List.append_assoc]
      have w7 : Wd W (H ++ (N ++ blkN (H.length + N.length) f1 as1.length)) D _ _ := w6.heap ((Kp.refl _ _).upd (.inl (.head _))) (upd_same _ _ _)
      generalize upd σ6 W.S.h (.list ((H ++ (N ++ blkN (H.length + N.length) f1 as1.length)).map enc)) = σ7 at w7
      walk_at "wd"
      repeat walk_at "m"
      refine WSet.list (by walk_at "ob") hp0 hp63 (by rw [List.length_map, List.length_append, List.length_append]; exact ar_plt' hin.2.1) ?_
      have w8 := store_ (cellOf f1 (H.length + N.length)) w7
      generalize upd σ7 W.S.h (.list (((H ++ (N ++ blkN (H.length + N.length) f1 as1.length)).map enc).set (((b0 + i : Nat) : Int)).toNat (enc (cellOf f1 (H.length + N.length))))) = σ8 at w8
      walk_at "wd"
      repeat walk_at "m"
      refine WC.specA r (c_base hB ?_)
      rw [cell_base]
      repeat walk_at "m"
      have w9 := w8.set0 (o' := .list ((E ++ [(H.length + N.length + hdf f1, as1)]).map encE))
      rw [show E.map encE ++ [.tup [.int ((H.length + N.length + hdf f1 : Nat) : Int), .tup (as1.map Tr.enc)]] = (E ++ [(H.length + N.length + hdf f1, as1)]).map encE by rw [List.map_append]; rfl]
      have hdE : (E ++ [(H.length + N.length + hdf f1, as1)]).drop (at_ + 1) = E.drop (at_ + 1) ++ [(H.length + N.length + hdf f1, as1)] := List.drop_append_of_le_length hl1
      have hflE : flat (E.drop (at_ + 1) ++ [(H.length + N.length + hdf f1, as1)]) = flat (E.drop (at_ + 1)) ++ places (H.length + N.length + hdf f1) as1 := by simp [flat]
      have pi2 := pi1.str hkd
      have hmE : msr (E.drop (at_ + 1) ++ [(H.length + N.length + hdf f1, as1)]) = msr (E.drop (at_ + 1)) + 1 + (as1.map Tr.size).sum := msr_snoc _ _
      refine ⟨hi, E ++ [(H.length + N.length + hdf f1, as1)], _, T₁, by rw [List.length_append]; exact Nat.le_trans hl1 (Nat.le_add_right _ _), ?_, ?_, ?_, by walk_at "lk", by walk_at "lk", by walk_at "lk", by walk_at "lk", by walk_at "lk", (by rw [← hplus]; walk_at "lk"), w9⟩
      · rw [hdE, hflE, ← List.append_assoc, qsz_app, qsz_places, List.length_append, List.length_cons, List.length_nil]
        exact ar_e hE1 hsz1
      · rw [hdE, hflE, ← List.append_assoc]
        exact pi2
      · rw [hdE, hmE]; exact ar_m2 hm1 hsz1
/-! ## what a heap says: terms read out -/
noncomputable def cellI (f p : Int) : Cell := if f = 0 then (3, p) else (2, p)
theorem cellOf_I (f : Int) (s : Nat) : cellOf f s = cellI f (s : Int) := rfl
def Rep (H : List Cell) : Tr → Cell → List (Int × Nat) → Prop
  | .var k, x, l => Der H x (0, k) ∧ l = []
  | .atom n, x, l => Der H x (4, n) ∧ l = []
  | .num n, x, l => Der H x (5, n) ∧ l = []
  | .s1 f a, x, l => ∃ p u la, Der H x (cellI f p) ∧ 0 ≤ p ∧ (f ≠ 0 → H[p.toNat]? = some (6, f)) ∧ H[(bs (cellI f p)).toNat]? = some u ∧ Rep H a u la ∧ l = (p, a.size + 1) :: la
  | .s2 f a b, x, l => ∃ p u v la lb, Der H x (cellI f p) ∧ 0 ≤ p ∧ (f ≠ 0 → H[p.toNat]? = some (6, f)) ∧ H[(bs (cellI f p)).toNat]? = some u ∧ H[(bs (cellI f p)).toNat + 1]? = some v ∧ Rep H a u la ∧ Rep H b v lb ∧ l = (p, a.size + b.size + 1) :: (la ++ lb)
def RepL (H : List Cell) : Nat → List Tr → List (Int × Nat) → Prop
  | _, [], l => l = []
  | b, a :: as, l => ∃ u la l', H[b]? = some u ∧ Rep H a u la ∧ RepL H (b + 1) as l' ∧ l = la ++ l'
theorem Rep.node {H : List Cell} {t : Tr} {x : Cell} {l : List (Int × Nat)} {f : Int} {as : List Tr} (h : t.kids = some (f, as)) : Rep H t x l ↔ ∃ p l', Der H x (cellI f p) ∧ 0 ≤ p ∧ (f ≠ 0 → H[p.toNat]? = some (6, f)) ∧ RepL H (bs (cellI f p)).toNat as l' ∧ l = (p, t.size) :: l' := by
  cases t with
  | s1 g a =>
    simp only [Tr.kids, Option.some.injEq, Prod.mk.injEq] at h; obtain ⟨rfl, rfl⟩ := h
    simp only [Rep, RepL, Tr.size]
    constructor
    · rintro ⟨p, u, la, h1, h2, h3, h4, h5, rfl⟩
      exact ⟨p, la, h1, h2, h3, ⟨u, la, [], h4, h5, rfl, by simp⟩, rfl⟩
    · rintro ⟨p, l', h1, h2, h3, ⟨u, la, l'', h4, h5, rfl, rfl⟩, rfl⟩
      exact ⟨p, u, la, h1, h2, h3, h4, h5, by simp⟩
  | s2 g a b =>
    simp only [Tr.kids, Option.some.injEq, Prod.mk.injEq] at h; obtain ⟨rfl, rfl⟩ := h
    simp only [Rep, RepL, Tr.size]
    constructor
    · rintro ⟨p, u, v, la, lb, h1, h2, h3, h4, h4', h5, h5', rfl⟩
      exact ⟨p, la ++ lb, h1, h2, h3, ⟨u, la, lb, h4, h5, ⟨v, lb, [], h4', h5', rfl, by simp⟩, rfl⟩, rfl⟩
    · rintro ⟨p, l', h1, h2, h3, ⟨u, la, l'', h4, h5, ⟨v, lb, l3, h4', h5', rfl, rfl⟩, rfl⟩, rfl⟩
      exact ⟨p, u, v, la, lb, h1, h2, h3, h4, h4', h5, h5', by simp⟩
  | _ => cases h
theorem RepL.get {H : List Cell} : ∀ {as : List Tr} {b : Nat} {l : List (Int × Nat)}, RepL H b as l → ∀ {i : Nat} {a : Tr}, as[i]? = some a → ∃ u la, H[b + i]? = some u ∧ Rep H a u la ∧ ∀ q ∈ la, q ∈ l
  | [], _, _, _, i, a, e => by simp at e
  | a :: as, b, l, h, 0, a', e => by
    obtain ⟨u, la, l', h1, h2, h3, he⟩ := h
    subst he
    simp only [List.getElem?_cons_zero, Option.some.injEq] at e; subst e
    exact ⟨u, la, h1, h2, fun q hq => List.mem_append_left _ hq⟩
  | a :: as, b, l, h, i + 1, a', e => by
    obtain ⟨u, la, l', h1, h2, h3, he⟩ := h
    subst he
    obtain ⟨u', la', x1, x2, x3⟩ := RepL.get h3 (i := i) (a := a') (by simpa using e)
    exact ⟨u', la', by rw [show b + (i + 1) = b + 1 + i by lia]; exact x1, x2, fun q hq => List.mem_append_right _ (x3 q hq)⟩
/-- where the cell ends -/
theorem Rep.der {H : List Cell} {t : Tr} {x : Cell} {l : List (Int × Nat)} (h : Rep H t x l) : ∃ d, Der H x d ∧ ((¬ isCmp d ∧ t.size = 1) ∨ (isCmp d ∧ (d.2, t.size) ∈ l)) := by
  have hc : ∀ f p, isCmp (cellI f p) ∧ (cellI f p).2 = p := fun f p => by unfold cellI isCmp; split <;> simp
  cases t with
  | var k => exact ⟨_, h.1, .inl ⟨by unfold isCmp; simp, rfl⟩⟩
  | atom k => exact ⟨_, h.1, .inl ⟨by unfold isCmp; simp, rfl⟩⟩
  | num k => exact ⟨_, h.1, .inl ⟨by unfold isCmp; simp, rfl⟩⟩
  | s1 f a => obtain ⟨p, u, la, h1, _, _, _, _, rfl⟩ := h; exact ⟨_, h1, .inr ⟨(hc f p).1, by rw [(hc f p).2]; exact .head _⟩⟩
  | s2 f a b => obtain ⟨p, u, v, la, lb, h1, _, _, _, _, _, _, rfl⟩ := h; exact ⟨_, h1, .inr ⟨(hc f p).1, by rw [(hc f p).2]; exact .head _⟩⟩

/-! ## the numbering of variables -/
noncomputable def idx (Vs : List Int) (k : Int) : Int := (Vs.idxOf k : Int)
noncomputable def addV (Vs : List Int) (k : Int) : List Int := if k ∈ Vs then Vs else Vs ++ [k]
noncomputable def numV (Vs : List Int) (t : Tr) : List Int := t.vars.foldl addV Vs
theorem addV_ext (Vs : List Int) (k : Int) : ∃ E, addV Vs k = Vs ++ E := by
  unfold addV; split
  · exact ⟨[], by simp⟩
  · exact ⟨[k], rfl⟩
theorem addV_mem (Vs : List Int) (k : Int) : k ∈ addV Vs k := by unfold addV; split <;> simp [*]
theorem foldl_ext : ∀ (ks Vs : List Int), ∃ E, ks.foldl addV Vs = Vs ++ E
  | [], Vs => ⟨[], by simp⟩
  | k :: ks, Vs => by
    obtain ⟨E1, h1⟩ := addV_ext Vs k
    obtain ⟨E2, h2⟩ := foldl_ext ks (addV Vs k)
    exact ⟨E1 ++ E2, by rw [List.foldl_cons, h2, h1, List.append_assoc]⟩
theorem foldl_mem : ∀ (ks Vs : List Int), ∀ k ∈ ks, k ∈ ks.foldl addV Vs
  | [], _, _, h => nomatch h
  | k' :: ks, Vs, k, h => by
    rw [List.foldl_cons]
    rcases List.mem_cons.mp h with rfl | h
    · obtain ⟨E, e⟩ := foldl_ext ks (addV Vs k)
      rw [e]; exact List.mem_append_left _ (addV_mem _ _)
    · exact foldl_mem ks _ k h
theorem foldl_sub : ∀ (ks Vs : List Int), ∀ k ∈ ks.foldl addV Vs, k ∈ Vs ∨ k ∈ ks
  | [], _, _, h => .inl h
  | k' :: ks, Vs, k, h => by
    rw [List.foldl_cons] at h
    rcases foldl_sub ks _ k h with h | h
    · unfold addV at h
      split at h
      · exact .inl h
      · rcases List.mem_append.mp h with h | h
        · exact .inl h
        · simp at h; subst h; exact .inr (.head _)
    · exact .inr (.tail _ h)
theorem idx_ext {Vs E : List Int} {k : Int} (h : k ∈ Vs) : idx (Vs ++ E) k = idx Vs k := by
  unfold idx; rw [List.idxOf_append, if_pos h]
theorem Tr.map_congr {φ ψ : Int → Int} : ∀ {t : Tr}, (∀ k ∈ t.vars, φ k = ψ k) → t.map φ = t.map ψ
  | .var k, h => by simp only [Tr.map]; rw [h k (.head _)]
  | .atom _, _ => rfl
  | .num _, _ => rfl
  | .s1 f a, h => by simp only [Tr.map]; rw [Tr.map_congr (t := a) h]
  | .s2 f a b, h => by simp only [Tr.map]; rw [Tr.map_congr (t := a) fun k hk => h k (List.mem_append_left _ hk), Tr.map_congr (t := b) fun k hk => h k (List.mem_append_right _ hk)]
theorem idx_stable {Vs : List Int} {t : Tr} (ks : List Int) : t.map (idx (ks.foldl addV (numV Vs t))) = t.map (idx (numV Vs t)) := by
  refine Tr.map_congr fun k hk => ?_
  obtain ⟨E, e⟩ := foldl_ext ks (numV Vs t)
  rw [e]; exact idx_ext (foldl_mem _ _ _ hk)
theorem Tr.map_size (φ : Int → Int) : ∀ (t : Tr), (t.map φ).size = t.size
  | .var _ => rfl
  | .atom _ => rfl
  | .num _ => rfl
  | .s1 _ a => by simp only [Tr.map, Tr.size, Tr.map_size φ a]
  | .s2 _ a b => by simp only [Tr.map, Tr.size, Tr.map_size φ a, Tr.map_size φ b]

/-! ## tasks -/
inductive Tk where
  | vis (x : Cell) (t : Tr) (l : List (Int × Nat))
  | bld (c : Cell) (f : Int) (as : List Tr) (l : List (Int × Nat))
noncomputable def encTk : Tk → V
  | .vis x _ _ => .tup [.int 0, enc x]
  | .bld c _ _ _ => .tup [.int 1, enc c]
noncomputable def mkT (f : Int) : List Tr → Tr
  | [a] => .s1 f a
  | [a, b] => .s2 f a b
  | _ => .atom 0
noncomputable def run : List Tk → List Tr → List Int → Option (List Tr × List Int)
  | [], R, Vs => some (R, Vs)
  | .vis _ t _ :: Ts, R, Vs => run Ts (R ++ [t.map (idx (numV Vs t))]) (numV Vs t)
  | .bld _ f as _ :: Ts, R, Vs => if as.length ≤ R.length then run Ts (R.take (R.length - as.length) ++ [mkT f (R.drop (R.length - as.length))]) Vs else none
/-- the visits of the arguments that lie from b on -/
noncomputable def kidTk (H : List Cell) : Nat → List Tr → List (List (Int × Nat)) → List Tk
  | _, [], _ => []
  | b, a :: as, ls => .vis ((H[b]?).getD (0, 0)) a ls.head! :: kidTk H (b + 1) as ls.tail
theorem run_node {t : Tr} {f : Int} {as : List Tr} (h : t.kids = some (f, as)) {x c : Cell} {l l' : List (Int × Nat)} {H : List Cell} {b : Nat} {ls : List (List (Int × Nat))} {Ts : List Tk} {R : List Tr} {Vs : List Int} :
    run (kidTk H b as ls ++ .bld c f as l' :: Ts) R Vs = run (.vis x t l :: Ts) R Vs := by
  cases t with
  | s1 g a =>
    simp only [Tr.kids, Option.some.injEq, Prod.mk.injEq] at h; obtain ⟨rfl, rfl⟩ := h
    simp [kidTk, run, mkT, Tr.map, numV, Tr.vars]
  | s2 g a b' =>
    simp only [Tr.kids, Option.some.injEq, Prod.mk.injEq] at h; obtain ⟨rfl, rfl⟩ := h
    simp only [kidTk, run, List.cons_append, List.nil_append, List.length_append, List.length_cons, List.length_nil, Tr.map]
    rw [if_pos (by lia)]
    have e : numV Vs (.s2 g a b') = numV (numV Vs a) b' := by simp [numV, Tr.vars, List.foldl_append]
    have e2 : R.length + 1 + 1 - (0 + 1 + 1) = R.length := by lia
    rw [e, e2]
    simp only [List.append_assoc, List.cons_append, List.nil_append, List.take_left', List.drop_left', mkT]
    rw [show a.map (idx (numV (numV Vs a) b')) = a.map (idx (numV Vs a)) from idx_stable _]
  | _ => cases h
theorem sum_range_succ (zs : Nat → Int) (i : Nat) : ((List.range (i + 1)).map zs).sum = ((List.range i).map zs).sum + zs i := by
  rw [List.range_succ]; simp
inductive WsJ (S : StA) (sd : Addr) (x : Cell) (n : Nat) (zs : Nat → Int) (σ : Sg) (i : Nat) (ρ' : Rho) (σ' : Sg) : Prop
  | mk (hi : i ≤ n) (e : σ' = σ) (r1 : ρ' (Str.ofString "self") = some (.ref S.a)) (r2 : ρ' (Str.ofString "sizes") = some (.ref sd)) (r3 : ρ' (Str.ofString "place") = some (.int (bs x))) (r4 : ρ' (Str.ofString "size") = some (.int (1 + ((List.range i).map zs).sum)))
theorem c_whole_size {B : Base} (hB : IsLaw B) {S : StA} {Y : SyA} {D : Sy} {H : List Cell} {σ : Sg} (st : StoreAt S (H.map enc) σ) (sy : SymAt Y D σ) (hb : S.b = Y.b) (hz : H.length ≤ 100000) (hz2 : D.F.length ≤ 1000) {x : Cell} (hx : CmpOK D.F H x) {sd : Addr} {Sd : List (Int × V)} (hs : σ sd = some (.idict Sd))
    {n : Nat} (hw : wd D.F H x = n) (hn : n ≤ 10) {zs : Nat → Int} (hk : ∀ i, i < n → ∃ u d, H[(bs x).toNat + i]? = some u ∧ Der H u d ∧ ((isCmp d ∧ dget Sd d.2 = some (.int (zs i))) ∨ (¬ isCmp d ∧ zs i = 1))) {Q : V → Sg → Prop} (hQ : Q (.int (1 + ((List.range n).map zs).sum)) σ) : Spec B (.ref 370) 4 [.ref S.a, enc x, .ref sd] σ Q := by
  refine Spec.fn (ok_whole_size hB) rfl fun A gs L r hL => ?_
  have ok := (ok_whole_size hB).okc (gs := gs) (L := L) r
  have st0 := st
  obtain ⟨h1, h2, h3⟩ := st
  unfold StA.fields at h2
  have hp := hx.p
  have hbs : 0 ≤ bs x := by unfold bs; split <;> omega
  refine WSS.cons ?_
  repeat walk_at "e"
  refine WSS.cons ?_
  repeat walk_at "e"
  refine WC.specA r (c_base hB ?_)
  rw [show (if x.1 = 3 then x.2 else x.2 + 1) = bs x from rfl]
  repeat walk_at "e"
  refine WSS.cons ?_
  refine WS.forRange (by walk_at "okt") (WRange.one ?_)
  repeat walk_at "e"
  refine WC.specA r (c_width hB st0 sy hb hz hz2 hx ?_)
  rw [hw]
  repeat walk_at "e"
  refine ⟨small_zero (Int.natCast_nonneg _) (Int.ofNat_le.mpr (Nat.le_trans hn (by decide))), WsJ S sd x n zs σ,
    ⟨Nat.zero_le _, rfl, by walk_at "lk", by walk_at "lk", by walk_at "lk", by walk_at "lk"⟩, ?_, ?_⟩
  rotate_left
  · rw [rangeN_zero (Int.natCast_nonneg _), Int.toNat_natCast]
    rintro ρ2 σ2 ⟨_, rfl, r1, r2, r3, r4⟩
    repeat walk_at "m"
    exact hQ
  rintro g i ρ2 σ2 hi ⟨_, rfl, r1, r2, r3, r4⟩
  rw [rangeN_zero (Int.natCast_nonneg _), Int.toNat_natCast] at hi
  obtain ⟨u, d, hu, hd, hcase⟩ := hk i hi
  obtain ⟨nd, hdn⟩ := hd
  repeat walk_at "e"
  refine WSS.cons ?_
  repeat walk_at "e"
  refine WSub.cells (x := u) (by walk_at "ob") (ar_nn hbs) (by rw [ar_tn hbs]; exact hu) (ar_hm hz) ?_
  repeat walk_at "e"
  refine WC.specA r (c_deref hB st0 hz hdn ?_)
  repeat walk_at "e"
  refine WSS.one ?_
  repeat walk_at "e"
  refine WC.specA r (c_is_compound hB ?_)
  refine isBool ?_
  refine iteB (fun hc => ?_) (fun hc => ?_)
  · rcases hcase with ⟨_, hg⟩ | ⟨hn', _⟩
    · repeat walk_at "m"
      refine WSub.idict (by walk_at "ob") hg ?_
      repeat walk_at "m"
      exact ⟨hi, rfl, by walk_at "lk", by walk_at "lk", by walk_at "lk", by rw [sum_range_succ, ← Int.add_assoc]; walk_at "lk"⟩
    · exact absurd hc hn'
  · rcases hcase with ⟨hc', _⟩ | ⟨_, hone⟩
    · exact absurd hc' hc
    · repeat walk_at "m"
      exact ⟨hi, rfl, by walk_at "lk", by walk_at "lk", by walk_at "lk", by rw [sum_range_succ, ← Int.add_assoc, hone]; walk_at "lk"⟩
theorem dget_put_eq {l : List (Int × V)} {k : Int} {v : V} : dget (dput l k v) k = some v := by
  unfold dget dput
  split
  · rename_i h
    induction l with
    | nil => simp at h
    | cons p l ih =>
      simp only [List.map_cons, List.find?_cons]
      by_cases e : p.1 = k
      · simp [e]
      · simp only [e, decide_false, Bool.false_eq_true, if_false]
        refine ih ?_
        simpa [e] using h
  · rename_i h
    rw [List.find?_append]
    have : l.find? (fun p => decide (p.1 = k)) = none := by
      rw [List.find?_eq_none]
      intro p hp
      have h2 : (l.any fun p => decide (p.1 = k)) = false := by simpa only [Bool.not_eq_true] using h
      rw [List.any_eq_false] at h2
      simpa using h2 p hp
    rw [this]; simp
theorem dget_put_ne {l : List (Int × V)} {k k' : Int} {v : V} (hne : k' ≠ k) : dget (dput l k v) k' = dget l k' := by
  unfold dget dput
  split
  · rename_i h
    clear h
    congr 1
    induction l with
    | nil => rfl
    | cons p l ih =>
      simp only [List.map_cons, List.find?_cons]
      by_cases e : p.1 = k
      · have e2 : ¬ k = k' := fun q => hne q.symm
        have e3 : ¬ p.1 = k' := fun q => e2 (e.symm.trans q)
        simp only [e, decide_true, if_true, e2, decide_false, e3]
        simpa [e2] using ih
      · simp only [e, decide_false, Bool.false_eq_true, if_false]
        by_cases e4 : p.1 = k'
        · simp [e4]
        · simp only [e4, decide_false]; exact ih
  · rw [List.find?_append]
    have e2 : ¬ k = k' := fun q => hne q.symm
    simp [e2]
theorem dput_len (l : List (Int × V)) (k : Int) (v : V) : (dput l k v).length ≤ l.length + 1 := by
  unfold dput; split <;> simp

noncomputable def adr : Tk → List Int
  | .vis _ _ l => l.map (·.1)
  | .bld c _ _ _ => [c.2]
noncomputable def vadr : Tk → List Int
  | .vis _ _ l => l.map (·.1)
  | .bld _ _ _ _ => []
noncomputable def pend : Tk → List (Int × Nat)
  | .vis _ _ l => l
  | .bld c _ as _ => [(c.2, (as.map Tr.size).sum + 1)]
noncomputable def wtT : Tk → Nat
  | .vis _ t _ => 2 * t.size
  | .bld _ _ _ _ => 1
structure NodeOK (F H : List Cell) (c : Cell) (f : Int) (as : List Tr) (l : List (Int × Nat)) : Prop where
  cp : ∃ p, c = cellI f p ∧ 0 ≤ p ∧ (f ≠ 0 → H[p.toNat]? = some (6, f))
  f : 0 ≤ f ∧ f < F.length ∧ ar F f = as.length ∧ (f = 0 → as.length = 2) ∧ (as.length = 1 ∨ as.length = 2) ∧ ∀ a ∈ as, a.okF F
  k : RepL H (bs c).toNat as l
  z : (as.map Tr.size).sum + 1 ≤ 500
structure TI (F H : List Cell) (Ts : List Tk) (R : List Tr) (Vs : List Int) (K S : List (Int × V)) (fin : List Tr × List Int) : Prop where
  run : run Ts R Vs = some fin
  vis : ∀ x t l, Tk.vis x t l ∈ Ts → Rep H t x l ∧ t.okF F
  bld : ∀ c f as l, Tk.bld c f as l ∈ Ts → NodeOK F H c f as l
  nd : (Ts.flatMap adr).Nodup
  kn : ∀ q ∈ Ts.flatMap vadr, dget K q = none
  sz : ∀ pre c f as l post, Ts = pre ++ .bld c f as l :: post → ∀ q ∈ l, dget S q.1 = some (.int q.2) ∨ q ∈ pre.flatMap pend
  sn : ∀ q ∈ Ts.flatMap adr, dget S q = none
  bR : R.length + (Ts.map wtT).sum ≤ 1000
  bK : K.length + (Ts.map wtT).sum ≤ 1000
  bS : S.length + (Ts.map wtT).sum ≤ 1000
  bV : Vs.length + (Ts.map wtT).sum ≤ 1000
theorem vadr_sub : ∀ {Ts : List Tk} {q : Int}, q ∈ Ts.flatMap vadr → q ∈ Ts.flatMap adr := by
  intro Ts q h
  obtain ⟨t, ht, hq⟩ := List.mem_flatMap.mp h
  refine List.mem_flatMap.mpr ⟨t, ht, ?_⟩
  cases t with
  | vis => exact hq
  | bld => simp [vadr] at hq
theorem addV_len (Vs : List Int) (k : Int) : (addV Vs k).length ≤ Vs.length + 1 := by unfold addV; split <;> simp
theorem TI.leaf {F H : List Cell} {Ts : List Tk} {R : List Tr} {Vs : List Int} {K S : List (Int × V)} {fin : List Tr × List Int} {x : Cell} {t : Tr} {l : List (Int × Nat)} (h : TI F H (.vis x t l :: Ts) R Vs K S fin) (hk : t.kids = none) :
    TI F H Ts (R ++ [t.map (idx (numV Vs t))]) (numV Vs t) K S fin := by
  have hl : l = [] := by
    have := (h.vis x t l (.head _)).1
    cases t with
    | s1 => cases hk
    | s2 => cases hk
    | _ => exact this.2
  subst hl
  have hs : 1 ≤ t.size := by cases t <;> simp [Tr.size]
  have hv : (numV Vs t).length ≤ Vs.length + 1 := by
    cases t with
    | s1 => cases hk
    | s2 => cases hk
    | var k => exact addV_len Vs k
    | _ => exact Nat.le_succ _
  refine ⟨h.run, fun x t l hm => h.vis x t l (.tail _ hm), fun c f as l hm => h.bld c f as l (.tail _ hm), ?_, ?_, ?_, fun q hq => h.sn q (by simpa [adr] using hq), ?_, ?_, ?_, ?_⟩
  · have := h.nd; simpa [adr] using this
  · intro q hq; exact h.kn q (by simpa [vadr] using hq)
  · intro pre c f as l post e q hq
    rcases h.sz (.vis x t [] :: pre) c f as l post (by rw [e]; rfl) q hq with h1 | h1
    · exact .inl h1
    · exact .inr (by simpa [pend] using h1)
  · have := h.bR; simp only [List.map_cons, List.sum_cons, wtT, List.length_append, List.length_cons, List.length_nil] at this ⊢; lia
  · have := h.bK; simp only [List.map_cons, List.sum_cons, wtT] at this; lia
  · have := h.bS; simp only [List.map_cons, List.sum_cons, wtT] at this; lia
  · have := h.bV; simp only [List.map_cons, List.sum_cons, wtT] at this; lia
/-- the tasks of a node's arguments -/
theorem RepL.tasks {F H : List Cell} : ∀ {as : List Tr} {b : Nat} {l : List (Int × Nat)}, RepL H b as l → (∀ a ∈ as, a.okF F) → ∃ ls, (∀ x t l', Tk.vis x t l' ∈ kidTk H b as ls → Rep H t x l' ∧ t.okF F) ∧
    (kidTk H b as ls).flatMap pend = l ∧ ((kidTk H b as ls).flatMap adr) = l.map (·.1) ∧ ((kidTk H b as ls).flatMap vadr) = l.map (·.1) ∧ ((kidTk H b as ls).map wtT).sum = 2 * (as.map Tr.size).sum ∧ (∀ c f as' l', Tk.bld c f as' l' ∉ kidTk H b as ls)
  | [], b, l, h, _ => ⟨[], by simp [kidTk], by simp [kidTk, h.symm], by simp [kidTk, h.symm], by simp [kidTk, h.symm], rfl, by simp [kidTk]⟩
  | a :: as, b, l, h, hok => by
    obtain ⟨u, la, l', h1, h2, h3, he⟩ := h
    obtain ⟨ls, x1, x2, x3, x4, x5, x6⟩ := RepL.tasks (F := F) h3 fun a ha => hok a (.tail _ ha)
    subst he
    have e : kidTk H b (a :: as) (la :: ls) = .vis u a la :: kidTk H (b + 1) as ls := by
      show Tk.vis ((H[b]?).getD (0, 0)) a (la :: ls).head! :: kidTk H (b + 1) as (la :: ls).tail = _
      rw [h1]; rfl
    refine ⟨la :: ls, ?_, ?_, ?_, ?_, ?_, ?_⟩ <;> rw [e]
    · intro x t l'' hm
      rcases List.mem_cons.mp hm with hm | hm
      · cases hm; exact ⟨h2, hok _ (.head _)⟩
      · exact x1 x t l'' hm
    · simp [x2, pend]
    · simp [x3, adr]
    · simp [x4, vadr]
    · simp only [List.map_cons, List.sum_cons, x5, wtT]; lia
    · intro c f as' l'' hm
      rcases List.mem_cons.mp hm with hm | hm
      · cases hm
      · exact x6 _ _ _ _ hm
theorem append_cons_bld {A Ts pre post : List Tk} {c c' : Cell} {f f' : Int} {as as' : List Tr} {l l' : List (Int × Nat)} (hA : ∀ c f as l, Tk.bld c f as l ∉ A) (e : A ++ .bld c f as l :: Ts = pre ++ .bld c' f' as' l' :: post) :
    (pre = A ∧ c = c' ∧ f = f' ∧ as = as' ∧ l = l' ∧ Ts = post) ∨ ∃ pre', pre = A ++ .bld c f as l :: pre' ∧ Ts = pre' ++ .bld c' f' as' l' :: post := by
  induction A generalizing pre with
  | nil =>
    cases pre with
    | nil => simp at e; exact .inl ⟨rfl, e.1.1, e.1.2.1, e.1.2.2.1, e.1.2.2.2, e.2⟩
    | cons a pre => simp at e; obtain ⟨rfl, e⟩ := e; exact .inr ⟨pre, rfl, e⟩
  | cons a A ih =>
    cases pre with
    | nil => simp at e; exact absurd (e.1 ▸ List.Mem.head _) (hA c' f' as' l')
    | cons b pre =>
      simp only [List.cons_append, List.cons.injEq] at e
      obtain ⟨rfl, e⟩ := e
      rcases ih (fun c f as l hm => hA c f as l (.tail _ hm)) e with ⟨h1, h2⟩ | ⟨p, h1, h2⟩
      · exact .inl ⟨by rw [h1], h2⟩
      · exact .inr ⟨p, by rw [h1]; rfl, h2⟩
theorem TI.node {F H : List Cell} {Ts : List Tk} {R : List Tr} {Vs : List Int} {K S : List (Int × V)} {fin : List Tr × List Int} {x : Cell} {t : Tr} {l : List (Int × Nat)} (h : TI F H (.vis x t l :: Ts) R Vs K S fin) {f : Int} {as : List Tr} (hk : t.kids = some (f, as)) :
    ∃ p l' ls, Der H x (cellI f p) ∧ NodeOK F H (cellI f p) f as l' ∧ dget K p = none ∧ TI F H (kidTk H (bs (cellI f p)).toNat as ls ++ .bld (cellI f p) f as l' :: Ts) R Vs (dput K p .none) S fin := by
  obtain ⟨hr, hok⟩ := h.vis x t l (.head _)
  obtain ⟨p, l', h1, h2, h3, h4, rfl⟩ := (Rep.node hk).mp hr
  have hko := Tr.kids_ok hk hok
  have hks := Tr.kids_size hk
  obtain ⟨ls, x1, x2, x3, x4, x5, x6⟩ := RepL.tasks (F := F) h4 hko.2.2.2.2.2
  have hp : (cellI f p).2 = p := by unfold cellI; split <;> rfl
  have no : NodeOK F H (cellI f p) f as l' := ⟨⟨p, rfl, h2, h3⟩, hko, h4, by have := h.bR; simp only [List.map_cons, List.sum_cons, wtT] at this; lia⟩
  have nd := h.nd
  simp only [List.flatMap_cons, adr, List.map_cons, List.cons_append, List.nodup_cons, List.mem_append, not_or] at nd
  refine ⟨p, l', ls, h1, no, h.kn p (by simp [vadr]), ?_, ?_, ?_, ?_, ?_, ?_, ?_, ?_, ?_, ?_, ?_⟩
  · rw [run_node hk]; exact h.run
  · intro x' t' l'' hm
    rcases List.mem_append.mp hm with hm | hm
    · exact x1 _ _ _ hm
    · rcases List.mem_cons.mp hm with hm | hm
      · cases hm
      · exact h.vis _ _ _ (.tail _ hm)
  · intro c' f' as' l'' hm
    rcases List.mem_append.mp hm with hm | hm
    · exact absurd hm (x6 _ _ _ _)
    · rcases List.mem_cons.mp hm with hm | hm
      · cases hm; exact no
      · exact h.bld _ _ _ _ (.tail _ hm)
  · rw [List.flatMap_append, x3, List.flatMap_cons]
    simp only [adr, hp, List.cons_append, List.nil_append]
    rw [List.nodup_append] at nd ⊢
    obtain ⟨⟨n1, n2⟩, n3, n4, n5⟩ := nd
    refine ⟨n3, List.nodup_cons.mpr ⟨n2, n4⟩, fun a ha b hb => ?_⟩
    rcases List.mem_cons.mp hb with rfl | hb
    · rintro rfl; exact n1 ha
    · exact n5 a ha b hb
  · intro q hq
    rw [List.flatMap_append, x4, List.flatMap_cons] at hq
    simp only [vadr, List.nil_append] at hq
    have hne : q ≠ p := by
      rintro rfl
      rcases List.mem_append.mp hq with hq | hq
      · exact nd.1.1 hq
      · exact nd.1.2 (vadr_sub hq)
    rw [dget_put_ne hne]
    refine h.kn q ?_
    simp only [List.flatMap_cons, vadr, List.map_cons, List.cons_append, List.mem_cons, List.mem_append]
    rcases List.mem_append.mp hq with hq | hq
    · exact .inr (.inl hq)
    · exact .inr (.inr hq)
  · intro pre c' f' as' l'' post e q hq
    rcases append_cons_bld x6 e with ⟨rfl, rfl, rfl, rfl, rfl, rfl⟩ | ⟨pre', rfl, e2⟩
    · exact .inr (by rw [x2]; exact hq)
    · rcases h.sz (.vis x t ((p, t.size) :: l') :: pre') c' f' as' l'' post (by rw [e2]; rfl) q hq with h5 | h5
      · exact .inl h5
      · right
        rw [List.flatMap_append, x2, List.flatMap_cons]
        simp only [List.flatMap_cons, pend, List.cons_append, List.nil_append, List.mem_append, List.mem_cons, hp] at h5 ⊢
        rw [← hks]
        rcases h5 with h5 | h5 | h5
        · exact .inr (.inl h5)
        · exact .inl h5
        · exact .inr (.inr h5)
  · intro q hq
    refine h.sn q ?_
    rw [List.flatMap_append, x3, List.flatMap_cons] at hq
    simp only [adr, hp, List.flatMap_cons, List.map_cons, List.cons_append, List.nil_append, List.mem_cons, List.mem_append] at hq ⊢
    rcases hq with hq | hq | hq
    · exact .inr (.inl hq)
    · exact .inl hq
    · exact .inr (.inr hq)
  all_goals have hd := dput_len K p .none
  · have := h.bR; simp only [List.map_append, List.map_cons, List.sum_append, List.sum_cons, wtT, x5] at this ⊢; lia
  · have := h.bK; simp only [List.map_append, List.map_cons, List.sum_append, List.sum_cons, wtT, x5] at this ⊢; lia
  · have := h.bS; simp only [List.map_append, List.map_cons, List.sum_append, List.sum_cons, wtT, x5] at this ⊢; lia
  · have := h.bV; simp only [List.map_append, List.map_cons, List.sum_append, List.sum_cons, wtT, x5] at this ⊢; lia
theorem TI.build {F H : List Cell} {Ts : List Tk} {R : List Tr} {Vs : List Int} {K S : List (Int × V)} {fin : List Tr × List Int} {c : Cell} {f : Int} {as : List Tr} {l : List (Int × Nat)} (h : TI F H (.bld c f as l :: Ts) R Vs K S fin) :
    as.length ≤ R.length ∧ (∀ q ∈ l, dget S q.1 = some (.int q.2)) ∧ ∀ v, TI F H Ts (R.take (R.length - as.length) ++ [mkT f (R.drop (R.length - as.length))]) Vs (dput K c.2 v) (dput S c.2 (.int ((as.map Tr.size).sum + 1 : Nat))) fin := by
  have hr := h.run
  simp only [Mine.run] at hr
  split at hr
  · rename_i hle
    have hf := (h.bld _ _ _ _ (.head _)).f
    have hn : 1 ≤ as.length := by rcases hf.2.2.2.2.1 with e | e <;> lia
    have nd := h.nd
    simp only [List.flatMap_cons, adr, List.cons_append, List.nil_append, List.nodup_cons] at nd
    have hS : ∀ q ∈ l, dget S q.1 = some (.int q.2) := fun q hq => by
      rcases h.sz [] c f as l Ts rfl q hq with h1 | h1
      · exact h1
      · simp at h1
    refine ⟨hle, hS, fun v => ⟨hr, fun x t l hm => h.vis x t l (.tail _ hm), fun c f as l hm => h.bld c f as l (.tail _ hm), nd.2, fun q hq => ?_, ?_, ?_, ?_, ?_, ?_, ?_⟩⟩
    · have hne : q ≠ c.2 := by rintro rfl; exact nd.1 (vadr_sub hq)
      rw [dget_put_ne hne]
      exact h.kn q (by simpa [vadr] using hq)
    · intro pre c' f' as' l' post e q hq
      rcases h.sz (.bld c f as l :: pre) c' f' as' l' post (by rw [e]; rfl) q hq with h1 | h1
      · left
        by_cases hq2 : q.1 = c.2
        · rw [hq2, h.sn c.2 (by simp [adr])] at h1; cases h1
        · rw [dget_put_ne hq2]; exact h1
      · simp only [List.flatMap_cons, pend, List.cons_append, List.nil_append, List.mem_cons] at h1
        rcases h1 with h1 | h1
        · left; rw [h1]; exact dget_put_eq
        · exact .inr h1
    · intro q hq
      have hne : q ≠ c.2 := by rintro rfl; exact nd.1 hq
      rw [dget_put_ne hne]
      exact h.sn q (by simp [hq])
    all_goals have hd := dput_len K c.2 v
    all_goals have hd2 := dput_len S c.2 (.int ((as.map Tr.size).sum + 1 : Nat))
    · have := h.bR; simp only [List.map_cons, List.sum_cons, wtT, List.length_append, List.length_take, List.length_cons, List.length_nil] at this ⊢; lia
    · have := h.bK; simp only [List.map_cons, List.sum_cons, wtT] at this ⊢; lia
    · have := h.bS; simp only [List.map_cons, List.sum_cons, wtT] at this ⊢; lia
    · have := h.bV; simp only [List.map_cons, List.sum_cons, wtT] at this ⊢; lia
  · cases hr
noncomputable def numT (Vs : List Int) : List (Int × V) := Vs.zipIdx.map fun p => (p.1, .int p.2)
theorem dget_numT' : ∀ (Vs : List Int) (n : Nat) (k : Int), dget ((Vs.zipIdx n).map fun p => (p.1, V.int p.2)) k = if k ∈ Vs then some (.int ((n + Vs.idxOf k : Nat) : Int)) else none
  | [], n, k => by simp [dget]
  | v :: Vs, n, k => by
    simp only [List.zipIdx_cons, List.map_cons]
    by_cases h : v = k
    · subst h; rw [dget_hit]; simp
    · rw [dget_miss h, dget_numT' Vs (n + 1) k]
      have : ¬ k = v := fun e => h e.symm
      by_cases hm : k ∈ Vs
      · simp only [hm, List.mem_cons, this, false_or, if_true, List.idxOf_cons]
        have h2 : (v == k) = false := by simpa using h
        rw [h2]; simp; omega
      · simp [hm, this]
theorem dget_numT (Vs : List Int) (k : Int) : dget (numT Vs) k = if k ∈ Vs then some (.int (idx Vs k)) else none := by
  unfold numT; rw [dget_numT']; simp [idx]
theorem dput_numT {Vs : List Int} {k : Int} (h : k ∉ Vs) : dput (numT Vs) k (.int Vs.length) = numT (Vs ++ [k]) := by
  have : (numT Vs).any (fun p => decide (p.1 = k)) = false := by
    rw [List.any_eq_false]
    intro p hp
    unfold numT at hp
    obtain ⟨q, hq, rfl⟩ := List.mem_map.mp hp
    have := List.mem_zipIdx hq
    simp only [decide_eq_true_eq]
    rintro rfl
    apply h
    rw [this.2.2]; simp
  unfold dput
  rw [this]
  simp [numT, List.zipIdx_append]
theorem numT_len (Vs : List Int) : (numT Vs).length = Vs.length := by simp [numT]
theorem NodeOK.cmp {F H : List Cell} {c : Cell} {f : Int} {as : List Tr} {l : List (Int × Nat)} (n : NodeOK F H c f as l) : CmpOK F H c ∧ fnOf H c = f ∧ wd F H c = as.length := by
  obtain ⟨p, rfl, hp, hf⟩ := n.cp
  obtain ⟨f0, f1, f2, f3, f4, f5⟩ := n.f
  by_cases e : f = 0
  · subst e
    have e1 : cellI 0 p = (3, p) := rfl
    rw [e1]
    have hfn : fnOf H (3, p) = 0 := rfl
    refine ⟨⟨.inr rfl, hp, fun h => absurd h (by simp)⟩, hfn, ?_⟩
    have := f3 rfl
    show (2 : Int) = _
    omega
  · have e1 : cellI f p = (2, p) := by unfold cellI; rw [if_neg e]
    rw [e1]
    have h1 := hf e
    have hlt := (List.getElem?_eq_some_iff.mp h1).1
    have hfn : fnOf H (2, p) = f := by
      unfold fnOf; rw [if_neg (by simp)]; simp only; rw [h1]; rfl
    refine ⟨⟨.inl rfl, hp, fun _ => ⟨by simp only; omega, by rw [hfn]; exact f0, by rw [hfn]; exact f1⟩⟩, hfn, ?_⟩
    unfold wd; rw [if_neg (by simp), hfn]; exact f2
theorem mkT_enc {f : Int} {R : List Tr} (h : R.length = 1 ∨ R.length = 2) : (mkT f R).enc = .tup [.str (Str.ofString "s"), .int f, .tup (R.map Tr.enc)] := by
  match R, h with
  | [a], _ => rfl
  | [a, b], _ => rfl
theorem sum_get : ∀ (zs : List Int), ((List.range zs.length).map fun i => zs.getD i 0).sum = zs.sum
  | [] => rfl
  | z :: zs => by
    rw [List.length_cons, List.range_succ_eq_map]
    simp only [List.map_cons, List.map_map, List.sum_cons, Function.comp_def, List.getD_cons_zero, List.getD_cons_succ]
    rw [sum_get zs]
theorem DerN.det {H : List Cell} {n : Nat} {x y : Cell} (a : DerN H n x y) : ∀ {m : Nat} {z : Cell}, DerN H m x z → y = z := by
  induction a with
  | here h0 h1 =>
    intro m z b
    cases b with
    | here => rfl
    | self h => exact absurd h h0
    | step h => exact absurd h h0
  | self h0 h1 h2 =>
    intro m z b
    cases b with
    | here h => exact absurd h0 h
    | self => rfl
    | step _ _ e ne => rw [h2] at e; cases e; exact absurd rfl ne
  | step h0 h1 h2 ne _ ih =>
    intro m z b
    cases b with
    | here h => exact absurd h0 h
    | self _ _ e => rw [h2] at e; cases e; exact absurd rfl ne
    | step _ _ e _ b => rw [h2] at e; cases e; exact ih b
theorem Der.det {H : List Cell} {x y z : Cell} (a : Der H x y) (b : Der H x z) : y = z := let ⟨_, a⟩ := a; let ⟨_, b⟩ := b; a.det b
theorem DerN.mono {H H' : List Cell} (h : ∀ (p : Nat) (c : Cell), H[p]? = some c → H'[p]? = some c) {n : Nat} {x y : Cell} (a : DerN H n x y) : DerN H' n x y := by
  induction a with
  | here h0 h1 => exact .here h0 h1
  | self h0 h1 h2 => exact .self h0 h1 (h _ _ h2)
  | step h0 h1 h2 ne _ ih => exact .step h0 h1 (h _ _ h2) ne ih
theorem Der.mono {H H' : List Cell} (h : ∀ (p : Nat) (c : Cell), H[p]? = some c → H'[p]? = some c) {x y : Cell} (a : Der H x y) : Der H' x y := let ⟨n, a⟩ := a; ⟨n, a.mono h⟩
theorem DerN.fin {H : List Cell} {n : Nat} {x y : Cell} (a : DerN H n x y) : Der H y y := by
  induction a with
  | here h0 h1 => exact ⟨0, .here h0 h1⟩
  | self h0 h1 h2 => exact ⟨0, .self h0 h1 h2⟩
  | step _ _ _ _ _ ih => exact ih
theorem Der.swap {H : List Cell} {x d c : Cell} (hd : Der H x d) (hc : Der H x c) : Der H d c := by
  have := hd.det hc
  subst this
  obtain ⟨_, h⟩ := hd
  exact h.fin
theorem Rep.move {H : List Cell} {t : Tr} {x d : Cell} {l : List (Int × Nat)} (h : Rep H t x l) (hd : Der H x d) : Rep H t d l := by
  cases t with
  | var k => exact ⟨hd.swap h.1, h.2⟩
  | atom k => exact ⟨hd.swap h.1, h.2⟩
  | num k => exact ⟨hd.swap h.1, h.2⟩
  | s1 f a => obtain ⟨p, u, la, h1, h2⟩ := h; exact ⟨p, u, la, hd.swap h1, h2⟩
  | s2 f a b => obtain ⟨p, u, v, la, lb, h1, h2⟩ := h; exact ⟨p, u, v, la, lb, hd.swap h1, h2⟩
theorem sum_cast : ∀ (as : List Tr), (as.map fun a => (a.size : Int)).sum = (((as.map Tr.size).sum : Nat) : Int)
  | [] => rfl
  | a :: as => by simp only [List.map_cons, List.sum_cons, sum_cast as]; omega
theorem kidTk_len (H : List Cell) : ∀ (as : List Tr) (b : Nat) (ls : List (List (Int × Nat))), (kidTk H b as ls).length = as.length
  | [], _, _ => rfl
  | a :: as, b, ls => by simp [kidTk, kidTk_len H as]
theorem kidTk_wt (H : List Cell) : ∀ (as : List Tr) (b : Nat) (ls : List (List (Int × Nat))), ((kidTk H b as ls).map wtT).sum = 2 * (as.map Tr.size).sum
  | [], _, _ => rfl
  | a :: as, b, ls => by simp only [kidTk, List.map_cons, List.sum_cons, kidTk_wt H as, wtT]; omega
theorem kidTk_get {H : List Cell} : ∀ {as : List Tr} {b : Nat} {ls : List (List (Int × Nat))} {j : Nat} {u : Cell}, j < as.length → H[b + j]? = some u → ∃ a l, (kidTk H b as ls)[j]? = some (.vis u a l)
  | [], _, _, _, _, h, _ => absurd h (Nat.not_lt_zero _)
  | a :: as, b, ls, 0, u, _, e => ⟨a, ls.head!, by simp only [kidTk, List.getElem?_cons_zero]; rw [show b = b + 0 by rfl, e]; rfl⟩
  | a :: as, b, ls, j + 1, u, h, e => by
    obtain ⟨a', l, h'⟩ := kidTk_get (H := H) (as := as) (b := b + 1) (ls := ls.tail) (j := j) (u := u) (by simpa using h) (by rw [show b + 1 + j = b + (j + 1) by omega]; exact e)
    exact ⟨a', l, by simpa [kidTk] using h'⟩
inductive TkO (W : WA4) (D : Sy) (X : List (Addr × O)) (tb kn sz rs wk : Addr) (H : List Cell) (fin : List Tr × List Int) (n : Nat) (ρ' : Rho) (σ' : Sg) : Prop
  | mk (Ts : List Tk) (R : List Tr) (Us : List Int) (K S : List (Int × V)) (hn : n = (Ts.map wtT).sum) (ti : TI D.F H Ts R Us K S fin)
    (r1 : ρ' (Str.ofString "self") = some (.ref W.S.a)) (r2 : ρ' (Str.ofString "table") = some (.ref tb)) (r3 : ρ' (Str.ofString "known") = some (.ref kn)) (r4 : ρ' (Str.ofString "sizes") = some (.ref sz)) (r5 : ρ' (Str.ofString "results") = some (.ref rs)) (r6 : ρ' (Str.ofString "work") = some (.ref wk))
    (w : Wd W H D ((wk, .list (Ts.reverse.map encTk)) :: (rs, .list (R.map Tr.enc)) :: (sz, .idict S) :: (kn, .idict K) :: (tb, .idict (numT Us)) :: X) σ')
inductive TkI (W : WA4) (D : Sy) (X : List (Addr × O)) (tb kn sz rs wk : Addr) (H : List Cell) (R : List Tr) (Us : List Int) (K S : List (Int × V)) (Ts : List Tk) (c : Cell) (f : Int) (as : List Tr) (l2 : List (Int × Nat)) (ls : List (List (Int × Nat))) (i : Nat) (ρ' : Rho) (σ' : Sg) : Prop
  | mk (hi : i ≤ as.length)
    (r1 : ρ' (Str.ofString "self") = some (.ref W.S.a)) (r2 : ρ' (Str.ofString "table") = some (.ref tb)) (r3 : ρ' (Str.ofString "known") = some (.ref kn)) (r4 : ρ' (Str.ofString "sizes") = some (.ref sz)) (r5 : ρ' (Str.ofString "results") = some (.ref rs)) (r6 : ρ' (Str.ofString "work") = some (.ref wk)) (r7 : ρ' (Str.ofString "place") = some (.int (bs c)))
    (w : Wd W H D ((wk, .list (((kidTk H (bs c).toNat as ls).drop (as.length - i) ++ Tk.bld c f as l2 :: Ts).reverse.map encTk)) :: (rs, .list (R.map Tr.enc)) :: (sz, .idict S) :: (kn, .idict (dput K c.2 .none)) :: (tb, .idict (numT Us)) :: X) σ')
theorem c_take_term {B : Base} (hB : IsLaw B) {W : WA4} {D : Sy} {X : List (Addr × O)} {tb : Addr} {Vs : List Int} {H : List Cell} {σ : Sg} (w : Wd W H D ((tb, .idict (numT Vs)) :: X) σ) (hz2 : D.F.length ≤ 1000) {x : Cell} {t : Tr} {l : List (Int × Nat)}
    (hr : Rep H t x l) (hok : t.okF D.F) (nd : (l.map (·.1)).Nodup) (ts : t.size ≤ 200) (hV : Vs.length ≤ 300) (hH : H.length ≤ 10000) {Q : V → Sg → Prop}
    (hQ : ∀ σ', Wd W H D ((tb, .idict (numT (numV Vs t))) :: X) σ' → Q (t.map (idx (numV Vs t))).enc σ') : Spec B (.ref 377) 5 [.ref W.S.a, enc x, .ref tb] σ Q := by
  refine Spec.fn (ok_take_term hB) rfl fun A gs L r hL => ?_
  have ok := (ok_take_term hB).okc (gs := gs) (L := L) r
  have zH := ar_hun hH
  obtain ⟨d0, hd0, hc0⟩ := hr.der
  walk_at "wd"
  refine WSS.cons ?_
  repeat walk_at "e"
  refine WE.idict fun kn hkn => ?_
  have w1 := w.put (o := .idict []) hkn
  generalize upd σ kn (.idict []) = σ1 at w1
  repeat walk_at "m"
  refine WE.idict fun sz hsz => ?_
  have w2 := w1.put (o := .idict []) hsz
  generalize upd σ1 sz (.idict []) = σ2 at w2
  repeat walk_at "m"
  intro rs hrs
  have w3 := w2.put (o := .list []) hrs
  generalize upd σ2 rs (.list []) = σ3 at w3
  walk_at "wd"
  repeat walk_at "m"
  refine WC.specA r (c_globalise hB w3.st zH hd0 ?_)
  repeat walk_at "m"
  intro wk hwk
  have w4 := w3.put (o := .list (([.vis d0 t l] : List Tk).reverse.map encTk)) hwk
  rw [show ([.tup [.int 0, enc d0]] : List V) = ([.vis d0 t l] : List Tk).reverse.map encTk from rfl]
  generalize upd σ3 wk (.list (([.vis d0 t l] : List Tk).reverse.map encTk)) = σ4 at w4
  walk_at "wd"
  repeat walk_at "e"
  have ti0 : TI D.F H [.vis d0 t l] [] Vs [] [] ([t.map (idx (numV Vs t))], numV Vs t) := by
    refine ⟨by simp [run], fun x' t' l' hm => ?_, fun c f as l' hm => by simp at hm, by simpa [adr] using nd, fun q _ => rfl, fun pre c f as l' post e => ?_, fun q _ => rfl, ?_, ?_, ?_, ?_⟩
    · simp only [List.mem_singleton] at hm; cases hm; exact ⟨hr.move hd0, hok⟩
    · cases pre with
      | nil => simp at e
      | cons a pre => simp at e
    all_goals simp [wtT]; omega
  refine WSS.cut (fun ρ' σ' => ρ' (Str.ofString "results") = some (.ref rs) ∧ Wd W H D ((rs, .list [(t.map (idx (numV Vs t))).enc]) :: (tb, .idict (numT (numV Vs t))) :: X) σ') ?_ ?_
  rotate_left
  · rintro ρ' σ' ⟨rm, w5⟩
    walk_at "wd"
    repeat walk_at "m"
    exact hQ σ' w5.tl
  refine WS.loop (TkO W D X tb kn sz rs wk H ([t.map (idx (numV Vs t))], numV Vs t)) _ ⟨_, _, _, _, _, rfl, ti0, by walk_at "lk", by walk_at "lk", by walk_at "lk", by walk_at "lk", by walk_at "lk", by walk_at "lk", w4⟩ ?_
  clear w1 w2 w3 w4 ti0 hkn hsz hrs hwk
  rintro n ρ1 σ5 ⟨Ts, R, Us, K, S, rfl, ti, r1, r2, r3, r4, r5, r6, w5⟩
  have bR := ti.bR
  have bK := ti.bK
  have bS := ti.bS
  have bV := ti.bV
  have tsl : Ts.length ≤ (Ts.map wtT).sum := by
    clear ti w5 bR bK bS bV
    induction Ts with
    | nil => simp
    | cons a Ts ih =>
      have h1 : 1 ≤ wtT a := by
        cases a with
        | vis x t l => have : 1 ≤ t.size := by cases t <;> simp [Tr.size]
                       simp only [wtT]; omega
        | bld => simp [wtT]
      simp only [List.length_cons, List.map_cons, List.sum_cons]; omega
  walk_at "wd"
  repeat walk_at "e"
  refine iteB (fun hlt => ?_) (fun hge => ?_)
  rotate_left
  · have hT : Ts = [] := by
      cases Ts with
      | nil => rfl
      | cons a Ts => simp at hge
    subst hT
    have hrun := ti.run
    simp only [run, Option.some.injEq, Prod.mk.injEq] at hrun
    obtain ⟨rfl, rfl⟩ := hrun
    repeat walk_at "m"
    exact ⟨rfl, r5, w5.sub (.cons _ (.cons_cons _ (.cons _ (.cons _ (.refl _)))))⟩
  cases Ts with
  | nil => simp at hlt
  | cons T0 Ts =>
  have hrev : ((T0 :: Ts).reverse.map encTk) = Ts.reverse.map encTk ++ [encTk T0] := by simp
  rw [hrev] at w5
  simp only [List.map_cons, List.sum_cons, List.length_cons] at bR bK bS bV tsl ⊢
  have zR : (R.map Tr.enc).length ≤ 1000000 := by rw [List.length_map]; exact ar_mil bR
  have zK : K.length ≤ 1000000 := ar_mil bK
  have zS : S.length ≤ 1000000 := ar_mil bS
  have zU : (numT Us).length ≤ 1000000 := by rw [numT_len]; exact ar_mil bV
  have zW : (Ts.reverse.map encTk).length ≤ 1000000 := by rw [List.length_map, List.length_reverse]; exact ar_mil2 tsl bR
  walk_at "wd"
  refine WSS.cons ?_
  repeat walk_at "e"
  refine WC.pop (by walk_at "ob") zW ?_
  have w6 := w5.set0 (o' := .list (Ts.reverse.map encTk))
  generalize upd σ5 wk (.list (Ts.reverse.map encTk)) = σ6 at w6
  clear w5
  walk_at "wd"
  cases T0 with
  | bld c f as l' =>
    have no := ti.bld _ _ _ _ (.head _)
    obtain ⟨cmpc, hfn, hwd⟩ := no.cmp
    obtain ⟨hle, hS, hnext⟩ := ti.build
    have hf := no.f
    have hwt : wtT (.bld c f as l') = 1 := rfl
    rw [hwt] at bR bK bS bV tsl ⊢
    repeat walk_at "m"
    refine iteB (fun _ => ?_) (fun h => absurd rfl h)
    repeat walk_at "m"
    refine WC.specA r (c_functor_of hB w6.st zH cmpc ?_)
    rw [hfn]
    repeat walk_at "m"
    refine WC.specA r (c_width hB w6.st w6.sy w6.ap.b zH hz2 cmpc ?_)
    rw [hwd, List.length_map]
    repeat walk_at "m"
    rw [← Int.ofNat_sub hle]
    have hRl : (R.drop (R.length - as.length)).length = as.length := by rw [List.length_drop]; exact Nat.sub_sub_self hle
    have hml : R.length - as.length ≤ R.length := Nat.sub_le _ _
    generalize R.length - as.length = m at hnext hRl hml ⊢
    have zD : ((R.drop m).map Tr.enc).length ≤ 1000000 := by rw [List.length_map, hRl]; exact Nat.le_trans (ar_10 hf.2.2.2.2.1) (by decide)
    have zTk : ((R.take m).map Tr.enc).length ≤ 1000000 := by rw [List.length_map, List.length_take]; exact Nat.le_trans (Nat.min_le_right _ _) (ar_mil bR)
    refine ⟨rs, _, (R.drop m).map Tr.enc, rfl, by walk_at "ob", zR, ?_, fun sl hsl => ?_⟩
    · show (if (0 : Int) ≤ (m : Int) then some ((R.map Tr.enc).drop (m : Int).toNat) else none) = _
      rw [if_pos (Int.natCast_nonneg _), Int.toNat_natCast, List.map_drop]
    have w7 := w6.put (o := .list ((R.drop m).map Tr.enc)) hsl
    generalize upd σ6 sl (.list ((R.drop m).map Tr.enc)) = σ7 at w7
    walk_at "wd"
    repeat walk_at "m"
    refine WC.tuple_list (by walk_at "ob") zD ?_
    repeat walk_at "m"
    refine WS.delFrom ?_
    repeat walk_at "m"
    refine ⟨rs, _, rfl, by walk_at "ob", Int.natCast_nonneg _, by rw [List.length_map]; exact Int.ofNat_le.mpr hml, zR, ?_⟩
    rw [Int.toNat_natCast, ← List.map_take]
    have w8 := w7.set2 (o' := .list ((R.take m).map Tr.enc))
    generalize upd σ7 rs (.list ((R.take m).map Tr.enc)) = σ8 at w8
    walk_at "wd"
    repeat walk_at "m"
    have eT : (V.tup [.str (Str.ofString "s"), .int f, .tup ((R.drop m).map Tr.enc)]) = (mkT f (R.drop m)).enc := (mkT_enc (by rw [hRl]; exact hf.2.2.2.2.1)).symm
    rw [eT]
    refine WSet.idict (by walk_at "ob") zK ?_
    have w9 := w8.set4 (o' := .idict (dput K c.2 (mkT f (R.drop m)).enc))
    generalize upd σ8 kn (.idict (dput K c.2 (mkT f (R.drop m)).enc)) = σ9 at w9
    walk_at "wd"
    repeat walk_at "m"
    refine WC.specA r (c_whole_size hB w9.st w9.sy w9.ap.b zH hz2 cmpc w9.x3 hwd (ar_10 hf.2.2.2.2.1) (zs := fun i => (as.map fun a => (a.size : Int)).getD i 0) (fun i hi => ?_) ?_)
    · obtain ⟨u, la, hu, hra, hsub⟩ := no.k.get (List.getElem?_eq_getElem hi)
      obtain ⟨dd, hdd, hcc⟩ := hra.der
      have hz : (as.map fun a => (a.size : Int)).getD i 0 = ((as[i].size : Nat) : Int) := by
        rw [List.getD_eq_getElem?_getD, List.getElem?_map, List.getElem?_eq_getElem hi]; rfl
      refine ⟨u, dd, hu, hdd, ?_⟩
      rcases hcc with ⟨h1, h2⟩ | ⟨h1, h2⟩
      · exact .inr ⟨h1, by rw [hz, h2]; rfl⟩
      · exact .inl ⟨h1, by rw [hS _ (hsub _ h2), hz]⟩
    have hsum : (1 : Int) + ((List.range as.length).map fun i => (as.map fun a => (a.size : Int)).getD i 0).sum = (((as.map Tr.size).sum + 1 : Nat) : Int) := by
      have := sum_get (as.map fun a => (a.size : Int))
      rw [List.length_map] at this
      rw [this, sum_cast, Int.add_comm]; rfl
    rw [hsum]
    repeat walk_at "m"
    refine WSet.idict (by walk_at "ob") zS ?_
    have w10 := w9.set3 (o' := .idict (dput S c.2 (.int ((as.map Tr.size).sum + 1 : Nat))))
    generalize upd σ9 sz (.idict (dput S c.2 (.int ((as.map Tr.size).sum + 1 : Nat)))) = σ10 at w10
    walk_at "wd"
    repeat walk_at "m"
    refine WSub.idict (by walk_at "ob") dget_put_eq ?_
    repeat walk_at "m"
    have hz5 := no.z
    refine iteB (fun h => absurd h (ar_big hz5)) fun _ => ?_
    repeat walk_at "m"
    have w11 := w10.set2 (o' := .list ((R.take m ++ [mkT f (R.drop m)]).map Tr.enc))
    rw [show (R.take m).map Tr.enc ++ [(mkT f (R.drop m)).enc] = (R.take m ++ [mkT f (R.drop m)]).map Tr.enc by simp]
    exact whileQ_cont (Ts.map wtT).sum (Nat.lt_add_of_pos_left Nat.one_pos) ⟨Ts, _, Us, _, _, rfl, hnext _, by walk_at "lk", by walk_at "lk", by walk_at "lk", by walk_at "lk", by walk_at "lk", by walk_at "lk", w11.tl⟩
  | vis x' t' l' =>
    obtain ⟨hrep, hok'⟩ := ti.vis _ _ _ (.head _)
    have hwt : wtT (.vis x' t' l') = 2 * t'.size := rfl
    rw [hwt] at bR bK bS bV tsl ⊢
    obtain ⟨dd, ⟨nd', hdd⟩, _⟩ := hrep.der
    repeat walk_at "m"
    refine iteB (fun h => absurd h (by decide)) (fun _ => ?_)
    repeat walk_at "m"
    cases hk : t'.kids with
    | none =>
      have tin := ti.leaf hk
      cases t' with
      | s1 _ _ => cases hk
      | s2 _ _ _ => cases hk
      | var k =>
        obtain ⟨⟨_, hd1⟩, _⟩ := hrep
        refine WC.specA r (c_deref hB w6.st zH hd1 ?_)
        repeat walk_at "m"
        refine iteB (fun _ => ?_) (fun h => absurd rfl h)
        repeat walk_at "m"
        rw [dget_numT]
        by_cases hm : k ∈ Us
        · have eN : numV Us (.var k) = Us := by simp [numV, Tr.vars, addV, hm]
          rw [eN] at tin
          rw [if_pos hm]
          refine iteV (fun h => by simp at h) (fun _ => ?_)
          repeat walk_at "m"
          refine WSub.idict (by walk_at "ob") (by rw [dget_numT, if_pos hm]) ?_
          repeat walk_at "m"
          have w7 := w6.set1 (o' := .list ((R ++ [Tr.var (idx Us k)]).map Tr.enc))
          rw [show R.map Tr.enc ++ [.tup [.str (Str.ofString "v"), .int (idx Us k)]] = (R ++ [Tr.var (idx Us k)]).map Tr.enc by simp [Tr.enc]]
          exact whileQ_next (Ts.map wtT).sum (Nat.lt_add_of_pos_left (show 0 < 2 * 1 by decide)) ⟨Ts, _, Us, _, _, rfl, tin, by walk_at "lk", by walk_at "lk", by walk_at "lk", by walk_at "lk", by walk_at "lk", by walk_at "lk", w7⟩
        · have eN : numV Us (.var k) = Us ++ [k] := by simp [numV, Tr.vars, addV, hm]
          rw [eN] at tin
          rw [if_neg hm]
          refine iteV (fun _ => ?_) (fun h => by simp at h)
          repeat walk_at "m"
          rw [numT_len]
          repeat walk_at "m"
          refine WSet.idict (by walk_at "ob") zU ?_
          rw [show dput (numT Us) ((0, k) : Cell).2 (.int Us.length) = numT (Us ++ [k]) from dput_numT hm]
          have w7 := Wd.set (X1 := [_, _, _, _]) (o' := .idict (numT (Us ++ [k]))) w6
          generalize upd σ6 tb (.idict (numT (Us ++ [k]))) = σ7 at w7
          simp only [List.cons_append, List.nil_append] at w7
          walk_at "wd"
          repeat walk_at "m"
          refine WSub.idict (by walk_at "ob") (by rw [dget_numT, if_pos (by simp)]) ?_
          repeat walk_at "m"
          have w8 := w7.set1 (o' := .list ((R ++ [Tr.var (idx (Us ++ [k]) k)]).map Tr.enc))
          rw [show R.map Tr.enc ++ [.tup [.str (Str.ofString "v"), .int (idx (Us ++ [k]) k)]] = (R ++ [Tr.var (idx (Us ++ [k]) k)]).map Tr.enc by simp [Tr.enc]]
          exact whileQ_next (Ts.map wtT).sum (Nat.lt_add_of_pos_left (show 0 < 2 * 1 by decide)) ⟨Ts, _, _, _, _, rfl, tin, by walk_at "lk", by walk_at "lk", by walk_at "lk", by walk_at "lk", by walk_at "lk", by walk_at "lk", w8⟩
      | atom n =>
        obtain ⟨⟨_, hd1⟩, _⟩ := hrep
        refine WC.specA r (c_deref hB w6.st zH hd1 ?_)
        repeat walk_at "m"
        refine iteB (fun h => absurd h (by simp)) (fun _ => ?_)
        repeat walk_at "m"
        refine iteB (fun _ => ?_) (fun h => absurd rfl h)
        repeat walk_at "m"
        have w7 := w6.set1 (o' := .list ((R ++ [Tr.atom n]).map Tr.enc))
        rw [show R.map Tr.enc ++ [.tup [.str (Str.ofString "a"), .int n]] = (R ++ [Tr.atom n]).map Tr.enc by simp [Tr.enc]]
        exact whileQ_next (Ts.map wtT).sum (Nat.lt_add_of_pos_left (show 0 < 2 * 1 by decide)) ⟨Ts, _, Us, _, _, rfl, tin, by walk_at "lk", by walk_at "lk", by walk_at "lk", by walk_at "lk", by walk_at "lk", by walk_at "lk", w7⟩
      | num n =>
        obtain ⟨⟨_, hd1⟩, _⟩ := hrep
        refine WC.specA r (c_deref hB w6.st zH hd1 ?_)
        repeat walk_at "m"
        refine iteB (fun h => absurd h (by simp)) (fun _ => ?_)
        repeat walk_at "m"
        refine iteB (fun h => absurd h (by simp)) (fun _ => ?_)
        repeat walk_at "m"
        refine iteB (fun _ => ?_) (fun h => absurd rfl h)
        repeat walk_at "m"
        have w7 := w6.set1 (o' := .list ((R ++ [Tr.num n]).map Tr.enc))
        rw [show R.map Tr.enc ++ [.tup [.str (Str.ofString "i"), .int n]] = (R ++ [Tr.num n]).map Tr.enc by simp [Tr.enc]]
        exact whileQ_next (Ts.map wtT).sum (Nat.lt_add_of_pos_left (show 0 < 2 * 1 by decide)) ⟨Ts, _, Us, _, _, rfl, tin, by walk_at "lk", by walk_at "lk", by walk_at "lk", by walk_at "lk", by walk_at "lk", by walk_at "lk", w7⟩
    | some fa =>
      obtain ⟨f, as⟩ := fa
      obtain ⟨p, l2, ls, hder, no, hKn, tin⟩ := ti.node hk
      obtain ⟨cmpc, hfn, hwd⟩ := no.cmp
      have hf := no.f
      have hks := Tr.kids_size hk
      have hcp : (cellI f p).2 = p := by unfold cellI; split <;> rfl
      have htag : (cellI f p).1 = 2 ∨ (cellI f p).1 = 3 := by unfold cellI; split <;> simp
      obtain ⟨_, hd1⟩ := hder
      rw [← hcp] at hKn
      have hdK : dput K p V.none = dput K (cellI f p).2 V.none := by rw [hcp]
      rw [hdK] at tin
      generalize cellI f p = c at hd1 no cmpc hfn hwd hKn htag tin
      refine WC.specA r (c_deref hB w6.st zH hd1 ?_)
      repeat walk_at "m"
      refine iteB (fun h => by rcases htag with e | e <;> (rw [e] at h; exact absurd h (by decide))) (fun _ => ?_)
      repeat walk_at "m"
      refine iteB (fun h => by rcases htag with e | e <;> (rw [e] at h; exact absurd h (by decide))) (fun _ => ?_)
      repeat walk_at "m"
      refine iteB (fun h => by rcases htag with e | e <;> (rw [e] at h; exact absurd h (by decide))) (fun _ => ?_)
      repeat walk_at "m"
      rw [hKn]
      refine iteV (fun h => by simp at h) (fun _ => ?_)
      repeat walk_at "m"
      refine WSet.idict (by walk_at "ob") zK ?_
      have w7 := w6.set3 (o' := .idict (dput K c.2 .none))
      generalize upd σ6 kn (.idict (dput K c.2 .none)) = σ7 at w7
      walk_at "wd"
      repeat walk_at "m"
      have eW : Ts.reverse.map encTk ++ [.tup [.int 1, enc c]] = (Tk.bld c f as l2 :: Ts).reverse.map encTk := by simp [encTk]
      rw [eW]
      have w8 := w7.set0 (o' := .list ((Tk.bld c f as l2 :: Ts).reverse.map encTk))
      generalize upd σ7 wk (.list ((Tk.bld c f as l2 :: Ts).reverse.map encTk)) = σ8 at w8
      walk_at "wd"
      refine WC.specA r (c_base hB ?_)
      rw [show (if c.1 = 3 then c.2 else c.2 + 1) = bs c from rfl]
      repeat walk_at "e"
      refine WSS.one ?_
      refine WS.forRange (by walk_at "okt") (WRange.three ?_)
      repeat walk_at "e"
      refine WC.specA r (c_width hB w8.st w8.sy w8.ap.b zH hz2 cmpc ?_)
      rw [hwd]
      repeat walk_at "e"
      have hn := hf.2.2.2.2.1
      have hrg : rangeN ((as.length : Int) - 1) (-1) (-1) = as.length := by rcases hn with e | e <;> rw [e] <;> rfl
      have hkl := kidTk_len H as (bs c).toNat ls
      have hkw := kidTk_wt H as (bs c).toNat ls
      have hbs : 0 ≤ bs c := by have := cmpc.p; unfold bs; split <;> omega
      refine ⟨by decide, by decide, by rcases hn with e | e <;> rw [e] <;> rfl, TkI W D X tb kn sz rs wk H R Us K S Ts c f as l2 ls,
        ⟨Nat.zero_le _, by walk_at "lk", by walk_at "lk", by walk_at "lk", by walk_at "lk", by walk_at "lk", by walk_at "lk", by walk_at "lk", by rw [Nat.sub_zero, ← hkl, List.drop_length, List.nil_append]; exact w8⟩, ?_, ?_⟩
      rotate_left
      · rw [hrg]
        rintro ρ2 σ9 ⟨_, r1, r2, r3, r4, r5, r6, r7, w9⟩
        rw [Nat.sub_self, List.drop_zero] at w9
        have hlt2 : (((kidTk H (bs c).toNat as ls ++ Tk.bld c f as l2 :: Ts)).map wtT).sum < 2 * t'.size + (Ts.map wtT).sum := by
          rw [List.map_append, List.sum_append, hkw, List.map_cons, List.sum_cons]
          simp only [wtT]; exact ar_lt hks
        repeat walk_at "m"
        exact whileQ_next _ hlt2 ⟨_, R, Us, _, S, rfl, tin, r1, r2, r3, r4, r5, r6, w9⟩
      rintro g i ρ2 σ9 hi ⟨_, r1, r2, r3, r4, r5, r6, r7, w9⟩
      rw [hrg] at hi
      have hj : as.length - 1 - i < as.length := ar_j hi
      obtain ⟨u, la, hu, _, _⟩ := no.k.get (List.getElem?_eq_getElem hj)
      obtain ⟨a, l3, hkg⟩ := kidTk_get (ls := ls) hj hu
      have hkg2 := (List.getElem?_eq_some_iff.mp hkg)
      obtain ⟨hkg1, hkg2⟩ := hkg2
      have hdrop : (kidTk H (bs c).toNat as ls).drop (as.length - (i + 1)) = .vis u a l3 :: (kidTk H (bs c).toNat as ls).drop (as.length - i) := by
        rw [ar_s, List.drop_eq_getElem_cons hkg1, hkg2, ar_u hi]
      have hplt := (List.getElem?_eq_some_iff.mp hu).1
      walk_at "wd"
      repeat walk_at "m"
      refine WSub.cells (x := u) (by walk_at "ob") (ar_nn2 hbs hi) (by rw [ar_tm hbs hi]; exact hu) (ar_hm zH) ?_
      have zA : ((((kidTk H (bs c).toNat as ls).drop (as.length - i) ++ Tk.bld c f as l2 :: Ts).reverse.map encTk)).length ≤ 1000000 := by
        rw [List.length_map, List.length_reverse, List.length_append, List.length_drop, hkl, List.length_cons]; exact ar_A hn (Nat.le_trans (Nat.le_trans (Nat.le_succ _) tsl) (Nat.le_trans (Nat.le_add_left _ _) bR))
      repeat walk_at "m"
      have w10 := w9.set0 (o' := .list (((kidTk H (bs c).toNat as ls).drop (as.length - (i + 1)) ++ Tk.bld c f as l2 :: Ts).reverse.map encTk))
      have eL : ((kidTk H (bs c).toNat as ls).drop (as.length - i) ++ Tk.bld c f as l2 :: Ts).reverse.map encTk ++ [.tup [.int 0, enc u]] = ((kidTk H (bs c).toNat as ls).drop (as.length - (i + 1)) ++ Tk.bld c f as l2 :: Ts).reverse.map encTk := by
        rw [hdrop]; simp [encTk]
      rw [eL]
      exact ⟨hi, by walk_at "lk", by walk_at "lk", by walk_at "lk", by walk_at "lk", by walk_at "lk", by walk_at "lk", by walk_at "lk", w10⟩
/-! ## copy, on trees -/
structure CE where
  c : Cell
  f : Int
  as : List Tr
  l : List (Int × Nat)
  s : Nat
noncomputable def CE.v (e : CE) : V := .tup [enc e.c, enc (cellOf e.f e.s)]
noncomputable def CE.pl (e : CE) : List (Nat × Tr) := places (e.s + hdf e.f) e.as
noncomputable def flatC (E : List CE) : List (Nat × Tr) := E.flatMap CE.pl
noncomputable def adrC (E : List CE) : List Int := E.flatMap fun e => e.l.map (·.1)
noncomputable def msrC (E : List CE) : Nat := (E.map fun e => 1 + (e.as.map Tr.size).sum).sum
theorem NodeOK.cmpH {F Ho Hc : List Cell} {c : Cell} {f : Int} {as : List Tr} {l : List (Int × Nat)} (n : NodeOK F Ho c f as l) (pre : ∀ (p : Nat) (c : Cell), Ho[p]? = some c → Hc[p]? = some c) : CmpOK F Hc c ∧ fnOf Hc c = f ∧ wd F Hc c = as.length := by
  obtain ⟨p, rfl, hp, hf⟩ := n.cp
  obtain ⟨f0, f1, f2, f3, f4, f5⟩ := n.f
  by_cases e : f = 0
  · subst e
    have e1 : cellI 0 p = (3, p) := rfl
    rw [e1]
    have hfn : fnOf Hc (3, p) = 0 := rfl
    refine ⟨⟨.inr rfl, hp, fun h => absurd h (by simp)⟩, hfn, ?_⟩
    have := f3 rfl
    show (2 : Int) = _
    lia
  · have e1 : cellI f p = (2, p) := by unfold cellI; rw [if_neg e]
    rw [e1]
    have h1 := pre _ _ (hf e)
    have hlt := (List.getElem?_eq_some_iff.mp h1).1
    have hfn : fnOf Hc (2, p) = f := by
      unfold fnOf; rw [if_neg (by simp)]; simp only; rw [h1]; rfl
    refine ⟨⟨.inl rfl, hp, fun _ => ⟨by simp only; lia, by rw [hfn]; exact f0, by rw [hfn]; exact f1⟩⟩, hfn, ?_⟩
    unfold wd; rw [if_neg (by simp), hfn]; exact f2
theorem Rep.nodeOK {F Ho : List Cell} {t : Tr} {x : Cell} {l : List (Int × Nat)} {f : Int} {as : List Tr} (h : t.kids = some (f, as)) (r : Rep Ho t x l) (k : t.okF F) (z : t.size ≤ 500) : ∃ p l', Der Ho x (cellI f p) ∧ NodeOK F Ho (cellI f p) f as l' ∧ l = (p, t.size) :: l' := by
  obtain ⟨p, l', h1, h2, h3, h4, rfl⟩ := (Rep.node h).mp r
  exact ⟨p, l', h1, ⟨⟨p, rfl, h2, h3⟩, Tr.kids_ok h k, h4, by have := Tr.kids_size h; lia⟩, rfl⟩
theorem cellI_2 (f p : Int) : (cellI f p).2 = p := by unfold cellI; split <;> rfl
theorem cellI_cmp (f p : Int) : isCmp (cellI f p) := by unfold cellI isCmp; split <;> simp
structure CI (F Ho : List Cell) (L : Nat) (N : List Cell) (T : List (Int × Cell)) (Qr : List (Nat × Tr)) (ar : List Int) (E : List CE) (Md : List (Int × V)) (N' : List Cell) (T' : List (Int × Cell)) : Prop where
  pi : PI F L N T (Qr ++ flatC E) N' T'
  ok : ∀ e ∈ E, NodeOK F Ho e.c e.f e.as e.l
  nd : (ar ++ adrC E).Nodup
  md : ∀ q ∈ ar ++ adrC E, dget Md q = none
  mz : Md.length + qsz (Qr ++ flatC E) ≤ 1000
theorem CI.next {F Ho : List Cell} {L : Nat} {N : List Cell} {T : List (Int × Cell)} {e : CE} {E : List CE} {Md : List (Int × V)} {N' : List Cell} {T' : List (Int × Cell)} (h : CI F Ho L N T [] [] (e :: E) Md N' T') :
    CI F Ho L N T e.pl (e.l.map (·.1)) E Md N' T' ∧ NodeOK F Ho e.c e.f e.as e.l := by
  obtain ⟨pi, ok, nd, md, mz⟩ := h
  have e1 : flatC (e :: E) = e.pl ++ flatC E := by simp [flatC]
  have e2 : adrC (e :: E) = e.l.map (·.1) ++ adrC E := by simp [adrC]
  rw [List.nil_append, e1] at pi mz
  rw [List.nil_append, e2] at nd md
  exact ⟨⟨pi, fun e he => ok e (.tail _ he), nd, md, mz⟩, ok e (.head _)⟩
section
variable {F Ho : List Cell} {L : Nat} {N : List Cell} {T : List (Int × Cell)} {p : Nat} {Qr : List (Nat × Tr)} {ar : List Int} {E : List CE} {Md : List (Int × V)} {N' : List Cell} {T' : List (Int × Cell)} {k n : Int}
theorem CI.mzt {t : Tr} (h : Md.length + qsz (((p, t) :: Qr) ++ flatC E) ≤ 1000) : Md.length + qsz (Qr ++ flatC E) ≤ 1000 := by
  simp only [List.cons_append, qsz, List.map_cons, List.sum_cons] at h ⊢; lia
theorem CI.old {z : Cell} (h : CI F Ho L N T ((p, .var k) :: Qr) ar E Md N' T') (e : lkC T k = some z) : CI F Ho L (N.set (p - L) z) T Qr ar E Md N' T' := ⟨h.pi.old e, h.ok, h.nd, h.md, CI.mzt h.mz⟩
theorem CI.new (h : CI F Ho L N T ((p, .var k) :: Qr) ar E Md N' T') (e : lkC T k = none) : CI F Ho L N (T ++ [(k, (0, (p : Int)))]) Qr ar E Md N' T' := ⟨h.pi.new e, h.ok, h.nd, h.md, CI.mzt h.mz⟩
theorem CI.atom (h : CI F Ho L N T ((p, .atom n) :: Qr) ar E Md N' T') : CI F Ho L (N.set (p - L) (4, n)) T Qr ar E Md N' T' := ⟨h.pi.atom, h.ok, h.nd, h.md, CI.mzt h.mz⟩
theorem CI.num (h : CI F Ho L N T ((p, .num n) :: Qr) ar E Md N' T') : CI F Ho L (N.set (p - L) (5, n)) T Qr ar E Md N' T' := ⟨h.pi.num, h.ok, h.nd, h.md, CI.mzt h.mz⟩
theorem CI.str {t : Tr} {f q : Int} {as : List Tr} {l' : List (Int × Nat)} {v : V} (h : CI F Ho L N T ((p, t) :: Qr) (q :: (l'.map (·.1) ++ ar)) E Md N' T') (e : t.kids = some (f, as)) (no : NodeOK F Ho (cellI f q) f as l') :
    CI F Ho L ((N ++ blkN (L + N.length) f as.length).set (p - L) (cellOf f (L + N.length))) T Qr ar (E ++ [⟨cellI f q, f, as, l', L + N.length⟩]) (dput Md q v) N' T' := by
  obtain ⟨pi, ok, nd, md, mz⟩ := h
  have e1 : flatC (E ++ [⟨cellI f q, f, as, l', L + N.length⟩]) = flatC E ++ places (L + N.length + hdf f) as := by simp [flatC, CE.pl]
  have e2 : adrC (E ++ [⟨cellI f q, f, as, l', L + N.length⟩]) = adrC E ++ l'.map (·.1) := by simp [adrC]
  rw [List.cons_append, List.nodup_cons] at nd
  have hperm : (ar ++ (adrC E ++ l'.map (·.1))).Perm ((l'.map (·.1) ++ ar) ++ adrC E) := by
    rw [← List.append_assoc]
    exact (List.perm_append_comm).trans (by rw [List.append_assoc])
  have hs := Tr.kids_size e
  refine ⟨?_, fun e he => ?_, ?_, fun a ha => ?_, ?_⟩
  · rw [e1, ← List.append_assoc]; exact pi.str e
  · rcases List.mem_append.mp he with he | he
    · exact ok e he
    · simp at he; subst he; exact no
  · rw [e2]; exact hperm.nodup_iff.mpr nd.2
  · rw [e2] at ha
    have ha' := hperm.subset ha
    have hne : a ≠ q := by rintro rfl; exact nd.1 ha'
    rw [dget_put_ne hne]
    exact md a (by rw [List.cons_append]; exact .tail _ ha')
  · have := dput_len Md q v
    rw [e1, ← List.append_assoc, qsz_app, qsz_places]
    simp only [List.cons_append, qsz, List.map_cons, List.sum_cons] at mz ⊢; lia
end
inductive CpO (W : WA4) (D : Sy) (X : List (Addr × O)) (tb md wt : Addr) (z : Cell) (Ho H N' : List Cell) (T' : List (Int × Cell)) (n : Nat) (ρ' : Rho) (σ' : Sg) : Prop
  | mk (at_ : Nat) (E : List CE) (N : List Cell) (T₁ : List (Int × Cell)) (Md : List (Int × V)) (hn : n = msrC (E.drop at_)) (ha : at_ ≤ E.length) (hE : E.length + qsz (flatC (E.drop at_)) ≤ 1000) (ci : CI D.F Ho H.length N T₁ [] [] (E.drop at_) Md N' T')
    (r1 : ρ' (Str.ofString "store") = some (.ref W.S.a)) (r2 : ρ' (Str.ofString "table") = some (.ref tb)) (r3 : ρ' (Str.ofString "made") = some (.ref md)) (r4 : ρ' (Str.ofString "waiting") = some (.ref wt)) (r5 : ρ' (Str.ofString "at") = some (.int at_)) (r6 : ρ' (Str.ofString "first") = some (enc z))
    (w : Wd W (H ++ N) D ((wt, .list (E.map CE.v)) :: (md, .idict Md) :: (tb, .idict (T₁.map encP)) :: X) σ')
inductive CpI (W : WA4) (D : Sy) (X : List (Addr × O)) (tb md wt : Addr) (z : Cell) (Ho H N' : List Cell) (T' : List (Int × Cell)) (at_ M b0 : Nat) (c1 : Cell) (as1 : List Tr) (i : Nat) (ρ' : Rho) (σ' : Sg) : Prop
  | mk (hi : i ≤ as1.length) (E : List CE) (N : List Cell) (T₁ : List (Int × Cell)) (Md : List (Int × V)) (lr : List (Int × Nat)) (hl : at_ + 1 ≤ E.length) (hE : E.length + qsz (places (b0 + i) (as1.drop i) ++ flatC (E.drop (at_ + 1))) ≤ 1000)
    (hr : RepL Ho ((bs c1).toNat + i) (as1.drop i) lr) (ci : CI D.F Ho H.length N T₁ (places (b0 + i) (as1.drop i)) (lr.map (·.1)) (E.drop (at_ + 1)) Md N' T') (hm : ((as1.drop i).map Tr.size).sum + msrC (E.drop (at_ + 1)) + 1 ≤ M)
    (r1 : ρ' (Str.ofString "store") = some (.ref W.S.a)) (r2 : ρ' (Str.ofString "table") = some (.ref tb)) (r3 : ρ' (Str.ofString "made") = some (.ref md)) (r4 : ρ' (Str.ofString "waiting") = some (.ref wt)) (r5 : ρ' (Str.ofString "at") = some (.int ((at_ : Int) + 1))) (r6 : ρ' (Str.ofString "first") = some (enc z))
    (r7 : ρ' (Str.ofString "source") = some (.int (bs c1))) (r8 : ρ' (Str.ofString "place") = some (.int (b0 : Int)))
    (w : Wd W (H ++ N) D ((wt, .list (E.map CE.v)) :: (md, .idict Md) :: (tb, .idict (T₁.map encP)) :: X) σ')
theorem msrC_snoc (E : List CE) (e : CE) : msrC (E ++ [e]) = msrC E + 1 + (e.as.map Tr.size).sum := by
  unfold msrC; rw [List.map_append, List.sum_append, Nat.add_assoc]; rfl
theorem c_copyT {B : Base} (hB : IsLaw B) {W : WA4} {D : Sy} {X : List (Addr × O)} {tb : Addr} {T : List (Int × Cell)} {Ho H : List Cell} {σ : Sg} (w : Wd W H D ((tb, .idict (T.map encP)) :: X) σ) (hz2 : D.F.length ≤ 1000)
    (hpre : ∃ R, H = Ho ++ R) {x : Cell} {t : Tr} {l : List (Int × Nat)} (hr : Rep Ho t x l) (tk : t.okF D.F) (nd : (l.map (·.1)).Nodup) (ts : t.size ≤ 200) (tl : T.length ≤ 500) (hH : H.length ≤ 10000)
    {y : Cell} {N' : List Cell} {T' : List (Int × Cell)} (pt : PutT H.length T t y N' T') {Q : V → Sg → Prop}
    (hQ : ∀ σ', Wd W (H ++ N') D ((tb, .idict (T'.map encP)) :: X) σ' → Q (enc y) σ') : Spec B (.ref 389) 4 [.ref W.S.a, enc x, .ref tb] σ Q := by
  refine Spec.fn (ok_copy hB) rfl fun A gs L r hL => ?_
  have ok := (ok_copy hB).okc (gs := gs) (L := L) r
  have zH := ar_hun hH
  obtain ⟨R, hR⟩ := hpre
  have pre : ∀ (p : Nat) (c : Cell), Ho[p]? = some c → H[p]? = some c := fun p c h => by
    rw [hR, List.getElem?_append_left (List.getElem?_eq_some_iff.mp h).1]; exact h
  walk_at "wd"
  refine WSS.cons ?_
  repeat walk_at "e"
  cases pt with
  | @old k z hl =>
    refine WC.specA r (c_globalise hB w.st zH (hr.1.mono pre) ?_)
    repeat walk_at "m"
    refine iteB (fun _ => ?_) (fun h => absurd rfl h)
    repeat walk_at "m"
    rw [dget_P, hl]
    refine iteV (fun h => by simp at h) (fun _ => ?_)
    repeat walk_at "m"
    refine WSub.idict (by walk_at "ob") (by rw [dget_P, hl]; rfl) ?_
    repeat walk_at "m"
    refine hQ _ ?_
    rw [List.append_nil]; exact w
  | @new k hl =>
    refine WC.specA r (c_globalise hB w.st zH (hr.1.mono pre) ?_)
    repeat walk_at "m"
    refine iteB (fun _ => ?_) (fun h => absurd rfl h)
    repeat walk_at "m"
    rw [dget_P, hl]
    refine iteV (fun _ => ?_) (fun h => by simp at h)
    repeat walk_at "m"
    refine WC.specA r (c_new_var hB w.st (by rw [List.length_map]; exact Nat.lt_of_le_of_lt hH (by decide)) ?_)
    have hS : (H.map enc) ++ [.tup [.int 0, .int (H.map enc).length]] = (H ++ [((0 : Int), (H.length : Int))]).map enc := by simp [enc]
    rw [hS, List.length_map]
    have w3 : Wd W (H ++ [((0 : Int), (H.length : Int))]) D _ _ := w.heap ((Kp.refl _ _).upd (.inl (.head _))) (upd_same _ _ _)
    generalize upd σ W.S.h (.list ((H ++ [((0 : Int), (H.length : Int))]).map enc)) = σ3 at w3
    have k0 := w3.x0
    repeat walk_at "m"
    refine WSet.idict (by walk_at "ob") (by rw [List.length_map]; exact Nat.le_trans tl (by decide)) ?_
    have e1 : dput (T.map encP) ((0, k) : Cell).2 (.tup [.int 0, .int (H.length : Int)]) = (T ++ [(k, ((0 : Int), (H.length : Int)))]).map encP := dput_P hl ((0 : Int), (H.length : Int))
    rw [e1]
    have w4 := w3.set0 (o' := .idict ((T ++ [(k, ((0 : Int), (H.length : Int)))]).map encP))
    generalize upd σ3 tb (.idict ((T ++ [(k, ((0 : Int), (H.length : Int)))]).map encP)) = σ4 at w4
    have k0 := w4.x0
    repeat walk_at "m"
    refine WSub.idict (u := enc (0, (H.length : Int))) (by walk_at "ob") (by rw [dget_P, lkC_app, hl]; simp [lkC]) ?_
    repeat walk_at "m"
    exact hQ _ w4
  | @atom n =>
    refine WC.specA r (c_globalise hB w.st zH (hr.1.mono pre) ?_)
    repeat walk_at "m"
    refine iteB (fun h => absurd h (by simp)) (fun _ => ?_)
    repeat walk_at "m"
    refine WC.specA r (c_is_compound hB ?_)
    refine isBool ?_
    refine iteNB (fun _ => ?_) (fun h => absurd h (by simp [isCmp]))
    repeat walk_at "m"
    refine hQ _ ?_
    rw [List.append_nil]; exact w
  | @num n =>
    refine WC.specA r (c_globalise hB w.st zH (hr.1.mono pre) ?_)
    repeat walk_at "m"
    refine iteB (fun h => absurd h (by simp)) (fun _ => ?_)
    repeat walk_at "m"
    refine WC.specA r (c_is_compound hB ?_)
    refine isBool ?_
    refine iteNB (fun _ => ?_) (fun h => absurd h (by simp [isCmp]))
    repeat walk_at "m"
    refine hQ _ ?_
    rw [List.append_nil]; exact w
  | @str _ f as _ _ hk ly =>
    obtain ⟨p0, l0, hder, no, rfl⟩ := Rep.nodeOK hk hr tk (by omega)
    have hsz := Tr.kids_size hk
    have hok := no.f
    obtain ⟨cmpc, hfn, _⟩ := no.cmpH pre
    have hc2 := cellI_2 f p0
    have hcc := cellI_cmp f p0
    have hc0 : (cellI f p0).1 ≠ 0 := by unfold cellI; split <;> simp
    refine WC.specA r (c_globalise hB w.st zH (hder.mono pre) ?_)
    repeat walk_at "m"
    refine iteB (fun h => absurd h hc0) (fun _ => ?_)
    repeat walk_at "m"
    refine WC.specA r (c_is_compound hB ?_)
    refine isBool ?_
    refine iteNB (fun h => absurd hcc h) (fun _ => ?_)
    repeat walk_at "m"
    refine WE.idict fun md hmd => ?_
    have w1 := w.put (o := .idict []) hmd
    generalize upd σ md (.idict []) = σ1 at w1
    walk_at "wd"
    repeat walk_at "m"
    refine WC.specA r (c_functor_of hB w1.st zH cmpc ?_)
    rw [hfn]
    repeat walk_at "m"
    refine WC.specA r (c_new_block hB w1.st w1.sy w1.ap.b hz2 hok.1 hok.2.1 (ar_n0 hok.2.2.1) (ar_nb (ar_20 hH) hok.2.2.1 hok.2.2.2.2.1) ?_)
    rw [blk_eq hok.2.2.1 hok.2.2.2.1, mdc_eq]
    have w3 : Wd W (H ++ blkN H.length f as.length) D _ _ := w1.heap ((Kp.refl _ _).upd (.inl (.head _))) (upd_same _ _ _)
    generalize upd σ1 W.S.h (.list ((H ++ blkN H.length f as.length).map enc)) = σ3 at w3
    walk_at "wd"
    repeat walk_at "m"
    refine WSet.idict (by walk_at "ob") (by simp) ?_
    have w4 := w3.set0 (o' := .idict (dput [] (cellI f p0).2 (enc (cellOf f H.length))))
    generalize upd σ3 md (.idict (dput [] (cellI f p0).2 (enc (cellOf f H.length)))) = σ4 at w4
    walk_at "wd"
    repeat walk_at "m"
    intro wt hwt
    have w5 := w4.put (o := .list (([⟨cellI f p0, f, as, l0, H.length⟩] : List CE).map CE.v)) hwt
    rw [show ([.tup [enc (cellI f p0), enc (cellOf f H.length)]] : List V) = ([⟨cellI f p0, f, as, l0, H.length⟩] : List CE).map CE.v from rfl]
    generalize upd σ4 wt (.list (([⟨cellI f p0, f, as, l0, H.length⟩] : List CE).map CE.v)) = σ5 at w5
    walk_at "wd"
    repeat walk_at "e"
    have hfl0 : flatC ([⟨cellI f p0, f, as, l0, H.length⟩] : List CE) = places (H.length + hdf f) as := by simp [flatC, CE.pl]
    have ci0 : CI D.F Ho H.length (blkN H.length f as.length) T [] [] ([⟨cellI f p0, f, as, l0, H.length⟩] : List CE) (dput [] (cellI f p0).2 (enc (cellOf f H.length))) N' T' := by
      have hd : hdf f ≤ 1 := by unfold hdf; split <;> omega
      rw [hc2]
      simp only [List.map_cons, List.nodup_cons] at nd
      refine ⟨⟨by rw [hfl0]; exact ly, fun q hq => ?_, ?_, ?_⟩, fun e he => by simp at he; subst he; exact no, by simpa [adrC] using nd.2, fun q hq => ?_, ?_⟩
      · rw [hfl0, List.nil_append] at hq
        obtain ⟨a, b, c⟩ := places_bd hq
        rw [blkN_len]
        exact ⟨by omega, by omega, hok.2.2.2.2.2 _ c⟩
      · rw [blkN_len, hfl0, List.nil_append, qsz_places]
        exact ar_z hd hok.2.2.2.2.1 hsz ts
      · rw [hfl0, List.nil_append, qsz_places]; exact ar_z2 tl hsz ts
      · have hq' : q ∈ l0.map (·.1) := by simpa [adrC] using hq
        have hne : q ≠ p0 := fun e => nd.1 (e ▸ hq')
        rw [dget_put_ne hne]; rfl
      · rw [hfl0, List.nil_append, qsz_places]; simp [dput]; omega
    have hE0 : ([⟨cellI f p0, f, as, l0, H.length⟩] : List CE).length + qsz (flatC (([⟨cellI f p0, f, as, l0, H.length⟩] : List CE).drop 0)) ≤ 1000 := by
      rw [List.drop_zero, hfl0, qsz_places]; simp only [List.length_cons, List.length_nil]; omega
    refine WSS.cons ?_
    repeat walk_at "e"
    refine WSS.cut (fun ρ' σ' => ρ' (Str.ofString "first") = some (enc (cellOf f H.length)) ∧ Wd W (H ++ N') D ((tb, .idict (T'.map encP)) :: X) σ') ?_ ?_
    rotate_left
    · rintro ρ' σ' ⟨rm, w6⟩
      repeat walk_at "m"
      exact hQ σ' w6
    refine WS.loop (CpO W D X tb md wt (cellOf f H.length) Ho H N' T') _ ⟨0, _, _, _, _, rfl, Nat.zero_le _, hE0, ci0, by walk_at "lk", by walk_at "lk", by walk_at "lk", by walk_at "lk", by walk_at "lk", by walk_at "lk", w5⟩ ?_
    clear w1 w3 w4 w5 ci0 hE0 hmd hwt
    rintro n ρ1 σ6 ⟨at_, E, N, T₁, Md, rfl, hat, hE, ci, r1, r2, r3, r4, r5, r6, w6⟩
    walk_at "wd"
    repeat walk_at "e"
    rw [List.length_map]
    refine iteB (fun hlt => ?_) (fun hge => ?_)
    rotate_left
    · repeat walk_at "m"
      have : at_ = E.length := by omega
      subst this
      rw [List.drop_length] at ci
      have hrun := ci.pi.run
      simp only [flatC, List.flatMap_nil, List.append_nil] at hrun
      cases hrun
      exact ⟨rfl, r6, w6.tl.tl⟩
    have hlt' : at_ < E.length := Int.ofNat_lt.mp hlt
    have hd0 : E.drop at_ = E[at_] :: E.drop (at_ + 1) := List.drop_eq_getElem_cons hlt'
    generalize hee : E[at_] = e0 at hd0
    have hwat : (E.map CE.v)[at_]? = some (CE.v e0) := by rw [List.getElem?_map, List.getElem?_eq_getElem hlt', hee]; rfl
    rw [hd0] at ci hE ⊢
    obtain ⟨ci1, no1⟩ := ci.next
    obtain ⟨c1, f1, as1, l1, s1⟩ := e0
    simp only [CE.pl] at ci1
    simp only at no1
    have hfl : flatC (⟨c1, f1, as1, l1, s1⟩ :: E.drop (at_ + 1)) = places (s1 + hdf f1) as1 ++ flatC (E.drop (at_ + 1)) := by simp [flatC, CE.pl]
    have hms : msrC (⟨c1, f1, as1, l1, s1⟩ :: E.drop (at_ + 1)) = 1 + (as1.map Tr.size).sum + msrC (E.drop (at_ + 1)) := by simp [msrC]
    rw [hfl] at hE
    generalize hM : msrC (⟨c1, f1, as1, l1, s1⟩ :: E.drop (at_ + 1)) = M at hms
    have preN : ∀ {N : List Cell}, ∀ (p : Nat) (c : Cell), Ho[p]? = some c → (H ++ N)[p]? = some c := fun {N} p c h => by
      have := pre p c h
      rw [List.getElem?_append_left (List.getElem?_eq_some_iff.mp this).1]; exact this
    have hbs1 : 0 ≤ bs c1 := by have := (no1.cmpH pre).1.p; unfold bs; split <;> omega
    have hHN0 : (H ++ N).length ≤ 100000 := by rw [List.length_append]; exact ar_hn hH ci1.pi.zN
    refine WSS.cons ?_
    repeat walk_at "e"
    refine WSub.list (by walk_at "ob") (Int.natCast_nonneg _) (ar_a63 hlt' hE) (by simpa using hwat) ?_
    repeat walk_at "e"
    refine WSS.cons ?_
    repeat walk_at "e"
    refine WSS.cons ?_
    repeat walk_at "e"
    refine WC.specA r (c_base hB ?_)
    rw [show (if c1.1 = 3 then c1.2 else c1.2 + 1) = bs c1 from rfl]
    repeat walk_at "e"
    refine WSS.cons ?_
    repeat walk_at "e"
    refine WC.specA r (c_base hB ?_)
    rw [cell_base]
    repeat walk_at "e"
    refine WSS.one ?_
    refine WS.forRange (by walk_at "okt") (WRange.one ?_)
    repeat walk_at "e"
    refine WC.specA r (c_width hB w6.st w6.sy w6.ap.b hHN0 hz2 (no1.cmpH preN).1 ?_)
    rw [(no1.cmpH preN).2.2]
    repeat walk_at "e"
    have hn1 := no1.f.2.2.2.2.1
    generalize hb0 : s1 + hdf f1 = b0 at ci1 hE hfl
    refine ⟨small_zero (Int.natCast_nonneg _) (Int.ofNat_le.mpr (Nat.le_trans (ar_10 hn1) (by decide))), CpI W D X tb md wt (cellOf f H.length) Ho H N' T' at_ M b0 c1 as1,
      ⟨Nat.zero_le _, E, N, T₁, Md, l1, hlt', by simpa using hE, by simpa using no1.k, by simpa using ci1, by rw [List.drop_zero]; exact ar_i hms, by walk_at "lk", by walk_at "lk", by walk_at "lk", by walk_at "lk", by walk_at "lk", by walk_at "lk", by walk_at "lk", by rw [← hb0]; walk_at "lk", w6⟩, ?_, ?_⟩
    rotate_left
    · rw [rangeN_zero (Int.natCast_nonneg _), Int.toNat_natCast]
      rintro ρ2 σ7 ⟨_, E, N, T₁, Md, lr, hl1, hE1, hrl, ci2, hm1, r1, r2, r3, r4, r5, r6, r7, r8, w7⟩
      rw [List.drop_length] at ci2 hm1 hE1 hrl
      simp only [RepL] at hrl
      subst hrl
      simp only [places, List.nil_append, List.map_nil, List.sum_nil] at ci2 hm1 hE1
      exact whileQ_next (msrC (E.drop (at_ + 1))) (ar_w hm1) ⟨at_ + 1, E, N, T₁, Md, rfl, hl1, hE1, ci2, r1, r2, r3, r4, by simpa using r5, r6, w7⟩
    clear w6 ci ci1 hE hwat hHN0 hfl
    rintro g i ρ2 σ7 hi ⟨_, E, N, T₁, Md, lr, hl1, hE1, hrl, ci2, hm1, r1, r2, r3, r4, r5, r6, r7, r8, w7⟩
    rw [rangeN_zero (Int.natCast_nonneg _), Int.toNat_natCast] at hi
    have hdi : as1.drop i = as1[i] :: as1.drop (i + 1) := List.drop_eq_getElem_cons hi
    generalize as1[i] = it at hdi
    rw [hdi] at ci2 hm1 hE1 hrl
    obtain ⟨u, la, l2, hu, hra, hrl2, rfl⟩ := hrl
    rw [Nat.add_assoc] at hrl2
    simp only [places, List.map_cons, List.sum_cons] at ci2 hm1 hE1
    rw [show b0 + i + 1 = b0 + (i + 1) from rfl] at ci2 hE1
    have hE2 : E.length + qsz (places (b0 + (i + 1)) (as1.drop (i + 1)) ++ flatC (E.drop (at_ + 1))) ≤ 1000 := by
      rw [List.cons_append, qsz_cons] at hE1; exact ar_e1 hE1
    have hin := ci2.pi.inq _ (List.mem_append_left _ (.head _))
    simp only at hin
    have zN := ci2.pi.zN
    have zT : (T₁.map encP).length ≤ 1000000 := by rw [List.length_map]; exact ar_mil ci2.pi.zT
    have zM : Md.length ≤ 1000000 := ar_mil ci2.mz
    have zE : (E.map CE.v).length ≤ 1000000 := by rw [List.length_map]; exact ar_mil hE2
    have hHN : (H ++ N).length = H.length + N.length := List.length_append ..
    have zHN : (H ++ N).length ≤ 100000 := by rw [hHN]; exact ar_hn hH zN
    have hpi := ar_pi b0 i
    have hp0 := ar_p0 b0 i
    have hp63 := ar_p63 hH zN hin.2.1
    have hplt : (b0 : Int) + (0 + (i : Int) * 1) < ((H ++ N).map enc).length := by rw [List.length_map, List.length_append]; exact ar_plt hin.2.1
    have store_ : ∀ {N : List Cell} {σ' : Sg} (z : Cell) {X' : List (Addr × O)}, Wd W (H ++ N) D X' σ' → Wd W (H ++ N.set (b0 + i - H.length) z) D X' (upd σ' W.S.h (.list (((H ++ N).map enc).set ((b0 : Int) + (0 + (i : Int) * 1)).toNat (enc z)))) := by
      intro N σ' z X' w
      rw [hpi, Int.toNat_natCast, ← List.map_set, set_new hin.1]
      exact w.heap ((Kp.refl _ _).upd (.inl (.head _))) (upd_same _ _ _)
    walk_at "wd"
    repeat walk_at "e"
    refine WSS.cons ?_
    repeat walk_at "e"
    refine WSub.cells (x := u) (by walk_at "ob") (ar_nn hbs1) (by rw [ar_tn hbs1]; exact preN _ _ hu) (ar_hm zHN) ?_
    repeat walk_at "e"
    cases hkd : it.kids with
    | none =>
      cases it with
      | s1 _ _ => cases hkd
      | s2 _ _ _ => cases hkd
      | var k =>
        obtain ⟨hd, rfl⟩ := hra
        rw [List.nil_append] at ci2
        obtain ⟨_, hdn⟩ := hd.mono (preN (N := N))
        refine WC.specA r (c_deref hB w7.st zHN hdn ?_)
        repeat walk_at "e"
        refine WSS.one ?_
        repeat walk_at "e"
        refine iteB (fun _ => ?_) (fun h => absurd rfl h)
        refine WSS.one ?_
        repeat walk_at "e"
        rw [dget_P]
        cases hl : lkC T₁ ((0, k) : Cell).2 with
        | some z =>
          refine iteV (fun _ => ?_) (fun h => by simp at h)
          repeat walk_at "m"
          refine WSub.idict (by walk_at "ob") (by rw [dget_P, hl]; rfl) ?_
          repeat walk_at "m"
          refine WSet.list (by walk_at "ob") hp0 hp63 hplt ?_
          have w8 := store_ z w7
          repeat walk_at "m"
          exact ⟨hi, E, _, T₁, Md, l2, hl1, hE2, hrl2, ci2.old hl, ar_m hm1, by walk_at "lk", by walk_at "lk", by walk_at "lk", by walk_at "lk", by walk_at "lk", by walk_at "lk", by walk_at "lk", by walk_at "lk", w8⟩
        | none =>
          refine iteV (fun h => by simp at h) (fun _ => ?_)
          repeat walk_at "m"
          refine WSet.idict (by walk_at "ob") zT ?_
          rw [hpi, show (V.tup [.int 0, .int ((b0 + i : Nat) : Int)]) = enc (0, ((b0 + i : Nat) : Int)) from rfl, dput_P hl]
          have w8 := w7.set2 (o' := .idict ((T₁ ++ [(((0, k) : Cell).2, ((0 : Int), ((b0 + i : Nat) : Int)))]).map encP))
          repeat walk_at "m"
          exact ⟨hi, E, _, _, Md, l2, hl1, hE2, hrl2, ci2.new hl, ar_m hm1, by walk_at "lk", by walk_at "lk", by walk_at "lk", by walk_at "lk", by walk_at "lk", by walk_at "lk", by walk_at "lk", by walk_at "lk", w8⟩
      | atom n =>
        obtain ⟨hd, rfl⟩ := hra
        rw [List.nil_append] at ci2
        obtain ⟨_, hdn⟩ := hd.mono (preN (N := N))
        refine WC.specA r (c_deref hB w7.st zHN hdn ?_)
        repeat walk_at "e"
        refine WSS.one ?_
        repeat walk_at "e"
        refine iteB (fun h => absurd h (by simp)) (fun _ => ?_)
        refine WSS.one ?_
        repeat walk_at "e"
        refine WC.specA r (c_is_compound hB ?_)
        refine isBool ?_
        refine iteNB (fun _ => ?_) (fun h => absurd h (by simp [isCmp]))
        repeat walk_at "m"
        refine WSet.list (by walk_at "ob") hp0 hp63 hplt ?_
        have w8 := store_ ((4 : Int), n) w7
        repeat walk_at "m"
        exact ⟨hi, E, _, T₁, Md, l2, hl1, hE2, hrl2, ci2.atom, ar_m hm1, by walk_at "lk", by walk_at "lk", by walk_at "lk", by walk_at "lk", by walk_at "lk", by walk_at "lk", by walk_at "lk", by walk_at "lk", w8⟩
      | num n =>
        obtain ⟨hd, rfl⟩ := hra
        rw [List.nil_append] at ci2
        obtain ⟨_, hdn⟩ := hd.mono (preN (N := N))
        refine WC.specA r (c_deref hB w7.st zHN hdn ?_)
        repeat walk_at "e"
        refine WSS.one ?_
        repeat walk_at "e"
        refine iteB (fun h => absurd h (by simp)) (fun _ => ?_)
        refine WSS.one ?_
        repeat walk_at "e"
        refine WC.specA r (c_is_compound hB ?_)
        refine isBool ?_
        refine iteNB (fun _ => ?_) (fun h => absurd h (by simp [isCmp]))
        repeat walk_at "m"
        refine WSet.list (by walk_at "ob") hp0 hp63 hplt ?_
        have w8 := store_ ((5 : Int), n) w7
        repeat walk_at "m"
        exact ⟨hi, E, _, T₁, Md, l2, hl1, hE2, hrl2, ci2.num, ar_m hm1, by walk_at "lk", by walk_at "lk", by walk_at "lk", by walk_at "lk", by walk_at "lk", by walk_at "lk", by walk_at "lk", by walk_at "lk", w8⟩
    | some fa =>
      obtain ⟨f2, as2⟩ := fa
      have hsz2 := Tr.kids_size hkd
      have hz2' : it.size ≤ 500 := by
        have := zN; rw [List.cons_append, qsz_cons] at this; exact ar_it this
      obtain ⟨q2, l3, hder2, no2, rfl⟩ := Rep.nodeOK hkd hra hin.2.2 hz2'
      rw [show (((q2, it.size) :: l3) ++ l2).map (·.1) = q2 :: (l3.map (·.1) ++ l2.map (·.1)) by simp] at ci2
      have hmq : dget Md q2 = none := ci2.md q2 (by simp)
      have hc22 := cellI_2 f2 q2
      have hcc2 := cellI_cmp f2 q2
      have hc02 : (cellI f2 q2).1 ≠ 0 := by unfold cellI; split <;> simp
      have hok2 := no2.f
      obtain ⟨_, hdn⟩ := hder2.mono (preN (N := N))
      refine WC.specA r (c_deref hB w7.st zHN hdn ?_)
      repeat walk_at "e"
      refine WSS.one ?_
      repeat walk_at "e"
      refine iteB (fun h => absurd h hc02) (fun _ => ?_)
      refine WSS.one ?_
      repeat walk_at "e"
      refine WC.specA r (c_is_compound hB ?_)
      refine isBool ?_
      refine iteNB (fun h => absurd hcc2 h) (fun _ => ?_)
      refine WSS.one ?_
      repeat walk_at "e"
      rw [hc22, hmq]
      refine iteV (fun h => by simp at h) (fun _ => ?_)
      repeat walk_at "m"
      obtain ⟨cmp2, hfn2, _⟩ := no2.cmpH (preN (N := N))
      refine WC.specA r (c_functor_of hB w7.st zHN cmp2 ?_)
      rw [hfn2]
      repeat walk_at "m"
      refine WC.specA r (c_new_block hB w7.st w7.sy w7.ap.b hz2 hok2.1 hok2.2.1 (ar_n0 hok2.2.2.1) (ar_nb (by rw [hHN]; exact ar_hn2 hH zN) hok2.2.2.1 hok2.2.2.2.2.1) ?_)
      rw [blk_eq hok2.2.2.1 hok2.2.2.2.1, mdc_eq, hHN, List.append_assoc]
      have w8 : Wd W (H ++ (N ++ blkN (H.length + N.length) f2 as2.length)) D _ _ := w7.heap ((Kp.refl _ _).upd (.inl (.head _))) (upd_same _ _ _)
      generalize upd σ7 W.S.h (.list ((H ++ (N ++ blkN (H.length + N.length) f2 as2.length)).map enc)) = σ8 at w8
      walk_at "wd"
      repeat walk_at "m"
      refine WSet.idict (by walk_at "ob") zM ?_
      rw [hc22]
      have w9 := w8.set1 (o' := .idict (dput Md q2 (enc (cellOf f2 (H.length + N.length)))))
      generalize upd σ8 md (.idict (dput Md q2 (enc (cellOf f2 (H.length + N.length))))) = σ9 at w9
      walk_at "wd"
      repeat walk_at "m"
      refine WSet.list (by walk_at "ob") hp0 hp63 (by rw [List.length_map, List.length_append, List.length_append]; exact ar_plt2 hin.2.1) ?_
      have w10 := store_ (cellOf f2 (H.length + N.length)) w9
      generalize upd σ9 W.S.h (.list (((H ++ (N ++ blkN (H.length + N.length) f2 as2.length)).map enc).set ((b0 : Int) + (0 + (i : Int) * 1)).toNat (enc (cellOf f2 (H.length + N.length))))) = σ10 at w10
      walk_at "wd"
      repeat walk_at "m"
      have w11 := w10.set0 (o' := .list ((E ++ [(⟨cellI f2 q2, f2, as2, l3, H.length + N.length⟩ : CE)]).map CE.v))
      rw [show E.map CE.v ++ [.tup [enc (cellI f2 q2), enc (cellOf f2 (H.length + N.length))]] = (E ++ [(⟨cellI f2 q2, f2, as2, l3, H.length + N.length⟩ : CE)]).map CE.v by rw [List.map_append]; rfl]
      have hdE : (E ++ [(⟨cellI f2 q2, f2, as2, l3, H.length + N.length⟩ : CE)]).drop (at_ + 1) = E.drop (at_ + 1) ++ [(⟨cellI f2 q2, f2, as2, l3, H.length + N.length⟩ : CE)] := List.drop_append_of_le_length hl1
      have hflE : flatC (E.drop (at_ + 1) ++ [(⟨cellI f2 q2, f2, as2, l3, H.length + N.length⟩ : CE)]) = flatC (E.drop (at_ + 1)) ++ places (H.length + N.length + hdf f2) as2 := by simp [flatC, CE.pl]
      have hmE : msrC (E.drop (at_ + 1) ++ [(⟨cellI f2 q2, f2, as2, l3, H.length + N.length⟩ : CE)]) = msrC (E.drop (at_ + 1)) + 1 + (as2.map Tr.size).sum := msrC_snoc _ _
      refine ⟨hi, E ++ [(⟨cellI f2 q2, f2, as2, l3, H.length + N.length⟩ : CE)], _, T₁, dput Md q2 (enc (cellOf f2 (H.length + N.length))), l2, by rw [List.length_append]; exact Nat.le_trans hl1 (Nat.le_add_right _ _), ?_, hrl2, by rw [hdE]; exact ci2.str hkd no2, by rw [hdE, hmE]; exact ar_m2 hm1 hsz2, by walk_at "lk", by walk_at "lk", by walk_at "lk", by walk_at "lk", by walk_at "lk", by walk_at "lk", by walk_at "lk", by walk_at "lk", w11⟩
      rw [hdE, hflE, ← List.append_assoc, qsz_app, qsz_places, List.length_append, List.length_cons, List.length_nil]
      rw [List.cons_append, qsz_cons] at hE1; exact ar_e hE1 hsz2
/-! ## _law_grown -/
theorem e_g2 : funcS D2 (Str.ofString "g") 1 = (32, D2) := by kernel_rfl
theorem e_h2 : funcS D2 (Str.ofString "h") 2 = (33, D2) := by kernel_rfl
theorem e_len2 : D2.F.length = 34 := by decide +kernel
theorem e_ar20 : ar D2.F 0 = 2 := by decide +kernel
theorem e_ar32 : ar D2.F 32 = 1 := by decide +kernel
theorem e_ar33 : ar D2.F 33 = 2 := by decide +kernel
theorem e_up : ∀ f : Int, 0 ≤ f → f < D0.F.length → f < D2.F.length ∧ ar D2.F f = ar D0.F f := by
  intro f h0 h
  rw [d_len0] at h
  refine ⟨by rw [e_len2]; lia, ?_⟩
  have key : ∀ n : Nat, n < 32 → D2.F[n]? = D0.F[n]? := by
    have e : D2.F.take 32 = D0.F := by decide +kernel
    intro n hn
    rw [← e, List.getElem?_take, if_pos hn]
  unfold ar
  rw [key f.toNat (by lia)]
theorem okF_up {F F' : List Cell} (hF : ∀ f : Int, 0 ≤ f → f < F.length → f < F'.length ∧ ar F' f = ar F f) : ∀ {t : Tr}, t.okF F → t.okF F'
  | .var _, _ => trivial
  | .atom _, _ => trivial
  | .num _, _ => trivial
  | .s1 f a, ⟨h1, h2, h3, h4⟩ => ⟨h1, (hF f (by lia) h2).1, by rw [(hF f (by lia) h2).2]; exact h3, okF_up hF h4⟩
  | .s2 f a b, ⟨h1, h2, h3, h4, h5⟩ => ⟨h1, (hF f h1 h2).1, by rw [(hF f h1 h2).2]; exact h3, okF_up hF h4, okF_up hF h5⟩
theorem okF_2 {D : Sy} (h : D = D0 ∨ D = D2) {t : Tr} (k : t.okF D.F) : t.okF D2.F := by
  rcases h with rfl | rfl
  · exact okF_up e_up k
  · exact k
theorem e_g {D : Sy} (h : D = D0 ∨ D = D2) : ∃ Dg, funcS D (Str.ofString "g") 1 = (32, Dg) ∧ (Dg = D1 ∨ Dg = D2) := by
  rcases h with rfl | rfl
  · exact ⟨D1, Prod.ext d_g0 rfl, .inl rfl⟩
  · exact ⟨D2, e_g2, .inr rfl⟩
theorem e_h {D : Sy} (h : D = D1 ∨ D = D2) : funcS D (Str.ofString "h") 2 = (33, D2) := by
  rcases h with rfl | rfl
  · exact Prod.ext d_h0 rfl
  · exact e_h2
theorem e_fits {D : Sy} (h : D = D0 ∨ D = D2) : D.fits 130 := by
  rcases h with rfl | rfl
  · exact d_fits0.mono (by lia)
  · exact d_fits2.mono (by lia)
theorem e_fits1 {D : Sy} (h : D = D1 ∨ D = D2) : D.fits 130 := by
  rcases h with rfl | rfl
  · exact d_fits1.mono (by lia)
  · exact d_fits2.mono (by lia)
structure Grown (D : Sy) (n : Nat) (t : Tr) : Prop where
  d : D = D0 ∨ D = D2
  ok : t.okF D.F
  v : ∀ k ∈ t.vars, 0 ≤ k ∧ k < 4
  z : t.size + 1 ≤ 2 ^ n
theorem Grown.leaf {D : Sy} (d : D = D0 ∨ D = D2) (n : Nat) {t : Tr} (hk : t.kids = none) (hv : ∀ k ∈ t.vars, 0 ≤ k ∧ k < 4) : Grown D (n + 1) t := by
  have : 1 ≤ 2 ^ n := Nat.one_le_two_pow
  refine ⟨d, ?_, hv, ?_⟩
  · cases t with
    | s1 => cases hk
    | s2 => cases hk
    | _ => trivial
  · cases t with
    | s1 => cases hk
    | s2 => cases hk
    | _ => simp only [Tr.size]; rw [Nat.pow_succ]; omega
inductive GrP (W : WA4) (H : List Cell) (X : List (Addr × O)) (D : Sy) (way : Int) (ps : Addr) (n : Nat) (ρ' : Rho) (σ' : Sg) : Prop
  | mk (pl : List Tr) (D' : Sy) (r1 : ρ' (Str.ofString "way") = some (.int way)) (r2 : ρ' (Str.ofString "book") = some (.ref W.Y.b)) (r3 : ρ' (Str.ofString "parts") = some (.ref ps)) (hl : (way = 0 ∧ pl.length = 1) ∨ (0 < way ∧ pl.length = 2)) (hD : D = D2 → D' = D2) (hd : D' = D0 ∨ D' = D2)
    (hg : ∀ t ∈ pl, Grown D' (n + 1) t) (w : Wd W H D' ((ps, .list (pl.map Tr.enc)) :: X) σ')
theorem c_grown {B : Base} (hB : IsLaw B) {W : WA4} {H : List Cell} : ∀ (n : Nat) {X : List (Addr × O)} {D : Sy} {σ : Sg} (w : Wd W H D X σ) (hD : D = D0 ∨ D = D2) {Q : V → Sg → Prop}
    (hQ : ∀ σ' t D', Wd W H D' X σ' → (D = D2 → D' = D2) → Grown D' (n + 1) t → Q t.enc σ'), Spec B (.ref 403) (n + 4) [.ref W.U, .ref W.Y.b, .int n] σ Q := by
  intro n
  induction n with
  | zero =>
    intro X D σ w hD Q hQ
    refine Spec.fn (ok_grown hB) rfl fun A gs L r hL => ?_
    have ok := (ok_grown hB).okc (gs := gs) (L := L) r
    walk_at "wd"
    refine WSS.cons ?_
    repeat walk_at "e"
    refine iteB (fun h => absurd h (by decide)) (fun _ => ?_)
    repeat walk_at "e"
    refine WC.specA r (c_pick hB w.un (by decide) (by decide) fun k σ1 hk0 hk1 kp un => ?_)
    have w1 := w.pick kp un
    repeat walk_at "m"
    have hk : k = 0 ∨ k = 1 ∨ k = 2 := by omega
    rcases hk with rfl | rfl | rfl
    · refine iteB (fun _ => ?_) (fun h => absurd rfl h)
      repeat walk_at "m"
      refine WC.specA r (c_pick hB w1.un (by decide) (by decide) fun k σ2 hk0 hk1 kp un => ?_)
      have w2 := w1.pick kp un
      repeat walk_at "m"
      exact hQ σ2 (.var k) D w2 (fun e => e) (.leaf hD _ rfl fun k' hk' => by simp [Tr.vars] at hk'; subst hk'; omega)
    · refine iteB (fun h => absurd h (by decide)) (fun _ => ?_)
      repeat walk_at "m"
      refine iteB (fun _ => ?_) (fun h => absurd rfl h)
      repeat walk_at "m"
      exact hQ σ1 (.atom 0) D w1 (fun e => e) (.leaf hD _ rfl fun k' hk' => by simp [Tr.vars] at hk')
    · refine iteB (fun h => absurd h (by decide)) (fun _ => ?_)
      repeat walk_at "m"
      refine iteB (fun h => absurd h (by decide)) (fun _ => ?_)
      repeat walk_at "m"
      refine iteB (fun _ => ?_) (fun h => absurd rfl h)
      repeat walk_at "m"
      refine W2.pow (by decide) (by decide) (by decide) ?_
      repeat walk_at "m"
      refine WC.specA r (c_pick hB w1.un (by decide) (by decide) fun k σ2 hk0 hk1 kp un => ?_)
      have w2 := w1.pick kp un
      repeat walk_at "m"
      exact hQ σ2 (.num k) D w2 (fun e => e) (.leaf hD _ rfl fun k' hk' => by simp [Tr.vars] at hk')
  | succ n ih =>
    intro X D σ w hD Q hQ
    refine Spec.fn (ok_grown hB) rfl fun A gs L r hL => ?_
    have ok := (ok_grown hB).okc (gs := gs) (L := L) r
    walk_at "wd"
    refine WSS.cons ?_
    repeat walk_at "e"
    refine iteB (fun _ => ?_) (fun h => absurd (show (0 : Int) < ((n + 1 : Nat) : Int) by omega) h)
    repeat walk_at "e"
    refine WC.specA r (c_pick hB w.un (by decide) (by decide) fun way σ1 hk0 hk1 kp un => ?_)
    have w1 := w.pick kp un
    repeat walk_at "m"
    refine iteB (fun h3 => ?_) (fun h3 => ?_)
    · repeat walk_at "m"
      refine WC.specA r (c_pick hB w1.un (by decide) (by decide) fun k σ2 hk0 hk1 kp un => ?_)
      have w2 := w1.pick kp un
      repeat walk_at "m"
      exact hQ σ2 (.var k) D w2 (fun e => e) (.leaf hD _ rfl fun k' hk' => by simp [Tr.vars] at hk'; subst hk'; omega)
    repeat walk_at "m"
    refine iteB (fun h4 => ?_) (fun h4 => ?_)
    · repeat walk_at "m"
      exact hQ σ1 (.atom 0) D w1 (fun e => e) (.leaf hD _ rfl fun k' hk' => by simp [Tr.vars] at hk')
    repeat walk_at "m"
    refine iteB (fun h5 => ?_) (fun h5 => ?_)
    · repeat walk_at "m"
      refine W2.pow (by decide) (by decide) (by decide) ?_
      repeat walk_at "m"
      refine WC.specA r (c_pick hB w1.un (by decide) (by decide) fun k σ2 hk0 hk1 kp un => ?_)
      have w2 := w1.pick kp un
      repeat walk_at "m"
      exact hQ σ2 (.num k) D w2 (fun e => e) (.leaf hD _ rfl fun k' hk' => by simp [Tr.vars] at hk')
    repeat walk_at "m"
    rw [show (((n + 1 : Nat) : Int) - 1) = (n : Int) by omega]
    refine WC.specA r (ih w1 hD fun σ2 a Da w2 hDa ga => ?_)
    repeat walk_at "e"
    intro ps hps
    have w3 := w2.put (o := .list (([a] : List Tr).map Tr.enc)) hps
    rw [show ([a.enc] : List V) = ([a] : List Tr).map Tr.enc from rfl]
    generalize upd σ2 ps (.list (([a] : List Tr).map Tr.enc)) = σ3 at w3
    repeat walk_at "e"
    refine WSS.cut (GrP W H X D way ps n) ?_ ?_
    · walk_at "wd"
      repeat walk_at "e"
      refine iteB (fun hw => ?_) (fun hw => ?_)
      · repeat walk_at "m"
        rw [show (((n + 1 : Nat) : Int) - 1) = (n : Int) by omega]
        refine WC.specA r (ih w3 ga.d fun σ4 b Db w4 hDb gb => ?_)
        have k0 := w4.x0
        repeat walk_at "m"
        refine ⟨rfl, [a, b], Db, by walk_at "lk", by walk_at "lk", by walk_at "lk", .inr ⟨hw, rfl⟩, fun e => hDb (hDa e), gb.d, fun t ht => ?_, w4.set0⟩
        simp only [List.mem_cons, List.not_mem_nil, or_false] at ht
        rcases ht with rfl | rfl
        · refine ⟨gb.d, ?_, ga.v, ga.z⟩
          rcases ga.d with e | e
          · rcases gb.d with e' | e'
            · rw [e']; rw [e] at ga; exact ga.ok
            · rw [e']; exact okF_2 ga.d ga.ok
          · rw [hDb e]; exact okF_2 ga.d ga.ok
        · exact gb
      · repeat walk_at "m"
        exact ⟨rfl, [a], Da, by walk_at "lk", by walk_at "lk", by walk_at "lk", .inl ⟨by omega, rfl⟩, hDa, ga.d, fun t ht => by simp at ht; subst ht; exact ga, w3⟩
    rintro ρ2 σ4 ⟨pl, D', r1, r2, r3, hpl, hDD, hD', hgr, w4⟩
    obtain ⟨Dg, eg, hDg⟩ := e_g hD'
    have eh := e_h hDg
    walk_at "wd"
    refine WSS.cons ?_
    repeat walk_at "e"
    refine WC.specA r (c_func hB w4.sy ((e_fits hD').mono (by omega)) _ _ fun σ5 kp sy => ?_)
    rw [eg] at sy ⊢
    have w5 := w4.sym kp sy
    walk_at "wd"
    repeat walk_at "e"
    refine WC.specA r (c_func hB w5.sy ((e_fits1 hDg).mono (by omega)) _ _ fun σ6 kp sy => ?_)
    rw [eh] at sy ⊢
    have w6 := w5.sym kp sy
    walk_at "wd"
    repeat walk_at "e"
    intro ls hls
    have w7 := w6.put (o := .list [.int 32, .int 33, .int 0]) hls
    generalize upd σ6 ls (.list [.int 32, .int 33, .int 0]) = σ7 at w7
    walk_at "wd"
    repeat walk_at "e"
    have hwy : way = 0 ∨ way = 1 ∨ way = 2 := by clear hpl hgr; omega
    have hu : [V.int 32, .int 33, .int 0][way.toNat]? = some (.int (if way = 0 then 32 else if way = 1 then 33 else 0)) := by rcases hwy with rfl | rfl | rfl <;> rfl
    refine WSub.list w7.x0 hk0 (by omega) hu ?_
    have hpl2 : pl.length ≤ 2 := by omega
    repeat walk_at "e"
    refine WC.tuple_list (by walk_at "ob") (by rw [List.length_map]; omega) ?_
    repeat walk_at "m"
    have g2 : ∀ t ∈ pl, Grown D2 (n + 1) t := fun t ht => ⟨.inr rfl, okF_2 hD' (hgr t ht).ok, (hgr t ht).v, (hgr t ht).z⟩
    have hp2 : 2 ^ (n + 1 + 1) = 2 ^ (n + 1) + 2 ^ (n + 1) := by rw [Nat.pow_succ]; omega
    have h1p : 1 ≤ 2 ^ (n + 1) := Nat.one_le_two_pow
    rcases hpl with ⟨rfl, h1⟩ | ⟨hw, h2⟩
    · obtain ⟨b, rfl⟩ := list1 h1
      · have gb := g2 b (.head _)
        refine hQ _ (.s1 32 b) D2 w7.tl.tl (fun _ => rfl) ⟨.inr rfl, ⟨by decide, by rw [e_len2]; decide, e_ar32, gb.ok⟩, gb.v, ?_⟩
        have := gb.z
        simp only [Tr.size]; omega
    · obtain ⟨b, c, rfl⟩ := list2 h2
      · have gb := g2 b (.head _)
        have gc := g2 c (.tail _ (.head _))
        have hz1 := gb.z
        have hz2 := gc.z
        have hv : ∀ k ∈ b.vars ++ c.vars, 0 ≤ k ∧ k < 4 := fun k hk => by
          rcases List.mem_append.mp hk with hk | hk
          · exact gb.v k hk
          · exact gc.v k hk
        rcases hwy with rfl | rfl | rfl
        · exact absurd hw (by decide)
        · exact hQ _ (.s2 33 b c) D2 w7.tl.tl (fun _ => rfl) ⟨.inr rfl, ⟨by decide, by rw [e_len2]; decide, e_ar33, gb.ok, gc.ok⟩, hv, by simp only [Tr.size]; omega⟩
        · exact hQ _ (.s2 0 b c) D2 w7.tl.tl (fun _ => rfl) ⟨.inr rfl, ⟨by decide, by rw [e_len2]; decide, e_ar20, gb.ok, gc.ok⟩, hv, by simp only [Tr.size]; omega⟩
/-! ## a laying exists; what it says -/
theorem LayQ.ex {F : List Cell} (L : Nat) : ∀ (m : Nat) (N : List Cell) (T : List (Int × Cell)) (Q : List (Nat × Tr)), qsz Q ≤ m → ∃ N' T', LayQ L N T Q N' T'
  | m, N, T, [], _ => ⟨N, T, .nil⟩
  | 0, N, T, (p, t) :: Q, h => by
    have : 1 ≤ t.size := by cases t <;> simp [Tr.size]
    simp only [qsz, List.map_cons, List.sum_cons] at h; lia
  | m + 1, N, T, (p, t) :: Q, h => by
    have h1 : 1 ≤ t.size := by cases t <;> simp [Tr.size]
    have hQ : qsz Q ≤ m := by simp only [qsz, List.map_cons, List.sum_cons] at h ⊢; lia
    cases hk : t.kids with
    | none =>
      cases t with
      | s1 => cases hk
      | s2 => cases hk
      | var k =>
        cases hl : lkC T k with
        | some z => obtain ⟨N', T', r⟩ := LayQ.ex (F := F) L m (N.set (p - L) z) T Q hQ; exact ⟨N', T', .old hl r⟩
        | none => obtain ⟨N', T', r⟩ := LayQ.ex (F := F) L m N (T ++ [(k, (0, (p : Int)))]) Q hQ; exact ⟨N', T', .new hl r⟩
      | atom n => obtain ⟨N', T', r⟩ := LayQ.ex (F := F) L m (N.set (p - L) (4, n)) T Q hQ; exact ⟨N', T', .atom r⟩
      | num n => obtain ⟨N', T', r⟩ := LayQ.ex (F := F) L m (N.set (p - L) (5, n)) T Q hQ; exact ⟨N', T', .num r⟩
    | some fa =>
      obtain ⟨f, as⟩ := fa
      have hs := Tr.kids_size hk
      obtain ⟨N', T', r⟩ := LayQ.ex (F := F) L m ((N ++ blkN (L + N.length) f as.length).set (p - L) (cellOf f (L + N.length))) T (Q ++ places (L + N.length + hdf f) as) (by
        rw [qsz_app, qsz_places]; simp only [qsz, List.map_cons, List.sum_cons] at h ⊢; lia)
      exact ⟨N', T', .str hk r⟩
theorem PutT.ex (L : Nat) (T : List (Int × Cell)) (t : Tr) : ∃ y N' T', PutT L T t y N' T' := by
  cases hk : t.kids with
  | none =>
    cases t with
    | s1 => cases hk
    | s2 => cases hk
    | var k =>
      cases hl : lkC T k with
      | some z => exact ⟨_, _, _, .old hl⟩
      | none => exact ⟨_, _, _, .new hl⟩
    | atom n => exact ⟨_, _, _, .atom⟩
    | num n => exact ⟨_, _, _, .num⟩
  | some fa =>
    obtain ⟨f, as⟩ := fa
    obtain ⟨N', T', r⟩ := LayQ.ex (F := []) L _ (blkN L f as.length) T (places (L + hdf f) as) (Nat.le_refl _)
    exact ⟨_, _, _, .str hk r⟩
theorem LayQ.keepT {L : Nat} {N N' : List Cell} {T T' : List (Int × Cell)} {Q : List (Nat × Tr)} (a : LayQ L N T Q N' T') : ∀ k z, lkC T k = some z → lkC T' k = some z := by
  induction a with
  | nil => exact fun _ _ h => h
  | old _ _ ih => exact ih
  | new _ _ ih => exact fun k z h => ih k z (lkC_app_l h)
  | atom _ ih => exact ih
  | num _ ih => exact ih
  | str _ _ ih => exact ih
theorem blkN_get {s : Nat} {f : Int} {w i : Nat} (hi : i < w) : (blkN s f w)[hdf f + i]? = some (0, ((s + hdf f + i : Nat) : Int)) := by
  have hsel : ∀ n, (selfs n w)[i]? = some (0, ((n + i : Nat) : Int)) := fun n => by simp [selfs, hi]
  unfold blkN hdf
  by_cases e : f = 0
  · simp only [e, if_true, List.nil_append, Nat.zero_add, Nat.add_zero]; exact hsel s
  · simp only [e, if_false]
    rw [List.getElem?_append_right (by simp)]
    simp only [List.length_cons, List.length_nil]
    rw [show 0 + 1 + i - (0 + 1) = i by lia]
    exact hsel (s + 1)
theorem blkN_hd {s : Nat} {f : Int} {w : Nat} (e : f ≠ 0) : (blkN s f w)[0]? = some (6, f) := by unfold blkN; rw [if_neg e]; rfl
/-- the queue as it may stand -/
structure QOK (L : Nat) (N : List Cell) (Q : List (Nat × Tr)) : Prop where
  nd : (Q.map (·.1)).Nodup
  inr : ∀ q ∈ Q, L ≤ q.1 ∧ q.1 < L + N.length
  self : ∀ q ∈ Q, N[q.1 - L]? = some (0, (q.1 : Int))
theorem QOK.tl {L : Nat} {N : List Cell} {q : Nat × Tr} {Q : List (Nat × Tr)} (h : QOK L N (q :: Q)) : QOK L N Q :=
  ⟨by have := h.nd; simp only [List.map_cons, List.nodup_cons] at this; exact this.2, fun q hq => h.inr q (.tail _ hq), fun q hq => h.self q (.tail _ hq)⟩
theorem QOK.set {L : Nat} {N : List Cell} {p : Nat} {t : Tr} {Q : List (Nat × Tr)} (h : QOK L N ((p, t) :: Q)) (z : Cell) : QOK L (N.set (p - L) z) Q := by
  have h1 := h.tl
  have hp := h.inr _ (.head _)
  have hn : p ∉ Q.map (·.1) := by have := h.nd; simp only [List.map_cons, List.nodup_cons] at this; exact this.1
  refine ⟨h1.nd, fun q hq => by rw [List.length_set]; exact h1.inr q hq, fun q hq => ?_⟩
  have hq1 := h1.inr q hq
  have hne : q.1 ≠ p := fun e => hn (e ▸ List.mem_map_of_mem (f := (·.1)) hq)
  rw [List.getElem?_set, if_neg (by simp only at hp; lia)]
  exact h1.self q hq
theorem places_fst : ∀ (as : List Tr) (b : Nat), (places b as).map (·.1) = (List.range as.length).map (b + ·)
  | [], _ => rfl
  | a :: as, b => by
    simp only [places, List.map_cons, places_fst as (b + 1), List.length_cons, List.range_succ_eq_map, List.map_map]
    congr 1
    apply List.map_congr_left
    intro i _; simp only [Function.comp]; lia
theorem QOK.app {L : Nat} {N : List Cell} {Q : List (Nat × Tr)} (h : QOK L N Q) (f : Int) (as : List Tr) : QOK L (N ++ blkN (L + N.length) f as.length) (Q ++ places (L + N.length + hdf f) as) := by
  refine ⟨?_, fun q hq => ?_, fun q hq => ?_⟩
  · rw [List.map_append, List.nodup_append]
    refine ⟨h.nd, ?_, fun a ha b hb e => ?_⟩
    · rw [places_fst]
      exact List.Pairwise.map _ (fun a b hab e => hab (by lia)) List.nodup_range
    · obtain ⟨q, hq, rfl⟩ := List.mem_map.mp ha
      obtain ⟨q', hq', rfl⟩ := List.mem_map.mp hb
      have := (h.inr q hq).2
      have := (places_bd hq').1
      lia
  · rw [List.length_append, blkN_len]
    rcases List.mem_append.mp hq with hq | hq
    · obtain ⟨a, b⟩ := h.inr q hq; exact ⟨a, by lia⟩
    · obtain ⟨a, b, _⟩ := places_bd hq; exact ⟨by lia, by lia⟩
  · rcases List.mem_append.mp hq with hq | hq
    · have := h.inr q hq
      rw [List.getElem?_append_left (by lia)]; exact h.self q hq
    · obtain ⟨a, b, _⟩ := places_bd hq
      rw [List.getElem?_append_right (by lia), show q.1 - L - N.length = hdf f + (q.1 - (L + N.length + hdf f)) by lia, blkN_get (by lia)]
      congr 2; lia
theorem LayQ.keepN {L : Nat} {N N' : List Cell} {T T' : List (Int × Cell)} {Q : List (Nat × Tr)} (a : LayQ L N T Q N' T') : QOK L N Q → N.length ≤ N'.length ∧ ∀ i, i < N.length → L + i ∉ Q.map (·.1) → N'[i]? = N[i]? := by
  have key : ∀ {N : List Cell} {p : Nat} {t : Tr} {Q : List (Nat × Tr)} {N' : List Cell} (z : Cell), QOK L N ((p, t) :: Q) → ((N.set (p - L) z).length ≤ N'.length ∧ ∀ i, i < (N.set (p - L) z).length → L + i ∉ Q.map (·.1) → N'[i]? = (N.set (p - L) z)[i]?) →
      N.length ≤ N'.length ∧ ∀ i, i < N.length → L + i ∉ ((p, t) :: Q).map (·.1) → N'[i]? = N[i]? := by
    intro N p t Q N' z h ⟨x, y⟩
    rw [List.length_set] at x y
    refine ⟨x, fun i hi hn => ?_⟩
    simp only [List.map_cons, List.mem_cons, not_or] at hn
    rw [y i hi hn.2, List.getElem?_set, if_neg (by have := (h.inr _ (.head _)).1; simp only at this; lia)]
  induction a with
  | nil => exact fun _ => ⟨Nat.le_refl _, fun _ _ _ => rfl⟩
  | old _ _ ih => exact fun h => key _ h (ih (h.set _))
  | atom _ ih => exact fun h => key _ h (ih (h.set _))
  | num _ ih => exact fun h => key _ h (ih (h.set _))
  | new _ _ ih =>
    intro h
    obtain ⟨x, y⟩ := ih h.tl
    exact ⟨x, fun i hi hn => y i hi fun q => hn (.tail _ q)⟩
  | @str N N' T T' Q p t f as hk _ ih =>
    intro h
    have hp := h.inr _ (.head _)
    simp only at hp
    have h2 : QOK L (N ++ blkN (L + N.length) f as.length) ((p, t) :: (Q ++ places (L + N.length + hdf f) as)) := by simpa using h.app f as
    obtain ⟨x, y⟩ := key (t := t) _ h2 (ih (h2.set _))
    rw [List.length_append] at x y
    refine ⟨by lia, fun i hi hn => ?_⟩
    rw [y i (by lia) ?_, List.getElem?_append_left hi]
    simp only [List.map_cons, List.map_append, List.mem_cons, List.mem_append, not_or] at hn ⊢
    refine ⟨hn.1, hn.2, fun q => ?_⟩
    obtain ⟨q', hq', e⟩ := List.mem_map.mp q
    have := (places_bd hq').1
    lia
theorem All2.split {α β : Type} {R : α → β → Prop} : ∀ {l l' : List α} {m : List β}, All2 R (l ++ l') m → ∃ m1 m2, m = m1 ++ m2 ∧ All2 R l m1 ∧ All2 R l' m2
  | [], l', m, h => ⟨[], m, rfl, trivial, h⟩
  | a :: l, l', [], h => h.elim
  | a :: l, l', b :: m, h => by
    obtain ⟨m1, m2, e, h1, h2⟩ := All2.split (l := l) h.2
    exact ⟨b :: m1, m2, by rw [e]; rfl, ⟨h.1, h1⟩, h2⟩
theorem Tr.bind_kids {θ : Int → Tr} {t : Tr} {f : Int} {as : List Tr} (h : t.kids = some (f, as)) : (t.bind θ).kids = some (f, as.map (Tr.bind θ)) := by
  cases t with
  | s1 g a => simp only [Tr.kids, Option.some.injEq, Prod.mk.injEq] at h; obtain ⟨rfl, rfl⟩ := h; rfl
  | s2 g a b => simp only [Tr.kids, Option.some.injEq, Prod.mk.injEq] at h; obtain ⟨rfl, rfl⟩ := h; rfl
  | _ => cases h
theorem RepL_of {H : List Cell} {θ : Int → Tr} : ∀ {as : List Tr} {b : Nat} {ls : List (List (Int × Nat))}, All2 (fun (q : Nat × Tr) l => ∃ u, H[q.1]? = some u ∧ Rep H (q.2.bind θ) u l) (places b as) ls → RepL H b (as.map (Tr.bind θ)) ls.flatten
  | [], b, [], _ => rfl
  | [], b, _ :: _, h => h.elim
  | a :: as, b, [], h => h.elim
  | a :: as, b, l :: ls, h => by
    obtain ⟨⟨u, h1, h2⟩, h3⟩ := h
    exact ⟨u, l, ls.flatten, h1, h2, RepL_of h3, rfl⟩
theorem kids_pos {t : Tr} {f : Int} {as : List Tr} (h : t.kids = some (f, as)) : 1 ≤ as.length := by
  cases t with
  | s1 g a => simp only [Tr.kids, Option.some.injEq, Prod.mk.injEq] at h; obtain ⟨_, rfl⟩ := h; simp
  | s2 g a b => simp only [Tr.kids, Option.some.injEq, Prod.mk.injEq] at h; obtain ⟨_, rfl⟩ := h; simp
  | _ => cases h
theorem bs_cellI (f : Int) (s : Nat) : (bs (cellI f (s : Int))).toNat = s + hdf f := by
  have := cell_base f s
  unfold bs
  rw [← cellOf_I, this, Int.toNat_natCast]
theorem der_cellI {H : List Cell} (f p : Int) : Der H (cellI f p) (cellI f p) := ⟨0, .here (by unfold cellI; split <;> simp) (by unfold cellI; split <;> simp)⟩
def SemR (Hf : List Cell) (θ : Int → Tr) (q : Nat × Tr) (l : List (Int × Nat)) : Prop := ∃ u, Hf[q.1]? = some u ∧ Rep Hf (q.2.bind θ) u l
theorem LayQ.sem {L : Nat} {N N' : List Cell} {T T' : List (Int × Cell)} {Q : List (Nat × Tr)} {H : List Cell} {θ : Int → Tr} (hH : H.length = L) (a : LayQ L N T Q N' T') : QOK L N Q → (∀ k z, lkC T' k = some z → Rep (H ++ N') (θ k) z []) →
    ∃ ls, All2 (SemR (H ++ N') θ) Q ls ∧ (ls.flatten.map (·.1)).Nodup ∧ ∀ e ∈ ls.flatten, ((L + N.length : Nat) : Int) ≤ e.1 := by
  have at_ : ∀ {N N' : List Cell} {p : Nat} {t : Tr} {Q : List (Nat × Tr)} {z : Cell}, QOK L N ((p, t) :: Q) → (∀ i, i < (N.set (p - L) z).length → L + i ∉ Q.map (·.1) → N'[i]? = (N.set (p - L) z)[i]?) → (H ++ N')[p]? = some z := by
    intro N N' p t Q z h k
    have hp := h.inr _ (.head _)
    simp only at hp
    have hn : p ∉ Q.map (·.1) := by have := h.nd; simp only [List.map_cons, List.nodup_cons] at this; exact this.1
    rw [List.getElem?_append_right (by omega), hH, k (p - L) (by rw [List.length_set]; omega) (by rw [show L + (p - L) = p by omega]; exact hn), List.getElem?_set, if_pos rfl, if_pos (by omega)]
  induction a with
  | nil => exact fun _ _ => ⟨[], trivial, by simp, by simp⟩
  | @old N N' T T' Q p k z hl r ih =>
    intro h hθ
    obtain ⟨ls, h1, h2, h3⟩ := ih (h.set _) hθ
    refine ⟨[] :: ls, ⟨⟨z, at_ h (r.keepN (h.set _)).2, hθ k z (r.keepT k z hl)⟩, h1⟩, by simpa using h2, fun e he => ?_⟩
    have := h3 e (by simpa using he); rw [List.length_set] at this; exact this
  | @new N N' T T' Q p k hl r ih =>
    intro h hθ
    obtain ⟨ls, h1, h2, h3⟩ := ih h.tl hθ
    have hp := h.inr _ (.head _)
    simp only at hp
    have hn : p ∉ Q.map (·.1) := by have := h.nd; simp only [List.map_cons, List.nodup_cons] at this; exact this.1
    have hc : (H ++ N')[p]? = some (0, (p : Int)) := by
      rw [List.getElem?_append_right (by omega), hH, (r.keepN h.tl).2 (p - L) (by omega) (by rw [show L + (p - L) = p by omega]; exact hn)]
      exact h.self _ (.head _)
    refine ⟨[] :: ls, ⟨⟨_, hc, hθ k _ (r.keepT k _ (by rw [lkC_app, hl]; simp [lkC]))⟩, h1⟩, by simpa using h2, fun e he => h3 e (by simpa using he)⟩
  | @atom N N' T T' Q p n r ih =>
    intro h hθ
    obtain ⟨ls, h1, h2, h3⟩ := ih (h.set _) hθ
    refine ⟨[] :: ls, ⟨⟨(4, n), at_ h (r.keepN (h.set _)).2, ⟨0, .here (by simp) (by simp)⟩, rfl⟩, h1⟩, by simpa using h2, fun e he => ?_⟩
    have := h3 e (by simpa using he); rw [List.length_set] at this; exact this
  | @num N N' T T' Q p n r ih =>
    intro h hθ
    obtain ⟨ls, h1, h2, h3⟩ := ih (h.set _) hθ
    refine ⟨[] :: ls, ⟨⟨(5, n), at_ h (r.keepN (h.set _)).2, ⟨0, .here (by simp) (by simp)⟩, rfl⟩, h1⟩, by simpa using h2, fun e he => ?_⟩
    have := h3 e (by simpa using he); rw [List.length_set] at this; exact this
  | @str N N' T T' Q p t f as hk r ih =>
    intro h hθ
    have hp := h.inr _ (.head _)
    simp only at hp
    have h2 : QOK L (N ++ blkN (L + N.length) f as.length) ((p, t) :: (Q ++ places (L + N.length + hdf f) as)) := by simpa using h.app f as
    have h3 := h2.set (cellOf f (L + N.length))
    obtain ⟨ls, x1, x2, x3⟩ := ih h3 hθ
    have hkeep := (r.keepN h3).2
    have hcell := at_ h2 hkeep
    obtain ⟨l1, l2, rfl, y1, y2⟩ := x1.split
    have hpos := kids_pos hk
    have hhd : f ≠ 0 → (H ++ N')[((L + N.length : Nat) : Int).toNat]? = some (6, f) := fun e => by
      have hd1 : hdf f = 1 := by unfold hdf; rw [if_neg e]
      rw [Int.toNat_natCast, List.getElem?_append_right (by omega), hH, show L + N.length - L = N.length by omega]
      rw [hkeep N.length (by rw [List.length_set, List.length_append, blkN_len]; omega) ?_, List.getElem?_set, if_neg (by omega), List.getElem?_append_right (Nat.le_refl _), Nat.sub_self]
      · exact blkN_hd e
      · rw [List.map_append, List.mem_append]
        rintro (q | q)
        · obtain ⟨q', hq', e'⟩ := List.mem_map.mp q
          have := (h.inr q' (.tail _ hq')).2; omega
        · obtain ⟨q', hq', e'⟩ := List.mem_map.mp q
          have := (places_bd hq').1; omega
    rw [List.length_set, List.length_append, blkN_len] at x3
    simp only [List.flatten_append, List.map_append, List.mem_append] at x2 x3
    rw [List.nodup_append] at x2
    obtain ⟨n1, n2, n3⟩ := x2
    refine ⟨((((L + N.length : Nat) : Int), (t.bind θ).size) :: l2.flatten) :: l1, ⟨⟨_, hcell, (Rep.node (Tr.bind_kids hk)).mpr ⟨((L + N.length : Nat) : Int), l2.flatten, ?_, by omega, hhd, ?_, rfl⟩⟩, y1⟩, ?_, ?_⟩
    · rw [cellOf_I]; exact der_cellI _ _
    · rw [bs_cellI]; exact RepL_of y2
    · simp only [List.flatten_cons, List.cons_append, List.map_cons, List.map_append, List.nodup_cons, List.mem_append, not_or]
      refine ⟨⟨fun q => ?_, fun q => ?_⟩, ?_⟩
      · obtain ⟨e, he, e'⟩ := List.mem_map.mp q
        have := x3 e (.inr he); omega
      · obtain ⟨e, he, e'⟩ := List.mem_map.mp q
        have := x3 e (.inl he); omega
      · rw [List.nodup_append]; exact ⟨n2, n1, fun a ha b hb e => n3 b hb a ha e.symm⟩
    · intro e he
      simp only [List.flatten_cons, List.cons_append, List.mem_cons, List.mem_append] at he
      rcases he with rfl | he | he
      · exact Int.le_refl _
      · have := x3 e (.inr he); omega
      · have := x3 e (.inl he); omega
theorem PutT.sem {L : Nat} {T T' : List (Int × Cell)} {t : Tr} {y : Cell} {N' H : List Cell} {θ : Int → Tr} (hH : H.length = L) (a : PutT L T t y N' T') (hθ : ∀ k z, lkC T' k = some z → Rep (H ++ N') (θ k) z []) :
    ∃ l, Rep (H ++ N') (t.bind θ) y l ∧ (l.map (·.1)).Nodup ∧ ∀ e ∈ l, (L : Int) ≤ e.1 := by
  cases a with
  | old h => exact ⟨[], hθ _ _ h, by simp, by simp⟩
  | @new k h => exact ⟨[], hθ k _ (by rw [lkC_app, h]; simp [lkC]), by simp, by simp⟩
  | atom => exact ⟨[], ⟨⟨0, .here (by simp) (by simp)⟩, rfl⟩, by simp, by simp⟩
  | num => exact ⟨[], ⟨⟨0, .here (by simp) (by simp)⟩, rfl⟩, by simp, by simp⟩
  | @str _ f as _ _ hk r =>
    have q0 : QOK L (blkN L f as.length) (places (L + hdf f) as) := by
      have := (QOK.app (L := L) (N := []) (Q := []) ⟨by simp, by simp, by simp⟩ f as)
      simpa using this
    obtain ⟨ls, x1, x2, x3⟩ := r.sem hH q0 hθ
    have hpos := kids_pos hk
    have hhd : f ≠ 0 → (H ++ N')[((L : Nat) : Int).toNat]? = some (6, f) := fun e => by
      have hd1 : hdf f = 1 := by unfold hdf; rw [if_neg e]
      rw [Int.toNat_natCast, List.getElem?_append_right (by omega), hH, Nat.sub_self]
      rw [(r.keepN q0).2 0 (by rw [blkN_len]; omega) ?_]
      · exact blkN_hd e
      · intro q
        obtain ⟨q', hq', e'⟩ := List.mem_map.mp q
        have := (places_bd hq').1; omega
    rw [blkN_len] at x3
    refine ⟨((L : Int), (t.bind θ).size) :: ls.flatten, (Rep.node (Tr.bind_kids hk)).mpr ⟨(L : Int), ls.flatten, ?_, by omega, hhd, ?_, rfl⟩, ?_, ?_⟩
    · rw [cellOf_I]; exact der_cellI _ _
    · rw [bs_cellI]; exact RepL_of x1
    · simp only [List.map_cons, List.nodup_cons]
      refine ⟨fun q => ?_, x2⟩
      obtain ⟨e, he, e'⟩ := List.mem_map.mp q
      have := x3 e he; omega
    · intro e he
      rcases List.mem_cons.mp he with rfl | he
      · exact Int.le_refl _
      · have := x3 e he; omega
/-! ## the tables -/
structure VOK (L : Nat) (N : List Cell) (Q : List (Nat × Tr)) (T : List (Int × Cell)) : Prop where
  nd : (T.map (·.2.2)).Nodup
  z : ∀ e ∈ T, e.2.1 = 0 ∧ e.2.2 < ((L + N.length : Nat) : Int) ∧ ∀ q ∈ Q, e.2.2 ≠ (q.1 : Int)
theorem VOK.set {L : Nat} {N : List Cell} {p i : Nat} {t : Tr} {z : Cell} {Q : List (Nat × Tr)} {T : List (Int × Cell)} (h : VOK L N ((p, t) :: Q) T) : VOK L (N.set i z) Q T :=
  ⟨h.nd, fun e he => ⟨(h.z e he).1, by rw [List.length_set]; exact (h.z e he).2.1, fun q hq => (h.z e he).2.2 q (.tail _ hq)⟩⟩
theorem LayQ.vok {L : Nat} {N N' : List Cell} {T T' : List (Int × Cell)} {Q : List (Nat × Tr)} (a : LayQ L N T Q N' T') : QOK L N Q → VOK L N Q T → VOK L N' [] T' ∧ ∀ e ∈ T', e ∈ T ∨ ((L : Int) ≤ e.2.2 ∧ N'[e.2.2.toNat - L]? = some e.2) := by
  induction a with
  | nil => exact fun _ h => ⟨⟨h.nd, fun e he => ⟨(h.z e he).1, (h.z e he).2.1, by simp⟩⟩, fun e he => .inl he⟩
  | old _ _ ih => exact fun h v => ih (h.set _) v.set
  | atom _ ih => exact fun h v => ih (h.set _) v.set
  | num _ ih => exact fun h v => ih (h.set _) v.set
  | @new N N' T T' Q p k hl r ih =>
    intro h v
    have hp := h.inr _ (.head _)
    simp only at hp
    have hn : p ∉ Q.map (·.1) := by have := h.nd; simp only [List.map_cons, List.nodup_cons] at this; exact this.1
    have v2 : VOK L N Q (T ++ [(k, (0, (p : Int)))]) := by
      refine ⟨?_, fun e he => ?_⟩
      · rw [List.map_append, List.nodup_append]
        refine ⟨v.nd, by simp, fun a ha b hb => ?_⟩
        obtain ⟨e, he, rfl⟩ := List.mem_map.mp ha
        simp at hb; subst hb
        exact (v.z e he).2.2 (p, .var k) (.head _)
      · rcases List.mem_append.mp he with he | he
        · exact ⟨(v.z e he).1, (v.z e he).2.1, fun q hq => (v.z e he).2.2 q (.tail _ hq)⟩
        · simp at he; subst he
          exact ⟨rfl, by simp only; omega, fun q hq e => hn (by have : p = q.1 := Int.ofNat.inj e
                                                                rw [this]; exact List.mem_map_of_mem (f := (·.1)) hq)⟩
    obtain ⟨x, y⟩ := ih h.tl v2
    refine ⟨x, fun e he => ?_⟩
    rcases y e he with h1 | h1
    · rcases List.mem_append.mp h1 with h1 | h1
      · exact .inl h1
      · simp at h1; subst h1
        refine .inr ⟨by simp only; omega, ?_⟩
        rw [show ((k, ((0 : Int), (p : Int))) : Int × Cell).2.2.toNat - L = p - L by simp, (r.keepN h.tl).2 (p - L) (by omega) (by rw [show L + (p - L) = p by omega]; exact hn)]
        exact h.self _ (.head _)
    · exact .inr h1
  | @str N N' T T' Q p t f as hk r ih =>
    intro h v
    have h2 : QOK L (N ++ blkN (L + N.length) f as.length) ((p, t) :: (Q ++ places (L + N.length + hdf f) as)) := by simpa using h.app f as
    refine ih (h2.set _) ⟨v.nd, fun e he => ⟨(v.z e he).1, ?_, fun q hq => ?_⟩⟩
    · have := (v.z e he).2.1; rw [List.length_set, List.length_append]; omega
    · rcases List.mem_append.mp hq with hq | hq
      · exact (v.z e he).2.2 q (.tail _ hq)
      · have := (v.z e he).2.1
        have := (places_bd hq).1
        omega
theorem PutT.vok {L : Nat} {T T' : List (Int × Cell)} {t : Tr} {y : Cell} {N' : List Cell} (a : PutT L T t y N' T') (v : VOK L [] [] T) : VOK L N' [] T' ∧ ∀ e ∈ T', e ∈ T ∨ ((L : Int) ≤ e.2.2 ∧ N'[e.2.2.toNat - L]? = some e.2) := by
  cases a with
  | old h => exact ⟨v, fun e he => .inl he⟩
  | @new k h =>
    refine ⟨⟨?_, fun e he => ?_⟩, fun e he => ?_⟩
    · rw [List.map_append, List.nodup_append]
      refine ⟨v.nd, by simp, fun a ha b hb e' => ?_⟩
      obtain ⟨e, he, rfl⟩ := List.mem_map.mp ha
      simp at hb; subst hb
      have := (v.z e he).2.1; simp at this; omega
    · rcases List.mem_append.mp he with he | he
      · exact ⟨(v.z e he).1, by have := (v.z e he).2.1; simp at this ⊢; omega, by simp⟩
      · simp at he; subst he; exact ⟨rfl, by simp only [List.length_cons, List.length_nil]; omega, by simp⟩
    · rcases List.mem_append.mp he with he | he
      · exact .inl he
      · simp at he; subst he; exact .inr ⟨Int.le_refl _, by simp⟩
  | atom => exact ⟨v, fun e he => .inl he⟩
  | num => exact ⟨v, fun e he => .inl he⟩
  | @str _ f as _ _ hk r =>
    have q0 : QOK L (blkN L f as.length) (places (L + hdf f) as) := by
      have := (QOK.app (L := L) (N := []) (Q := []) ⟨by simp, by simp, by simp⟩ f as)
      simpa using this
    refine r.vok q0 ⟨v.nd, fun e he => ⟨(v.z e he).1, by have := (v.z e he).2.1; simp at this ⊢; omega, fun q hq => ?_⟩⟩
    have h1 := (v.z e he).2.1
    have h2 := (places_bd hq).1
    simp only [List.length_nil, Nat.add_zero] at h1
    omega
/-! ## renaming and numbering -/
theorem Tr.vars_map (ψ : Int → Int) : ∀ t : Tr, (t.map ψ).vars = t.vars.map ψ
  | .var _ => rfl
  | .atom _ => rfl
  | .num _ => rfl
  | .s1 _ a => Tr.vars_map ψ a
  | .s2 _ a b => by simp only [Tr.map, Tr.vars, List.map_append, Tr.vars_map ψ a, Tr.vars_map ψ b]
theorem Tr.map_map (ψ χ : Int → Int) : ∀ t : Tr, (t.map ψ).map χ = t.map fun k => χ (ψ k)
  | .var _ => rfl
  | .atom _ => rfl
  | .num _ => rfl
  | .s1 _ a => by simp only [Tr.map, Tr.map_map ψ χ a]
  | .s2 _ a b => by simp only [Tr.map, Tr.map_map ψ χ a, Tr.map_map ψ χ b]
theorem Tr.bind_var {θ : Int → Tr} {ψ : Int → Int} : ∀ {t : Tr}, (∀ k ∈ t.vars, θ k = .var (ψ k)) → t.bind θ = t.map ψ
  | .var k, h => h k (.head _)
  | .atom _, _ => rfl
  | .num _, _ => rfl
  | .s1 _ a, h => by simp only [Tr.bind, Tr.map, Tr.bind_var (t := a) h]
  | .s2 _ a b, h => by simp only [Tr.bind, Tr.map, Tr.bind_var (t := a) fun k hk => h k (List.mem_append_left _ hk), Tr.bind_var (t := b) fun k hk => h k (List.mem_append_right _ hk)]
theorem Tr.bind_ok {F : List Cell} {θ : Int → Tr} : ∀ {t : Tr}, t.okF F → (∀ k ∈ t.vars, (θ k).okF F) → (t.bind θ).okF F
  | .var k, _, h => h k (.head _)
  | .atom _, _, _ => trivial
  | .num _, _, _ => trivial
  | .s1 _ a, ⟨h1, h2, h3, h4⟩, h => ⟨h1, h2, h3, Tr.bind_ok (t := a) h4 h⟩
  | .s2 _ a b, ⟨h1, h2, h3, h4, h5⟩, h => ⟨h1, h2, h3, Tr.bind_ok (t := a) h4 fun k hk => h k (List.mem_append_left _ hk), Tr.bind_ok (t := b) h5 fun k hk => h k (List.mem_append_right _ hk)⟩
theorem Tr.map_ok {F : List Cell} (ψ : Int → Int) : ∀ {t : Tr}, t.okF F → (t.map ψ).okF F
  | .var _, _ => trivial
  | .atom _, _ => trivial
  | .num _, _ => trivial
  | .s1 _ a, ⟨h1, h2, h3, h4⟩ => ⟨h1, h2, h3, Tr.map_ok ψ h4⟩
  | .s2 _ a b, ⟨h1, h2, h3, h4, h5⟩ => ⟨h1, h2, h3, Tr.map_ok ψ h4, Tr.map_ok ψ h5⟩
theorem Tr.bind_size {θ : Int → Tr} : ∀ {t : Tr}, (∀ k ∈ t.vars, (θ k).size = 1) → (t.bind θ).size = t.size
  | .var k, h => h k (.head _)
  | .atom _, _ => rfl
  | .num _, _ => rfl
  | .s1 _ a, h => by simp only [Tr.bind, Tr.size, Tr.bind_size (t := a) h]
  | .s2 _ a b, h => by simp only [Tr.bind, Tr.size, Tr.bind_size (t := a) fun k hk => h k (List.mem_append_left _ hk), Tr.bind_size (t := b) fun k hk => h k (List.mem_append_right _ hk)]
section
variable {ψ : Int → Int} {S : Int → Prop} (inj : ∀ a b, S a → S b → ψ a = ψ b → a = b)
include inj
theorem mem_map_inj {Vs : List Int} (hV : ∀ k ∈ Vs, S k) {k : Int} (hk : S k) : ψ k ∈ Vs.map ψ ↔ k ∈ Vs := by
  constructor
  · intro h
    obtain ⟨k', h1, h2⟩ := List.mem_map.mp h
    have := inj _ _ (hV _ h1) hk h2; subst this; exact h1
  · exact fun h => List.mem_map_of_mem h
theorem addV_map {Vs : List Int} (hV : ∀ k ∈ Vs, S k) {k : Int} (hk : S k) : addV (Vs.map ψ) (ψ k) = (addV Vs k).map ψ := by
  unfold addV
  by_cases h : k ∈ Vs
  · rw [if_pos h, if_pos ((mem_map_inj inj hV hk).mpr h)]
  · rw [if_neg h, if_neg (fun q => h ((mem_map_inj inj hV hk).mp q))]; simp
theorem foldl_map : ∀ (ks Vs : List Int), (∀ k ∈ Vs, S k) → (∀ k ∈ ks, S k) → (ks.map ψ).foldl addV (Vs.map ψ) = (ks.foldl addV Vs).map ψ
  | [], _, _, _ => rfl
  | k :: ks, Vs, hV, hk => by
    rw [List.map_cons, List.foldl_cons, List.foldl_cons, addV_map inj hV (hk k (.head _))]
    refine foldl_map ks _ (fun k' h' => ?_) fun k' h' => hk k' (.tail _ h')
    unfold addV at h'
    split at h'
    · exact hV _ h'
    · rcases List.mem_append.mp h' with h' | h'
      · exact hV _ h'
      · simp at h'; subst h'; exact hk _ (.head _)
theorem numV_map {Vs : List Int} {t : Tr} (hV : ∀ k ∈ Vs, S k) (ht : ∀ k ∈ t.vars, S k) : numV (Vs.map ψ) (t.map ψ) = (numV Vs t).map ψ := by
  unfold numV; rw [Tr.vars_map]; exact foldl_map inj _ _ hV ht
theorem idx_map {Vs : List Int} (hV : ∀ k ∈ Vs, S k) {k : Int} (hk : S k) : idx (Vs.map ψ) (ψ k) = idx Vs k := by
  unfold idx
  congr 1
  induction Vs with
  | nil => rfl
  | cons v Vs ih =>
    rw [List.map_cons, List.idxOf_cons, List.idxOf_cons, ih fun k h => hV k (.tail _ h)]
    by_cases e : v = k
    · subst e; simp
    · have : ¬ ψ v = ψ k := fun q => e (inj _ _ (hV v (.head _)) hk q)
      have h1 : (ψ v == ψ k) = false := by simpa using this
      have h2 : (v == k) = false := by simpa using e
      rw [h1, h2]
theorem read_map {Vs : List Int} {t : Tr} (hV : ∀ k ∈ Vs, S k) (ht : ∀ k ∈ t.vars, S k) : (t.map ψ).map (idx (numV (Vs.map ψ) (t.map ψ))) = t.map (idx (numV Vs t)) := by
  rw [numV_map inj hV ht, Tr.map_map]
  have hN : ∀ k ∈ numV Vs t, S k := fun k hk => (foldl_sub _ _ k hk).elim (hV k) (ht k)
  exact Tr.map_congr fun k hk => idx_map inj hN (ht k hk)
end
theorem idx_inj {Vs : List Int} {a b : Int} (ha : a ∈ Vs) (hb : b ∈ Vs) (e : idx Vs a = idx Vs b) : a = b := by
  unfold idx at e
  have e : Vs.idxOf a = Vs.idxOf b := Int.ofNat.inj e
  have h1 := List.getElem_idxOf (List.idxOf_lt_length_of_mem ha)
  have h2 := List.getElem_idxOf (List.idxOf_lt_length_of_mem hb)
  rw [← h1, ← h2]
  congr 1
theorem LayQ.has {L : Nat} {N N' : List Cell} {T T' : List (Int × Cell)} {Q : List (Nat × Tr)} (a : LayQ L N T Q N' T') : ∀ q ∈ Q, ∀ k ∈ q.2.vars, ∃ z, lkC T' k = some z := by
  induction a with
  | nil => exact fun q h => nomatch h
  | old hl r ih =>
    intro q hq k' hk'
    rcases List.mem_cons.mp hq with rfl | hq
    · simp [Tr.vars] at hk'; subst hk'; exact ⟨_, r.keepT _ _ hl⟩
    · exact ih q hq k' hk'
  | new hl r ih =>
    intro q hq k' hk'
    rcases List.mem_cons.mp hq with rfl | hq
    · simp [Tr.vars] at hk'; subst hk'; exact ⟨_, r.keepT _ _ (by rw [lkC_app, hl]; simp [lkC]; rfl)⟩
    · exact ih q hq k' hk'
  | atom r ih =>
    intro q hq k' hk'
    rcases List.mem_cons.mp hq with rfl | hq
    · simp [Tr.vars] at hk'
    · exact ih q hq k' hk'
  | num r ih =>
    intro q hq k' hk'
    rcases List.mem_cons.mp hq with rfl | hq
    · simp [Tr.vars] at hk'
    · exact ih q hq k' hk'
  | @str N N' T T' Q p t f as hk r ih =>
    intro q hq k' hk'
    rcases List.mem_cons.mp hq with rfl | hq
    · have hin : ∃ a ∈ as, k' ∈ a.vars := by
        cases t with
        | s1 g a => simp only [Tr.kids, Option.some.injEq, Prod.mk.injEq] at hk; obtain ⟨_, rfl⟩ := hk; exact ⟨a, .head _, hk'⟩
        | s2 g a b =>
          simp only [Tr.kids, Option.some.injEq, Prod.mk.injEq] at hk; obtain ⟨_, rfl⟩ := hk
          rcases List.mem_append.mp hk' with h | h
          · exact ⟨a, .head _, h⟩
          · exact ⟨b, .tail _ (.head _), h⟩
        | _ => cases hk
      obtain ⟨a, ha, hka⟩ := hin
      have : ∀ {as : List Tr} {b : Nat}, a ∈ as → ∃ q ∈ places b as, q.2 = a := by
        intro as
        induction as with
        | nil => exact fun h => nomatch h
        | cons x as ihp =>
          intro b h
          rcases List.mem_cons.mp h with rfl | h
          · exact ⟨(b, a), .head _, rfl⟩
          · obtain ⟨q, h1, h2⟩ := ihp (b := b + 1) h; exact ⟨q, .tail _ h1, h2⟩
      obtain ⟨q, h1, h2⟩ := this (b := L + N.length + hdf f) ha
      exact ih q (List.mem_append_right _ h1) k' (by rw [h2]; exact hka)
    · exact ih q (List.mem_append_left _ hq) k' hk'
theorem PutT.keepT {L : Nat} {T T' : List (Int × Cell)} {t : Tr} {y : Cell} {N' : List Cell} (a : PutT L T t y N' T') : ∀ k z, lkC T k = some z → lkC T' k = some z := by
  cases a with
  | old _ => exact fun _ _ h => h
  | new _ => exact fun _ _ h => lkC_app_l h
  | atom => exact fun _ _ h => h
  | num => exact fun _ _ h => h
  | str _ r => exact r.keepT
theorem places_has {a : Tr} : ∀ {as : List Tr} {b : Nat}, a ∈ as → ∃ q ∈ places b as, q.2 = a
  | [], _, h => nomatch h
  | x :: as, b, h => by
    rcases List.mem_cons.mp h with rfl | h
    · exact ⟨(b, a), .head _, rfl⟩
    · obtain ⟨q, h1, h2⟩ := places_has (as := as) (b := b + 1) h; exact ⟨q, .tail _ h1, h2⟩
theorem PutT.has {L : Nat} {T T' : List (Int × Cell)} {t : Tr} {y : Cell} {N' : List Cell} (a : PutT L T t y N' T') : ∀ k ∈ t.vars, ∃ z, lkC T' k = some z := by
  cases a with
  | old h => intro k' hk'; simp [Tr.vars] at hk'; subst hk'; exact ⟨_, h⟩
  | @new k h => intro k' hk'; simp [Tr.vars] at hk'; subst hk'; exact ⟨_, by rw [lkC_app, h]; simp [lkC]; rfl⟩
  | atom => intro k' hk'; simp [Tr.vars] at hk'
  | num => intro k' hk'; simp [Tr.vars] at hk'
  | @str _ f as _ _ hk r =>
    intro k' hk'
    have hin : ∃ a ∈ as, k' ∈ a.vars := by
      cases t with
      | s1 g a => simp only [Tr.kids, Option.some.injEq, Prod.mk.injEq] at hk; obtain ⟨_, rfl⟩ := hk; exact ⟨a, .head _, hk'⟩
      | s2 g a b =>
        simp only [Tr.kids, Option.some.injEq, Prod.mk.injEq] at hk; obtain ⟨_, rfl⟩ := hk
        rcases List.mem_append.mp hk' with h | h
        · exact ⟨a, .head _, h⟩
        · exact ⟨b, .tail _ (.head _), h⟩
      | _ => cases hk
    obtain ⟨a, ha, hka⟩ := hin
    obtain ⟨q, h1, h2⟩ := places_has (b := L + hdf f) ha
    exact r.has q h1 k' (by rw [h2]; exact hka)
theorem Rep.mono {H H' : List Cell} (h : ∀ (p : Nat) (c : Cell), H[p]? = some c → H'[p]? = some c) : ∀ {t : Tr} {x : Cell} {l : List (Int × Nat)}, Rep H t x l → Rep H' t x l
  | .var _, _, _, r => ⟨r.1.mono h, r.2⟩
  | .atom _, _, _, r => ⟨r.1.mono h, r.2⟩
  | .num _, _, _, r => ⟨r.1.mono h, r.2⟩
  | .s1 _ a, _, _, r => by
    obtain ⟨p, u, la, h1, h2, h3, h4, h5, h6⟩ := r
    exact ⟨p, u, la, h1.mono h, h2, fun e => h _ _ (h3 e), h _ _ h4, Rep.mono h (t := a) h5, h6⟩
  | .s2 _ a b, _, _, r => by
    obtain ⟨p, u, v, la, lb, h1, h2, h3, h4, h4', h5, h5', h6⟩ := r
    exact ⟨p, u, v, la, lb, h1.mono h, h2, fun e => h _ _ (h3 e), h _ _ h4, h _ _ h4', Rep.mono h (t := a) h5, Rep.mono h (t := b) h5', h6⟩
theorem VOK.inj {L : Nat} {N : List Cell} {Q : List (Nat × Tr)} : ∀ {T : List (Int × Cell)}, (T.map (·.2.2)).Nodup → ∀ {e e' : Int × Cell}, e ∈ T → e' ∈ T → e.2.2 = e'.2.2 → e = e'
  | [], _, _, _, h, _, _ => nomatch h
  | a :: T, nd, e, e', h, h', q => by
    simp only [List.map_cons, List.nodup_cons] at nd
    rcases List.mem_cons.mp h with h1 | h1 <;> rcases List.mem_cons.mp h' with h2 | h2
    · rw [h1, h2]
    · subst h1; exact absurd (by rw [q]; exact List.mem_map_of_mem (f := (·.2.2)) h2) nd.1
    · subst h2; exact absurd (by rw [← q]; exact List.mem_map_of_mem (f := (·.2.2)) h1) nd.1
    · exact VOK.inj (L := L) (N := N) (Q := Q) nd.2 h1 h2 q
theorem copies {H2 M1 M2 : List Cell} {L : Nat} (hL : H2.length = L) {tb1 tb2 : Tr} {y1 y2 : Cell} {C1 C2 : List (Int × Cell)} (p1 : PutT L [] tb1 y1 M1 C1) (p2 : PutT (L + M1.length) C1 tb2 y2 M2 C2) :
    ∃ ψ : Int → Int, (∀ a b, (∃ z, lkC C2 a = some z) → (∃ z, lkC C2 b = some z) → ψ a = ψ b → a = b) ∧
      (∃ l, Rep (H2 ++ M1 ++ M2) (tb1.map ψ) y1 l ∧ (l.map (·.1)).Nodup) ∧ ∃ l, Rep (H2 ++ M1 ++ M2) (tb2.map ψ) y2 l ∧ (l.map (·.1)).Nodup := by
  obtain ⟨v1, w1⟩ := p1.vok ⟨by simp, by simp⟩
  obtain ⟨v2, w2⟩ := p2.vok ⟨v1.nd, fun e he => ⟨(v1.z e he).1, by have := (v1.z e he).2.1; simpa using this, by simp⟩⟩
  have s1 : ∀ e ∈ C1, e.2.1 = 0 ∧ 0 ≤ e.2.2 ∧ (H2 ++ M1)[e.2.2.toNat]? = some e.2 := fun e he => by
    rcases w1 e he with h | ⟨h1, h2⟩
    · cases h
    · exact ⟨(v1.z e he).1, by lia, by rw [List.getElem?_append_right (by lia), hL]; exact h2⟩
  have pre : ∀ (p : Nat) (c : Cell), (H2 ++ M1)[p]? = some c → (H2 ++ M1 ++ M2)[p]? = some c := fun p c h => by
    rw [List.getElem?_append_left (List.getElem?_eq_some_iff.mp h).1]; exact h
  have s2 : ∀ e ∈ C2, e.2.1 = 0 ∧ 0 ≤ e.2.2 ∧ (H2 ++ M1 ++ M2)[e.2.2.toNat]? = some e.2 := fun e he => by
    rcases w2 e he with h | ⟨h1, h2⟩
    · obtain ⟨a, b, c⟩ := s1 e h; exact ⟨a, b, pre _ _ c⟩
    · exact ⟨(v2.z e he).1, by lia, by rw [List.getElem?_append_right (by rw [List.length_append]; lia), List.length_append, hL]; exact h2⟩
  have hψ : ∀ k z, lkC C2 k = some z → ((lkC C2 k).getD (0, 0)).2 = z.2 := fun k z h => by rw [h]; rfl
  have der : ∀ {H : List Cell} {z : Cell}, z.1 = 0 → 0 ≤ z.2 → H[z.2.toNat]? = some z → Der H z (0, z.2) := fun {H z} h0 h1 h2 => by
    have e : z = (0, z.2) := Prod.ext h0 rfl
    rw [← e]; exact ⟨0, .self h0 h1 h2⟩
  refine ⟨fun k => ((lkC C2 k).getD (0, 0)).2, ?_, ?_, ?_⟩
  · rintro a b ⟨z, ha⟩ ⟨z', hb⟩ e
    simp only [ha, hb, Option.getD_some] at e
    have := VOK.inj (L := 0) (N := []) (Q := []) v2.nd (lkC_mem ha) (lkC_mem hb) e
    exact congrArg Prod.fst this
  · obtain ⟨l, r, nd, _⟩ := p1.sem hL (θ := fun k => .var ((lkC C2 k).getD (0, 0)).2) fun k z h => by
      obtain ⟨a, b, c⟩ := s1 _ (lkC_mem h)
      refine ⟨?_, rfl⟩
      rw [hψ k z (p2.keepT k z h)]; exact der a b c
    rw [Tr.bind_var fun k _ => rfl] at r
    exact ⟨l, r.mono pre, nd⟩
  · obtain ⟨l, r, nd, _⟩ := p2.sem (H := H2 ++ M1) (by rw [List.length_append, hL]) (θ := fun k => .var ((lkC C2 k).getD (0, 0)).2) fun k z h => by
      obtain ⟨a, b, c⟩ := s2 _ (lkC_mem h)
      refine ⟨?_, rfl⟩
      rw [hψ k z h]; exact der a b c
    rw [Tr.bind_var fun k _ => rfl] at r
    exact ⟨l, r, nd⟩
/-- the copies are read out again as the terms were -/
theorem copies_read {C1 C2 : List (Int × Cell)} {L L2 : Nat} {tb1 tb2 : Tr} {y1 y2 : Cell} {M1 M2 : List Cell} (p1 : PutT L [] tb1 y1 M1 C1) (p2 : PutT L2 C1 tb2 y2 M2 C2) {ψ : Int → Int}
    (inj : ∀ a b, (∃ z, lkC C2 a = some z) → (∃ z, lkC C2 b = some z) → ψ a = ψ b → a = b) :
    (tb1.map ψ).map (idx (numV [] (tb1.map ψ))) = tb1.map (idx (numV [] tb1)) ∧ (tb2.map ψ).map (idx (numV (numV [] (tb1.map ψ)) (tb2.map ψ))) = tb2.map (idx (numV (numV [] tb1) tb2)) := by
  have h1 : ∀ k ∈ tb1.vars, ∃ z, lkC C2 k = some z := fun k hk => by obtain ⟨z, h⟩ := p1.has k hk; exact ⟨z, p2.keepT k z h⟩
  have h2 : ∀ k ∈ tb2.vars, ∃ z, lkC C2 k = some z := p2.has
  have e1 : numV [] (tb1.map ψ) = (numV [] tb1).map ψ := numV_map (Vs := []) inj (by simp) h1
  refine ⟨read_map (Vs := []) inj (by simp) h1, ?_⟩
  rw [e1]
  refine read_map inj (fun k hk => ?_) h2
  rcases foldl_sub _ _ k hk with h | h
  · cases h
  · exact h1 k h
/-- put in from the numbered terms: the same cells -/
theorem puts_same {L L2 : Nat} {tb1 tb2 : Tr} {y1 y2 : Cell} {M1 M2 : List Cell} {C1 C2 : List (Int × Cell)} (p1 : PutT L [] tb1 y1 M1 C1) (p2 : PutT L2 C1 tb2 y2 M2 C2) :
    ∃ T1 T2, PutT L [] (tb1.map (idx (numV [] tb1))) y1 M1 T1 ∧ PutT L2 T1 (tb2.map (idx (numV (numV [] tb1) tb2))) y2 M2 T2 := by
  have inj : ∀ a b, a ∈ numV (numV [] tb1) tb2 → b ∈ numV (numV [] tb1) tb2 → idx (numV (numV [] tb1) tb2) a = idx (numV (numV [] tb1) tb2) b → a = b := fun a b => idx_inj
  have hsub : ∀ k ∈ tb1.vars, k ∈ numV (numV [] tb1) tb2 := fun k hk => by
    obtain ⟨E, e⟩ := foldl_ext tb2.vars (numV [] tb1)
    show k ∈ tb2.vars.foldl addV (numV [] tb1)
    rw [e]; exact List.mem_append_left _ (foldl_mem _ _ k hk)
  obtain ⟨q1, r1⟩ := p1.map (φ := idx (numV (numV [] tb1) tb2)) inj (by simp) hsub
  obtain ⟨q2, _⟩ := p2.map (φ := idx (numV (numV [] tb1) tb2)) inj r1 fun k hk => foldl_mem _ _ k hk
  have e : tb1.map (idx (numV (numV [] tb1) tb2)) = tb1.map (idx (numV [] tb1)) := idx_stable _
  rw [e] at q1
  exact ⟨_, _, q1, q2⟩
/-! ## the heap of four variables, and the two terms put into it -/
def VH (H : List Cell) : Prop := ∀ i : Nat, i < H.length → H[i]? = some (0, (i : Int)) ∨ H[i]? = some (4, 0) ∨ (∃ n, H[i]? = some (5, n)) ∨ ∃ j : Nat, j < i ∧ H[i]? = some (0, (j : Int))
theorem Der.via {H : List Cell} {i : Nat} {c d : Cell} (hi : H[i]? = some c) (hne : c ≠ (0, (i : Int))) (hd : Der H c d) : Der H (0, (i : Int)) d := by
  obtain ⟨n, h⟩ := hd
  exact ⟨n + 1, .step rfl (by simp) (by simpa using hi) hne h⟩
theorem Rep.via {H : List Cell} {i : Nat} {c : Cell} {u : Tr} (hi : H[i]? = some c) (hne : c ≠ (0, (i : Int))) (hk : u.kids = none) (r : Rep H u c []) : Rep H u (0, (i : Int)) [] := by
  cases u with
  | s1 => cases hk
  | s2 => cases hk
  | var k => exact ⟨r.1.via hi hne, rfl⟩
  | atom k => exact ⟨r.1.via hi hne, rfl⟩
  | num k => exact ⟨r.1.via hi hne, rfl⟩
theorem VH.rep {H : List Cell} (h : VH H) : ∀ i : Nat, i < H.length → ∃ u : Tr, u.kids = none ∧ Rep H u (0, (i : Int)) [] := by
  intro i
  induction i using Nat.strongRecOn with
  | ind i ih =>
    intro hi
    rcases h i hi with e | e | ⟨n, e⟩ | ⟨j, hj, e⟩
    · exact ⟨.var i, rfl, ⟨0, .self rfl (by simp) (by simpa using e)⟩, rfl⟩
    · exact ⟨.atom 0, rfl, Rep.via e (by simp) rfl ⟨⟨0, .here (by simp) (by simp)⟩, rfl⟩⟩
    · exact ⟨.num n, rfl, Rep.via e (by simp) rfl ⟨⟨0, .here (by simp) (by simp)⟩, rfl⟩⟩
    · obtain ⟨u, hk, r⟩ := ih j hj (by lia)
      exact ⟨u, hk, Rep.via e (fun q => by have := congrArg Prod.snd q; simp at this; lia) hk r⟩
theorem leaf_size {u : Tr} (h : u.kids = none) : u.size = 1 := by
  cases u with
  | s1 => cases h
  | s2 => cases h
  | _ => rfl
theorem leaf_ok {F : List Cell} {u : Tr} (h : u.kids = none) : u.okF F := by
  cases u with
  | s1 => cases h
  | s2 => cases h
  | _ => trivial
theorem put_two {H0 N1 N2 : List Cell} (hV : VH H0) {T0 : List (Int × Cell)} (hT0 : ∀ k z, lkC T0 k = some z → ∃ i : Nat, i < H0.length ∧ k = (i : Int) ∧ z = (0, (i : Int))) {F : List Cell} {t1 t2 : Tr} (k1 : t1.okF F) (k2 : t2.okF F) {y1 y2 : Cell}
    (p1 : PutT H0.length T0 t1 y1 N1 T0) (p2 : PutT (H0.length + N1.length) T0 t2 y2 N2 T0) :
    ∃ tb1 tb2 l1 l2, tb1.okF F ∧ tb2.okF F ∧ tb1.size = t1.size ∧ tb2.size = t2.size ∧ Rep (H0 ++ N1 ++ N2) tb1 y1 l1 ∧ (l1.map (·.1)).Nodup ∧ Rep (H0 ++ N1 ++ N2) tb2 y2 l2 ∧ (l2.map (·.1)).Nodup := by
  have hex : ∀ k : Int, ∃ u : Tr, u.kids = none ∧ ∀ i : Nat, i < H0.length → k = (i : Int) → Rep H0 u (0, (i : Int)) [] := fun k => by
    by_cases h : ∃ i : Nat, i < H0.length ∧ k = (i : Int)
    · obtain ⟨i, hi, e⟩ := h
      obtain ⟨u, hk, r⟩ := hV.rep i hi
      refine ⟨u, hk, fun j _ e' => ?_⟩
      have : j = i := by lia
      subst this; exact r
    · exact ⟨.atom 0, rfl, fun i hi e => absurd ⟨i, hi, e⟩ h⟩
  have hch : ∃ θ : Int → Tr, ∀ k, (θ k).kids = none ∧ ∀ i : Nat, i < H0.length → k = (i : Int) → Rep H0 (θ k) (0, (i : Int)) [] := ⟨fun k => (hex k).choose, fun k => (hex k).choose_spec⟩
  obtain ⟨θ, hθ⟩ := hch
  have pre1 : ∀ (p : Nat) (c : Cell), H0[p]? = some c → (H0 ++ N1)[p]? = some c := fun p c h => by
    rw [List.getElem?_append_left (List.getElem?_eq_some_iff.mp h).1]; exact h
  have pre2 : ∀ (p : Nat) (c : Cell), (H0 ++ N1)[p]? = some c → (H0 ++ N1 ++ N2)[p]? = some c := fun p c h => by
    rw [List.getElem?_append_left (List.getElem?_eq_some_iff.mp h).1]; exact h
  obtain ⟨l1, r1, n1, _⟩ := p1.sem rfl (θ := θ) fun k z h => by
    obtain ⟨i, hi, e, rfl⟩ := hT0 k z h
    exact ((hθ k).2 i hi e).mono pre1
  obtain ⟨l2, r2, n2, _⟩ := p2.sem (H := H0 ++ N1) (by rw [List.length_append]) (θ := θ) fun k z h => by
    obtain ⟨i, hi, e, rfl⟩ := hT0 k z h
    exact (((hθ k).2 i hi e).mono pre1).mono pre2
  exact ⟨t1.bind θ, t2.bind θ, l1, l2, Tr.bind_ok k1 fun k _ => leaf_ok (hθ k).1, Tr.bind_ok k2 fun k _ => leaf_ok (hθ k).1, Tr.bind_size fun k _ => leaf_size (hθ k).1, Tr.bind_size fun k _ => leaf_size (hθ k).1, r1.mono pre2, n1, r2, n2⟩
theorem LayQ.sameT {L : Nat} {N N' : List Cell} {T T' : List (Int × Cell)} {Q : List (Nat × Tr)} (a : LayQ L N T Q N' T') : (∀ q ∈ Q, ∀ k ∈ q.2.vars, ∃ z, lkC T k = some z) → T' = T := by
  induction a with
  | nil => exact fun _ => rfl
  | old _ _ ih => exact fun h => ih fun q hq => h q (.tail _ hq)
  | atom _ ih => exact fun h => ih fun q hq => h q (.tail _ hq)
  | num _ ih => exact fun h => ih fun q hq => h q (.tail _ hq)
  | @new _ _ _ _ _ p k hl _ _ =>
    intro h
    obtain ⟨z, hz⟩ := h (p, .var k) (.head _) k (.head _)
    rw [hl] at hz; cases hz
  | @str _ _ _ _ _ p t f as hk _ ih =>
    intro h
    refine ih fun q hq => ?_
    rcases List.mem_append.mp hq with hq | hq
    · exact h q (.tail _ hq)
    · exact fun k hk' => h (p, t) (.head _) k (kids_vars hk _ (places_mem hq) k hk')
theorem PutT.sameT {L : Nat} {T T' : List (Int × Cell)} {t : Tr} {y : Cell} {N' : List Cell} (a : PutT L T t y N' T') (h : ∀ k ∈ t.vars, ∃ z, lkC T k = some z) : T' = T := by
  cases a with
  | old _ => rfl
  | new hl => obtain ⟨z, hz⟩ := h _ (.head _); rw [hl] at hz; cases hz
  | atom => rfl
  | num => rfl
  | str hk r => exact r.sameT fun q hq k hk' => h k (kids_vars hk _ (places_mem hq) k hk')
/-- how many cells a term takes -/
theorem LayQ.len {F : List Cell} {L : Nat} {N N' : List Cell} {T T' : List (Int × Cell)} {Q : List (Nat × Tr)} (a : LayQ L N T Q N' T') : N'.length ≤ N.length + 3 * qsz Q := by
  induction a with
  | nil => simp [qsz]
  | old _ _ ih => simp only [List.length_set, qsz, List.map_cons, List.sum_cons] at ih ⊢; lia
  | atom _ ih => simp only [List.length_set, qsz, List.map_cons, List.sum_cons] at ih ⊢; lia
  | num _ ih => simp only [List.length_set, qsz, List.map_cons, List.sum_cons] at ih ⊢; lia
  | new _ _ ih => simp only [qsz, List.map_cons, List.sum_cons] at ih ⊢; lia
  | @str N _ _ _ Q p t f as hk _ ih =>
    have h1 := Tr.kids_size hk
    have h2 : as.length ≤ 2 := by
      cases t with
      | s1 => simp only [Tr.kids, Option.some.injEq, Prod.mk.injEq] at hk; obtain ⟨_, rfl⟩ := hk; simp
      | s2 => simp only [Tr.kids, Option.some.injEq, Prod.mk.injEq] at hk; obtain ⟨_, rfl⟩ := hk; simp
      | _ => cases hk
    have h3 : hdf f ≤ 1 := by unfold hdf; split <;> lia
    rw [List.length_set, List.length_append, blkN_len, qsz_app, qsz_places] at ih
    simp only [qsz, List.map_cons, List.sum_cons] at ih ⊢; lia
/-! ## two stores -/
noncomputable def WA4.sw (W : WA4) (S' : StA) : WA4 := ⟨S', W.Y, W.U, W.l, W.ns⟩
theorem Wd.swap {W : WA4} {S' : StA} {H H' : List Cell} {D : Sy} {X : List (Addr × O)} {σ : Sg} (w : Wd W H D ((S'.a, .inst 380 S'.d) :: (S'.d, .sdict S'.fields) :: (S'.h, .list (H'.map enc)) :: X) σ) (hb : S'.b = W.Y.b) :
    Wd (W.sw S') H' D ((W.S.a, .inst 380 W.S.d) :: (W.S.d, .sdict W.S.fields) :: (W.S.h, .list (H.map enc)) :: X) σ := by
  have x0 := nin_adr.mp (w.xb (S'.a, .inst 380 S'.d) (.head _))
  have x1 := nin_adr.mp (w.xb (S'.d, .sdict S'.fields) (.tail _ (.head _)))
  have x2 := nin_adr.mp (w.xb (S'.h, .list (H'.map enc)) (.tail _ (.tail _ (.head _))))
  obtain ⟨u', k', hu, _⟩ := w.un.u
  have li := w.un.li
  have a1 := w.st.a; have a2 := w.st.d; have a3 := w.st.h
  have c0 := w.sy.b; have c1 := w.sy.e; have c2 := w.sy.tx; have c3 := w.sy.an; have c4 := w.sy.fu; have c5 := w.sy.fn
  have hX : ∀ p ∈ X, p.1 ∉ W.adr := fun p hp => w.xb p (.tail _ (.tail _ (.tail _ hp)))
  have hde : W.S.d ≠ W.Y.e := ne_ob a2 c1 (by
    intro h
    injection h with h
    unfold StA.fields SyA.fields at h
    simp only [List.cons.injEq, Prod.mk.injEq] at h
    exact absurd h.1.1 (by decide))
  have hab : W.S.a ≠ W.Y.b := ne_ob a1 c0 (by intro h; injection h with h; exact absurd h (by decide))
  refine ⟨w.un, ⟨w.x0, w.x1, w.x2⟩, w.sy, ⟨hb, x2.2.2.2.2.2.2.2.1, x2.2.2.2.2.2.2.2.2.2.1⟩, Ne.symm x2.1, w.b2, w.b3, Ne.symm x2.2.1, w.b5, w.b6, x1.2.2.2.2.2.2.2.2.1, fun p hp => ?_, ?_, fun p hp => ?_⟩
  · simp only [List.mem_cons] at hp
    rcases hp with rfl | rfl | rfl | hp
    · exact a1
    · exact a2
    · exact a3
    · exact w.xs p (.tail _ (.tail _ (.tail _ hp)))
  · have nd := w.nd
    simp only [List.map_cons, List.nodup_cons, List.mem_cons, not_or] at nd ⊢
    have nX : ∀ a ∈ W.adr, a ∉ X.map (·.1) := fun a ha h => by
      obtain ⟨p, hp, e⟩ := List.mem_map.mp h
      exact hX p hp (by rw [e]; exact ha)
    exact ⟨⟨ne_ob a1 a2 (by nofun), ne_ob a1 a3 (by nofun), nX _ (by simp [WA4.adr])⟩, ⟨ne_ob a2 a3 (by nofun), nX _ (by simp [WA4.adr])⟩, nX _ (by simp [WA4.adr]), nd.2.2.2⟩
  · simp only [List.mem_cons] at hp
    refine nin_adr.mpr ?_
    rcases hp with rfl | rfl | rfl | hp
    · exact ⟨ne_ob a1 hu (by nofun), ne_ob a1 li (by nofun), Ne.symm x0.2.2.1, Ne.symm x1.2.2.1, Ne.symm x2.2.2.1, hab, ne_ob a1 c1 (by nofun), ne_ob a1 c2 (by nofun), ne_ob a1 c3 (by nofun), ne_ob a1 c4 (by nofun), ne_ob a1 c5 (by nofun)⟩
    · exact ⟨ne_ob a2 hu (by nofun), ne_ob a2 li (by nofun), Ne.symm x0.2.2.2.1, Ne.symm x1.2.2.2.1, Ne.symm x2.2.2.2.1, ne_ob a2 c0 (by nofun), hde, ne_ob a2 c2 (by nofun), w.b7, ne_ob a2 c4 (by nofun), ne_ob a2 c5 (by nofun)⟩
    · exact ⟨Ne.symm w.b1, Ne.symm w.b4, Ne.symm x0.2.2.2.2.1, Ne.symm x1.2.2.2.2.1, Ne.symm x2.2.2.2.2.1, ne_ob a3 c0 (by nofun), ne_ob a3 c1 (by nofun), w.ap.t, ne_ob a3 c3 (by nofun), w.ap.f, ne_ob a3 c5 (by nofun)⟩
    · have h1 := nin_adr.mp (hX p hp)
      have h2 : p.1 ≠ S'.a ∧ p.1 ≠ S'.d ∧ p.1 ≠ S'.h := by
        have nd := w.nd
        simp only [List.map_cons, List.nodup_cons, List.mem_cons, not_or] at nd
        have hm := List.mem_map_of_mem (f := (·.1)) hp
        exact ⟨fun e => nd.1.2.2 (e ▸ hm), fun e => nd.2.1.2 (e ▸ hm), fun e => nd.2.2.1 (e ▸ hm)⟩
      exact ⟨h1.1, h1.2.1, h2.1, h2.2.1, h2.2.2, h1.2.2.2.2.2⟩
/-! ## helpers for the law's walk -/
theorem Wd.adds {W : WA4} {H : List Cell} {D : Sy} {X E : List (Addr × O)} {σ σ' : Sg} (w : Wd W H D X σ) (k : Kp [] σ σ') (hf : ∀ p ∈ E, σ p.1 = none ∧ σ' p.1 = some p.2) (nd : (E.map (·.1)).Nodup) : Wd W H D (E ++ X) σ' := by
  have w1 := w.kp0 k
  refine ⟨w1.un, w1.st, w1.sy, w1.ap, w1.b1, w1.b2, w1.b3, w1.b4, w1.b5, w1.b6, w1.b7, fun p hp => ?_, ?_, fun p hp => ?_⟩
  · rcases List.mem_append.mp hp with h | h
    · exact (hf p h).2
    · exact w1.xs p h
  · rw [List.map_append, List.nodup_append]
    refine ⟨nd, w.nd, fun a ha b hb e => ?_⟩
    obtain ⟨p, hp, rfl⟩ := List.mem_map.mp ha
    obtain ⟨q, hq, rfl⟩ := List.mem_map.mp hb
    exact ne_fr (hf p hp).1 (w.xs q hq) e
  · rcases List.mem_append.mp hp with h | h
    · intro q
      obtain ⟨o, ho⟩ := w.live q
      exact ne_fr (hf p h).1 ho rfl
    · exact w.xb p h
theorem Wd.two {W : WA4} {H : List Cell} {D : Sy} {X : List (Addr × O)} {σ σ' : Sg} (w : Wd W H D X σ) {S' : StA} (k : Kp [] σ σ') (g1 : σ S'.a = none) (g2 : σ S'.d = none) (g3 : σ S'.h = none) (st : StoreAt S' [] σ') :
    Wd W H D ((S'.a, .inst 380 S'.d) :: (S'.d, .sdict S'.fields) :: (S'.h, .list (([] : List Cell).map enc)) :: X) σ' := by
  refine w.adds (E := [(S'.a, .inst 380 S'.d), (S'.d, .sdict S'.fields), (S'.h, .list (([] : List Cell).map enc))]) k (fun p hp => ?_) ?_
  · simp only [List.mem_cons, List.not_mem_nil, or_false] at hp
    rcases hp with rfl | rfl | rfl
    · exact ⟨g1, st.a⟩
    · exact ⟨g2, st.d⟩
    · exact ⟨g3, st.h⟩
  · simp only [List.map_cons, List.map_nil, List.nodup_cons, List.mem_cons, List.not_mem_nil, or_false, not_or, not_false_eq_true, List.nodup_nil, and_true]
    exact ⟨⟨ne_ob st.a st.d (by nofun), ne_ob st.a st.h (by nofun)⟩, ne_ob st.d st.h (by nofun)⟩
theorem PutT.len {L : Nat} {T T' : List (Int × Cell)} {t : Tr} {y : Cell} {N' : List Cell} (a : PutT L T t y N' T') : N'.length ≤ 3 * t.size := by
  cases a with
  | old _ => simp
  | new _ => simp [Tr.size]
  | atom => simp
  | num => simp
  | @str _ f as _ _ hk r =>
    have h1 := r.len (F := [])
    have h2 := Tr.kids_size hk
    have h3 : hdf f ≤ 1 := by unfold hdf; split <;> lia
    have h4 : as.length ≤ 2 := by
      cases t with
      | s1 => simp only [Tr.kids, Option.some.injEq, Prod.mk.injEq] at hk; obtain ⟨_, rfl⟩ := hk; simp
      | s2 => simp only [Tr.kids, Option.some.injEq, Prod.mk.injEq] at hk; obtain ⟨_, rfl⟩ := hk; simp
      | _ => cases hk
    rw [blkN_len, qsz_places] at h1
    lia
theorem LayQ.lenT {L : Nat} {N N' : List Cell} {T T' : List (Int × Cell)} {Q : List (Nat × Tr)} (a : LayQ L N T Q N' T') : T'.length ≤ T.length + qsz Q := by
  induction a with
  | nil => exact Nat.le_add_right _ _
  | old _ _ ih => simp only [qsz, List.map_cons, List.sum_cons] at ih ⊢; lia
  | atom _ ih => simp only [qsz, List.map_cons, List.sum_cons] at ih ⊢; lia
  | num _ ih => simp only [qsz, List.map_cons, List.sum_cons] at ih ⊢; lia
  | new _ _ ih => simp only [qsz, List.map_cons, List.sum_cons, List.length_append, List.length_cons, List.length_nil, Tr.size] at ih ⊢; lia
  | @str N _ _ _ Q p t f as hk _ ih =>
    have h1 := Tr.kids_size hk
    rw [qsz_app, qsz_places] at ih
    simp only [qsz, List.map_cons, List.sum_cons] at ih ⊢; lia
theorem PutT.lenT {L : Nat} {T T' : List (Int × Cell)} {t : Tr} {y : Cell} {N' : List Cell} (a : PutT L T t y N' T') : T'.length ≤ T.length + t.size := by
  cases a with
  | old _ => exact Nat.le_add_right _ _
  | new _ => simp [Tr.size]
  | atom => exact Nat.le_add_right _ _
  | num => exact Nat.le_add_right _ _
  | @str _ f as _ _ hk r =>
    have h1 := r.lenT
    have h2 := Tr.kids_size hk
    rw [qsz_places] at h1
    lia
theorem Tr.vars_len : ∀ t : Tr, t.vars.length ≤ t.size
  | .var _ => by simp [Tr.vars, Tr.size]
  | .atom _ => by simp [Tr.vars, Tr.size]
  | .num _ => by simp [Tr.vars, Tr.size]
  | .s1 _ a => by have := Tr.vars_len a; simp only [Tr.vars, Tr.size]; lia
  | .s2 _ a b => by have := Tr.vars_len a; have := Tr.vars_len b; simp only [Tr.vars, Tr.size, List.length_append]; lia
theorem foldl_len : ∀ (ks Vs : List Int), (ks.foldl addV Vs).length ≤ Vs.length + ks.length
  | [], _ => Nat.le_add_right _ _
  | k :: ks, Vs => by
    have h1 := foldl_len ks (addV Vs k)
    have h2 := addV_len Vs k
    rw [List.foldl_cons, List.length_cons]; lia
theorem numV_len (Vs : List Int) (t : Tr) : (numV Vs t).length ≤ Vs.length + t.size := by
  have h1 := foldl_len t.vars Vs
  have h2 := Tr.vars_len t
  unfold numV; lia
theorem Tr.plain : ∀ (t : Tr) (n : Nat), 2 * t.size ≤ n → V.plain n t.enc = true
  | .var k, n, h => by
    match n, h with
    | n + 1, _ => simp only [Tr.enc, V.plain, V.plains, str_v]; rfl
  | .atom k, n, h => by
    match n, h with
    | n + 1, _ => simp only [Tr.enc, V.plain, V.plains, str_a]; rfl
  | .num k, n, h => by
    match n, h with
    | n + 1, _ => simp only [Tr.enc, V.plain, V.plains, str_i]; rfl
  | .s1 f a, n, h => by
    match n, h with
    | n + 2, h =>
      have := Tr.plain a n (by simp only [Tr.size] at h; lia)
      simp only [Tr.enc, V.plain, V.plains, str_s, this]; rfl
  | .s2 f a b, n, h => by
    match n, h with
    | n + 2, h =>
      have h1 := Tr.plain a n (by simp only [Tr.size] at h; lia)
      have h2 := Tr.plain b n (by simp only [Tr.size] at h; lia)
      simp only [Tr.enc, V.plain, V.plains, str_s, h1, h2]; rfl
theorem plains_enc (l : List Cell) : V.plains 59 (l.map enc) = true := by
  induction l with
  | nil => rfl
  | cons a l ih => simp only [List.map_cons, V.plains, ih, Bool.and_true]; rfl
/-! ## the four variables -/
noncomputable def T0 (n : Nat) : List (Int × Cell) := (List.range n).map fun i : Nat => ((i : Int), ((0 : Int), (i : Int)))
theorem T0_succ (n : Nat) : T0 (n + 1) = T0 n ++ [((n : Int), (0, (n : Int)))] := by simp [T0, List.range_succ]
theorem lkC_T0 : ∀ (n : Nat) (k : Int), lkC (T0 n) k = if 0 ≤ k ∧ k < n then some (0, k) else none
  | 0, k => by
    rw [if_neg (by lia)]; rfl
  | n + 1, k => by
    rw [T0_succ, lkC_app, lkC_T0 n k]
    have e : lkC [((n : Int), ((0 : Int), (n : Int)))] k = if (n : Int) = k then some (0, (n : Int)) else none := by
      unfold lkC
      by_cases h : (n : Int) = k <;> simp [h]
    rw [e]
    by_cases h : (n : Int) = k
    · subst h
      rw [if_neg (by lia), if_pos rfl, if_pos (by lia)]; rfl
    · rw [if_neg h]
      by_cases h2 : 0 ≤ k ∧ k < n
      · rw [if_pos h2, if_pos (by lia)]; rfl
      · rw [if_neg h2, if_neg (by lia)]; rfl
theorem T0_len (n : Nat) : (T0 n).length = n := by simp [T0]
theorem VH.snoc {H : List Cell} (h : VH H) : VH (H ++ [(0, (H.length : Int))]) := by
  intro i hi
  rw [List.length_append] at hi
  simp only [List.length_cons, List.length_nil] at hi
  by_cases e : i < H.length
  · rw [List.getElem?_append_left e]; exact h i e
  · have : i = H.length := by lia
    subst this
    rw [List.getElem?_append_right (Nat.le_refl _), Nat.sub_self]
    exact .inl rfl
theorem VH.set {H : List Cell} (h : VH H) {i : Nat} {v : Cell} (hv : v = (4, 0) ∨ (∃ n, v = (5, n)) ∨ ∃ j : Nat, j < i ∧ v = (0, (j : Int))) : VH (H.set i v) := by
  intro k hk
  rw [List.length_set] at hk
  rw [List.getElem?_set]
  by_cases e : i = k
  · subst e
    rw [if_pos rfl, if_pos hk]
    rcases hv with rfl | ⟨n, rfl⟩ | ⟨j, hj, rfl⟩
    · exact .inr (.inl rfl)
    · exact .inr (.inr (.inl ⟨n, rfl⟩))
    · exact .inr (.inr (.inr ⟨j, hj, rfl⟩))
  · rw [if_neg e]; exact h k hk
theorem Wd.x7 {W : WA4} {H : List Cell} {D : Sy} {X : List (Addr × O)} {σ : Sg} {x y z t u v q : Addr × O} {a : Addr} {o : O} (w : Wd W H D (x :: y :: z :: t :: u :: v :: q :: (a, o) :: X) σ) : σ a = some o := w.tl.x6
theorem W2.neListS {c : Cx} {ρ : Rho} {σ : Sg} {a b : Addr} {l : List V} {Q : V → Sg → Prop} (hu : c.A.units + 70 < cLine) (h1 : σ a = some (.list l)) (h2 : σ b = some (.list l)) (p : V.plains 59 l = true) (hQ : Q (.bool false) σ) : W2 c (compareOp .NotEq) (.ref a) (.ref b) ρ σ Q := by
  refine W2.neList hu h1 h2 p p ?_
  have : ∀ i : Decidable (l ≠ l), @decide _ i = false := fun i => by simp
  rw [this]; exact hQ
theorem W2.eqListS {c : Cx} {ρ : Rho} {σ : Sg} {a b : Addr} {l : List V} {Q : V → Sg → Prop} (hu : c.A.units + 70 < cLine) (h1 : σ a = some (.list l)) (h2 : σ b = some (.list l)) (p : V.plains 59 l = true) (hQ : Q (.bool true) σ) : W2 c (compareOp .Eq) (.ref a) (.ref b) ρ σ Q := by
  refine W2.eqList hu h1 h2 p p ?_
  have : ∀ i : Decidable (l = l), @decide _ i = true := fun i => by simp
  rw [this]; exact hQ
theorem cut_from {l r : List Cell} {n : Nat} (h : l.drop n = r) : cutList (l.map enc) (some (n : Int)) none = some (r.map enc) := by
  subst h
  unfold cutList
  simp only [Int.natCast_nonneg, if_true, Int.toNat_natCast, List.map_drop]
theorem drop_two {H A B : List Cell} {n : Nat} (h : H.length = n) : (H ++ A ++ B).drop n = A ++ B := by
  subst h; rw [List.append_assoc, List.drop_left]
noncomputable def fd_law : { fd : FuncData // ∀ P, ∃ oc od osl, (hd.heap_1 P).lookup 408 = some ⟨oc, od, .func fd, osl⟩ } := ⟨_, fun P => ⟨_, _, _, by k_is⟩⟩
noncomputable def lawEnv (L a : Addr) (cd : Value) : Env := envOfC (Str.ofString "law") fd_law.1.scope L a cd
theorem log2_small {n : Int} (h : n.natAbs < 9000) : n.natAbs.log2 < 9000 := Nat.lt_of_le_of_lt (Nat.log2_le_self _) h
def J4 (W : WA4) (H : List Cell) (D : Sy) (nb : Addr) (X : List (Addr × O)) (R1 R2 : Tr) (v1 v2 : List Int) (i : Nat) (out : List V) (σ' : Sg) : Prop :=
  (i = 0 ∧ out = [] ∧ Wd W H D ((nb, .idict (numT [])) :: X) σ') ∨ (i = 1 ∧ out = [R1.enc] ∧ Wd W H D ((nb, .idict (numT v1)) :: X) σ') ∨ (i = 2 ∧ out = [R1.enc, R2.enc] ∧ Wd W H D ((nb, .idict (numT v2)) :: X) σ')
theorem law_4 {B : Base} (hB : IsLaw B) {A : Around} {gs' : List (Addr × O)} {L fa : Addr} {cd : Value} (r : Room A 10) {W : WA4} {H2 M1 M2 : List Cell} {D : Sy} {tb1 tb2 R1 R2 : Tr} (hR1 : tb1.map (idx (numV [] tb1)) = R1) (hR2 : tb2.map (idx (numV (numV [] tb1) tb2)) = R2) {y1 y2 z1 z2 : Cell} {l1 l2 : List (Int × Nat)} {C1 C2 : List (Int × Cell)} {tx du nb : Addr} {S' : StA} {ρ : Rho} {σ : Sg}
    (w : Wd W H2 D [(S'.a, .inst 380 S'.d), (S'.d, .sdict S'.fields), (S'.h, .list ((selfs 0 H2.length ++ M1 ++ M2).map enc)), (du, .list ([z1, z2].map enc)), (tx, .list [R1.enc, R2.enc]), (L + 1, .cell (some W.S.a)), (L + 3, .cell (some S'.a)), (L + 2, .cell (some nb))] σ)
    (hD : D.F.length ≤ 1000) (hz : H2.length ≤ 1000) (k1 : tb1.okF D.F) (k2 : tb2.okF D.F) (s1 : tb1.size ≤ 20) (s2 : tb2.size ≤ 20) (rp1 : Rep H2 tb1 y1 l1) (nd1 : (l1.map (·.1)).Nodup) (rp2 : Rep H2 tb2 y2 l2) (nd2 : (l2.map (·.1)).Nodup)
    (p1 : PutT H2.length [] tb1 z1 M1 C1) (p2 : PutT (H2.length + M1.length) C1 tb2 z2 M2 C2)
    (r1 : ρ (Str.ofString "first") = some (enc y1)) (r2 : ρ (Str.ofString "second") = some (enc y2)) (r3 : ρ (Str.ofString "length") = some (.int H2.length)) (r4 : ρ (Str.ofString "terms_x") = some (.ref tx)) (r5 : ρ (Str.ofString "due") = some (.ref du)) :
    WSS ⟨B, A, gs', lawEnv L fa cd⟩ ((bodyOf fd_law.1).drop 14) ρ σ fun fl _ _ => fl = .ret (.bool true) := by
  have ok : Cx.ok ⟨B, A, gs', lawEnv L fa cd⟩ := r.ok (c := ⟨B, A, gs', lawEnv L fa cd⟩) rfl rfl rfl
  have zl1 := p1.len
  have zl2 := p2.len
  have z0 : C1.length ≤ 500 := Nat.le_trans p1.lenT (Nat.le_trans (by rw [List.length_nil, Nat.zero_add]; exact s1) (by decide))
  have zm1 : M1.length ≤ 60 := Nat.le_trans zl1 (Nat.mul_le_mul_left 3 s1)
  have zm2 : M2.length ≤ 60 := Nat.le_trans zl2 (Nat.mul_le_mul_left 3 s2)
  refine WSS.cons ?_
  repeat walk_at "e"
  refine WE.idict fun cp hcp => ?_
  have w1 := w.put (o := .idict (([] : List (Int × Cell)).map encP)) hcp
  rw [show ([] : List (Int × V)) = ([] : List (Int × Cell)).map encP from rfl]
  generalize upd σ cp (.idict (([] : List (Int × Cell)).map encP)) = σ1 at w1
  clear w
  walk_at "wd"
  repeat walk_at "e"
  refine WSS.cons ?_
  repeat walk_at "e"
  refine WC.specA r (c_copyT hB w1 hD ⟨[], (List.append_nil _).symm⟩ rp1 k1 nd1 (Nat.le_trans s1 (by decide)) (by decide) (Nat.le_trans hz (by decide)) p1 fun σ2 w2 => ?_)
  walk_at "wd"
  repeat walk_at "e"
  refine WC.specA r (c_copyT hB w2 hD ⟨M1, rfl⟩ rp2 k2 nd2 (Nat.le_trans s2 (by decide)) z0 (by rw [List.length_append]; exact Nat.le_trans (Nat.add_le_add hz zm1) (by decide)) (by rw [List.length_append]; exact p2) fun σ3 w3 => ?_)
  walk_at "wd"
  repeat walk_at "e"
  intro td htd
  rw [show ([enc z1, enc z2] : List V) = [z1, z2].map enc from rfl]
  have w4 := w3.put (o := .list ([z1, z2].map enc)) htd
  generalize upd σ3 td (.list ([z1, z2].map enc)) = σ4 at w4
  have w5 := w4.sub (.cons_cons _ (.cons _ (.refl _)))
  clear w1 w2 w3 w4
  walk_at "wd"
  have k7 := w5.x7
  have hzz : (H2 ++ M1 ++ M2).length ≤ 1000 + 60 + 60 := by rw [List.length_append, List.length_append]; exact Nat.add_le_add (Nat.add_le_add hz zm1) zm2
  have hzs : (selfs 0 H2.length ++ M1 ++ M2).length ≤ 1000 + 60 + 60 := by rw [List.length_append, List.length_append, selfs_length]; exact Nat.add_le_add (Nat.add_le_add hz zm1) zm2
  repeat walk_at "e"
  refine WSS.cons ?_
  repeat walk_at "e"
  refine W2.neListS ok.units w5.x0 w5.x4 (plains_enc _) ?_
  repeat walk_at "e"
  refine ⟨W.S.h, _, (M1 ++ M2).map enc, rfl, by walk_at "ob", by rw [List.length_map]; exact Nat.le_trans hzz (by decide), cut_from (drop_two rfl), fun b hb => ?_⟩
  have w6 := w5.put (o := .list ((M1 ++ M2).map enc)) hb
  generalize upd σ4 b (.list ((M1 ++ M2).map enc)) = σ5 at w6
  clear w5
  walk_at "wd"
  have k7 := w6.x7
  have k8 := w6.tl.x7
  have kf := w6.x3
  unfold StA.fields at kf
  repeat walk_at "e"
  refine ⟨S'.h, _, (M1 ++ M2).map enc, rfl, by walk_at "ob", by rw [List.length_map]; exact Nat.le_trans hzs (by decide), cut_from (drop_two (selfs_length _ _)), fun b2 hb2 => ?_⟩
  have w7 := w6.put (o := .list ((M1 ++ M2).map enc)) hb2
  generalize upd σ5 b2 (.list ((M1 ++ M2).map enc)) = σ6 at w7
  refine W2.neListS ok.units w7.x1 w7.x0 (plains_enc _) ?_
  have w8 := w7.tl.tl
  clear w6 w7 k7 k8 kf
  repeat walk_at "e"
  refine WSS.cons ?_
  repeat walk_at "e"
  refine WE.idict fun nb2 hnb2 => ?_
  have w9 := w8.put (o := .idict (numT [])) hnb2
  rw [show ([] : List (Int × V)) = numT [] from rfl]
  generalize upd σ6 nb2 (.idict (numT [])) = σ7 at w9
  clear w8
  have kn : σ7 (L + 2) = some (.cell (some nb)) := w9.xs (L + 2, .cell (some nb)) (List.mem_of_getElem? (i := 9) rfl)
  repeat walk_at "e"
  have w10 := Wd.set (X1 := [_, _, _, _, _, _, _, _, _]) (o' := .cell (some nb2)) w9
  generalize upd σ7 (L + 2) (.cell (some nb2)) = σ8 at w10
  clear w9 kn
  obtain ⟨X, hX⟩ : ∃ X : List (Addr × O), X = [(td, .list ([z1, z2].map enc)), (S'.a, .inst 380 S'.d), (S'.d, .sdict S'.fields), (S'.h, .list ((selfs 0 H2.length ++ M1 ++ M2).map enc)), (du, .list ([z1, z2].map enc)), (tx, .list [R1.enc, R2.enc]), (L + 1, .cell (some W.S.a)), (L + 3, .cell (some S'.a)), (L + 2, .cell (some nb2))] := ⟨_, rfl⟩
  have w11 : Wd W (H2 ++ M1 ++ M2) D ((nb2, .idict (numT [])) :: X) σ8 := by rw [hX]; exact w10
  clear w10
  have hxd : (td, O.list ([z1, z2].map enc)) ∈ X := by rw [hX]; exact List.mem_of_getElem? (i := 0) rfl
  have hxt : (tx, O.list [R1.enc, R2.enc]) ∈ X := by rw [hX]; exact List.mem_of_getElem? (i := 5) rfl
  have hx1 : (L + 1, O.cell (some W.S.a)) ∈ X := by rw [hX]; exact List.mem_of_getElem? (i := 6) rfl
  have hx2 : (L + 2, O.cell (some nb2)) ∈ X := by rw [hX]; exact List.mem_of_getElem? (i := 8) rfl
  clear hX
  obtain ⟨ψ, inj, ⟨c1, rc1, nc1⟩, c2, rc2, nc2⟩ := copies rfl p1 p2
  obtain ⟨e1, e2⟩ := copies_read p1 p2 inj
  rw [hR1] at e1
  rw [hR2] at e2
  have kd := w11.xs _ (.tail _ hxd)
  repeat walk_at "e"
  refine WSS.one ?_
  repeat walk_at "e"
  refine WE.comp (cl := [(Str.ofString "numbers", L + 2), (Str.ofString "here", L + 1)]) ok (by rfl) (by decide) (by rfl) (by decide) (by rfl) ?_
  repeat walk_at "e"
  refine ⟨td, _, rfl, kd, by simp, J4 W (H2 ++ M1 ++ M2) D nb2 X R1 R2 (numV [] (tb1.map ψ)) (numV (numV [] (tb1.map ψ)) (tb2.map ψ)),
    .inl ⟨rfl, rfl, w11⟩, ?_, ?_, ?_⟩
  · rintro i out σ' (⟨_, _, w⟩ | ⟨_, _, w⟩ | ⟨_, _, w⟩) <;> exact w.xs _ (.tail _ hxd)
  · have okC : ∀ C gs'', Cx.ok ⟨B, A, gs'', compEnvC { kind := ScopeKind.function, names := [(Str.ofString ".0", NameKind.local), (Str.ofString "cell", NameKind.local), (Str.ofString "here", NameKind.free), (Str.ofString "numbers", NameKind.free)], isGenerator := false, isCoroutine := false } [(Str.ofString "numbers", L + 2), (Str.ofString "here", L + 1)] C (lawEnv L fa cd)⟩ := fun _ _ => ⟨rfl, rfl, rfl, ok.handled, ok.units⟩
    rintro C gs'' i v out σ' hi hv hout (⟨rfl, rfl, w⟩ | ⟨rfl, rfl, w⟩ | ⟨rfl, _, _⟩)
    · simp only [List.map_cons, List.getElem?_cons_zero, Option.some.injEq] at hv
      subst hv
      have okC := okC C gs''
      have k1 : σ' (L + 1) = _ := w.xs _ (.tail _ hx1)
      have k2 : σ' (L + 2) = _ := w.xs _ (.tail _ hx2)
      walk_at "wd"
      repeat walk_at "e"
      refine WC.specA r (c_take_term hB w hD rc1 (Tr.map_ok _ (by assumption)) nc1 (by rw [Tr.map_size]; exact Nat.le_trans s1 (by decide)) (by decide) (Nat.le_trans hzz (by decide)) fun σ'' w' => ?_)
      rw [e1]
      exact .inr (.inl ⟨rfl, rfl, w'⟩)
    · simp only [List.map_cons, List.getElem?_cons_succ, List.getElem?_cons_zero, Option.some.injEq] at hv
      subst hv
      have okC := okC C gs''
      have k1 : σ' (L + 1) = _ := w.xs _ (.tail _ hx1)
      have k2 : σ' (L + 2) = _ := w.xs _ (.tail _ hx2)
      walk_at "wd"
      repeat walk_at "e"
      have hv1 := numV_len [] (tb1.map ψ)
      rw [Tr.map_size] at hv1
      refine WC.specA r (c_take_term hB w hD rc2 (Tr.map_ok _ (by assumption)) nc2 (by rw [Tr.map_size]; exact Nat.le_trans s2 (by decide)) (Nat.le_trans hv1 (Nat.le_trans (by rw [List.length_nil, Nat.zero_add]; exact s1) (by decide))) (Nat.le_trans hzz (by decide)) fun σ'' w' => ?_)
      rw [e2]
      exact .inr (.inr ⟨rfl, rfl, w'⟩)
    · simp at hi
  · rintro out σ' hout (⟨h, _⟩ | ⟨h, _⟩ | ⟨_, rfl, w⟩)
    · simp at h
    · simp at h
    intro a ha
    have w12 := w.put (o := .list [R1.enc, R2.enc]) ha
    generalize upd σ' a (.list [R1.enc, R2.enc]) = σ9 at w12
    repeat walk_at "e"
    refine W2.eqListS ok.units w12.x0 (w12.xs _ (.tail _ (.tail _ hxt))) ?_ ?_
    · have g1 := Tr.plain R1 59 (by rw [← hR1, Tr.map_size]; exact Nat.le_trans (Nat.mul_le_mul_left 2 s1) (by decide))
      have g2 := Tr.plain R2 59 (by rw [← hR2, Tr.map_size]; exact Nat.le_trans (Nat.mul_le_mul_left 2 s2) (by decide))
      simp only [V.plains, g1, g2]; rfl
    repeat walk_at "e"
    rfl
def J3 (W : WA4) (N M1 M2 : List Cell) (D : Sy) (tb : Addr) (X : List (Addr × O)) (T1 T2 : List (Int × Cell)) (z1 z2 : Cell) (i : Nat) (out : List V) (σ' : Sg) : Prop :=
  (i = 0 ∧ out = [] ∧ Wd W N D ((tb, .idict (([] : List (Int × Cell)).map encP)) :: X) σ') ∨ (i = 1 ∧ out = [enc z1] ∧ Wd W (N ++ M1) D ((tb, .idict (T1.map encP)) :: X) σ') ∨ (i = 2 ∧ out = [enc z1, enc z2] ∧ Wd W (N ++ M1 ++ M2) D ((tb, .idict (T2.map encP)) :: X) σ')
theorem law_3b {B : Base} (hB : IsLaw B) {A : Around} {gs' : List (Addr × O)} {L fa : Addr} {cd : Value} (r : Room A 10) {W : WA4} {H2 : List Cell} {D : Sy} {tb1 tb2 R1 R2 : Tr} (hR1 : tb1.map (idx (numV [] tb1)) = R1) (hR2 : tb2.map (idx (numV (numV [] tb1) tb2)) = R2) {y1 y2 : Cell} {l1 l2 : List (Int × Nat)} {tx nb : Addr} {St : StA} {ρ : Rho} {σ : Sg}
    (w : Wd W [] D [(St.a, .inst 380 St.d), (St.d, .sdict St.fields), (St.h, .list (H2.map enc)), (tx, .list [R1.enc, R2.enc]), (L + 1, .cell (some St.a)), (L + 3, .cell (some W.S.a)), (L + 2, .cell (some nb)), (L + 4, .cell none)] σ) (hSt : St.b = W.Y.b)
    (hD : D.F.length ≤ 1000) (hz : H2.length ≤ 1000) (k1 : tb1.okF D.F) (k2 : tb2.okF D.F) (s1 : tb1.size ≤ 20) (s2 : tb2.size ≤ 20) (rp1 : Rep H2 tb1 y1 l1) (nd1 : (l1.map (·.1)).Nodup) (rp2 : Rep H2 tb2 y2 l2) (nd2 : (l2.map (·.1)).Nodup)
    (r1 : ρ (Str.ofString "first") = some (enc y1)) (r2 : ρ (Str.ofString "second") = some (enc y2)) (r3 : ρ (Str.ofString "length") = some (.int H2.length)) (r4 : ρ (Str.ofString "terms_x") = some (.ref tx)) :
    WSS ⟨B, A, gs', lawEnv L fa cd⟩ ((bodyOf fd_law.1).drop 11) ρ σ fun fl _ _ => fl = .ret (.bool true) := by
  have ok : Cx.ok ⟨B, A, gs', lawEnv L fa cd⟩ := r.ok (c := ⟨B, A, gs', lawEnv L fa cd⟩) rfl rfl rfl
  obtain ⟨z1, M1, C1, p1⟩ := PutT.ex H2.length [] tb1
  obtain ⟨z2, M2, C2, p2⟩ := PutT.ex (H2.length + M1.length) C1 tb2
  obtain ⟨T1, T2, q1, q2⟩ := puts_same p1 p2
  rw [hR1] at q1
  rw [hR2] at q2
  have zr1 : R1.size = tb1.size := by rw [← hR1, Tr.map_size]
  have zr2 : R2.size = tb2.size := by rw [← hR2, Tr.map_size]
  have zl1 := q1.len
  have zl2 := q2.len
  have zt1 := q1.lenT
  rw [zr1] at zl1 zt1
  rw [zr2] at zl2
  have kr1 : R1.okF D.F := by rw [← hR1]; exact Tr.map_ok _ k1
  have kr2 : R2.okF D.F := by rw [← hR2]; exact Tr.map_ok _ k2
  have tg1 := (q1.vok ⟨by simp, by simp⟩).1.z
  walk_at "wd"
  refine WSS.cons ?_
  repeat walk_at "e"
  refine WC.specA r (c_reserve hB w.st (by omega) (by simp; omega) ?_)
  have w1 : Wd W (selfs 0 H2.length) D _ _ := w.heap (H' := selfs 0 H2.length) (σ' := upd σ W.S.h (.list (([] ++ selfs ([] : List Cell).length ((H2.length : Int)).toNat).map enc))) ((Kp.refl _ _).upd (.inl (.head _))) (by rw [upd_same]; simp)
  generalize upd σ W.S.h (.list (([] ++ selfs ([] : List Cell).length ((H2.length : Int)).toNat).map enc)) = σ1 at w1
  clear w
  repeat walk_at "e"
  refine WSS.cons ?_
  repeat walk_at "e"
  refine WE.idict fun tb htb => ?_
  have w2 := w1.put (o := .idict (([] : List (Int × Cell)).map encP)) htb
  rw [show ([] : List (Int × V)) = ([] : List (Int × Cell)).map encP from rfl]
  generalize upd σ1 tb (.idict (([] : List (Int × Cell)).map encP)) = σ2 at w2
  clear w1
  have kt : σ2 (L + 4) = some (.cell none) := w2.xs (L + 4, .cell none) (List.mem_of_getElem? (i := 8) rfl)
  repeat walk_at "e"
  have w3 := Wd.set (X1 := [_, _, _, _, _, _, _, _]) (o' := .cell (some tb)) w2
  generalize upd σ2 (L + 4) (.cell (some tb)) = σ3 at w3
  clear w2 kt
  have kt : σ3 (L + 4) = some (.cell (some tb)) := w3.xs (L + 4, .cell (some tb)) (List.mem_of_getElem? (i := 8) rfl)
  walk_at "wd"
  refine WSS.cons ?_
  rw [List.cons_append, List.cons_append, List.cons_append, List.cons_append, List.cons_append, List.cons_append, List.cons_append, List.cons_append, List.nil_append] at w3
  obtain ⟨X, hX⟩ : ∃ X : List (Addr × O), X = [(St.a, .inst 380 St.d), (St.d, .sdict St.fields), (St.h, .list (H2.map enc)), (tx, .list [R1.enc, R2.enc]), (L + 1, .cell (some St.a)), (L + 3, .cell (some W.S.a)), (L + 2, .cell (some nb)), (L + 4, .cell (some tb))] := ⟨_, rfl⟩
  rw [← hX] at w3
  have hxt : (tx, O.list [R1.enc, R2.enc]) ∈ X := by rw [hX]; exact List.mem_of_getElem? (i := 3) rfl
  have hx3 : (L + 3, O.cell (some W.S.a)) ∈ X := by rw [hX]; exact List.mem_of_getElem? (i := 5) rfl
  have hx4 : (L + 4, O.cell (some tb)) ∈ X := by rw [hX]; exact List.mem_of_getElem? (i := 7) rfl
  have kx := w3.xs _ (.tail _ hxt)
  refine WS.assignComp (cl := [(Str.ofString "there", L + 3), (Str.ofString "table", L + 4)]) ok (by rfl) (by decide) (by rfl) (by decide) (by rfl) (by rfl) (by rfl) ?_
  repeat walk_at "e"
  refine ⟨tx, _, rfl, kx, by simp, J3 W (selfs 0 H2.length) M1 M2 D tb X T1 T2 z1 z2,
    .inl ⟨rfl, rfl, w3⟩, ?_, ?_, ?_⟩
  · rintro i out σ' (⟨_, _, w⟩ | ⟨_, _, w⟩ | ⟨_, _, w⟩) <;> exact w.xs _ (.tail _ hxt)
  · rintro C gs'' i v out σ' hi hv hout (⟨rfl, rfl, w⟩ | ⟨rfl, rfl, w⟩ | ⟨rfl, _, _⟩)
    · simp only [List.getElem?_cons_zero, Option.some.injEq] at hv
      subst hv
      have okC : Cx.ok ⟨B, A, gs'', compEnvC { kind := ScopeKind.function, names := [(Str.ofString ".0", NameKind.local), (Str.ofString "term", NameKind.local), (Str.ofString "table", NameKind.free), (Str.ofString "there", NameKind.free)], isGenerator := false, isCoroutine := false } [(Str.ofString "there", L + 3), (Str.ofString "table", L + 4)] C (lawEnv L fa cd)⟩ := ⟨rfl, rfl, rfl, ok.handled, ok.units⟩
      have k3 : σ' (L + 3) = _ := w.xs _ (.tail _ hx3)
      have k4 : σ' (L + 4) = _ := w.xs _ (.tail _ hx4)
      walk_at "wd"
      repeat walk_at "e"
      refine WC.specA r (c_put_term hB w hD (fun _ hp => nomatch hp) (by decide) (by rw [selfs_length]; exact Nat.le_trans hz (by decide)) kr1 (by rw [zr1]; exact Nat.le_trans s1 (by decide)) (by rw [selfs_length]; exact q1) fun σ'' w' => ?_)
      exact .inr (.inl ⟨rfl, rfl, w'⟩)
    · simp only [List.getElem?_cons_succ, List.getElem?_cons_zero, Option.some.injEq] at hv
      subst hv
      have okC : Cx.ok ⟨B, A, gs'', compEnvC { kind := ScopeKind.function, names := [(Str.ofString ".0", NameKind.local), (Str.ofString "term", NameKind.local), (Str.ofString "table", NameKind.free), (Str.ofString "there", NameKind.free)], isGenerator := false, isCoroutine := false } [(Str.ofString "there", L + 3), (Str.ofString "table", L + 4)] C (lawEnv L fa cd)⟩ := ⟨rfl, rfl, rfl, ok.handled, ok.units⟩
      have k3 : σ' (L + 3) = _ := w.xs _ (.tail _ hx3)
      have k4 : σ' (L + 4) = _ := w.xs _ (.tail _ hx4)
      walk_at "wd"
      repeat walk_at "e"
      refine WC.specA r (c_put_term hB w hD (fun p hp => (tg1 p hp).1) (Nat.le_trans zt1 (Nat.le_trans (by rw [List.length_nil, Nat.zero_add]; exact s1) (by decide))) (by rw [List.length_append, selfs_length]; exact Nat.le_trans (Nat.add_le_add hz (Nat.le_trans zl1 (Nat.mul_le_mul_left 3 s1))) (by decide)) kr2 (by rw [zr2]; exact Nat.le_trans s2 (by decide)) (by rw [List.length_append, selfs_length]; exact q2) fun σ'' w' => ?_)
      exact .inr (.inr ⟨rfl, rfl, w'⟩)
    · simp at hi
  · rintro out σ' hout (⟨h, _⟩ | ⟨h, _⟩ | ⟨_, rfl, w⟩)
    · simp at h
    · simp at h
    intro du hdu
    rw [show ([enc z1, enc z2] : List V) = [z1, z2].map enc from rfl]
    have w5 := w.put (o := .list ([z1, z2].map enc)) hdu
    generalize upd σ' du (.list ([z1, z2].map enc)) = σ5 at w5
    repeat walk_at "e"
    rw [hX] at w5
    have w6 := w5.perm (List.perm_append_comm_assoc [_, _] [_, _, _] _)
    have w7 := w6.swap hSt
    have w8 := w7.sub (.cons_cons _ (.cons_cons _ (.cons_cons _ (.cons_cons _ (.cons _ (.cons_cons _ (.cons_cons _ (.cons_cons _ (.cons_cons _ (.cons _ (.refl _)))))))))))
    exact law_4 (W := W.sw St) (S' := W.S) hB r hR1 hR2 w8 hD hz k1 k2 s1 s2 rp1 nd1 rp2 nd2 p1 p2 (by walk_at "lk") (by walk_at "lk") (by walk_at "lk") (by walk_at "lk") (by walk_at "lk")
theorem law_3 {B : Base} (hB : IsLaw B) {A : Around} {gs' : List (Addr × O)} {L fa : Addr} {cd : Value} (r : Room A 10) {W : WA4} {H2 : List Cell} {D : Sy} {tb1 tb2 R1 R2 : Tr} (hR1 : tb1.map (idx (numV [] tb1)) = R1) (hR2 : tb2.map (idx (numV (numV [] tb1) tb2)) = R2) {y1 y2 : Cell} {l1 l2 : List (Int × Nat)} {tx nb : Addr} {ρ : Rho} {σ : Sg}
    (w : Wd W H2 D [(tx, .list [R1.enc, R2.enc]), (L + 1, .cell (some W.S.a)), (L + 3, .cell none), (L + 2, .cell (some nb)), (L + 4, .cell none)] σ)
    (hD : D.F.length ≤ 1000) (hz : H2.length ≤ 1000) (k1 : tb1.okF D.F) (k2 : tb2.okF D.F) (s1 : tb1.size ≤ 20) (s2 : tb2.size ≤ 20) (rp1 : Rep H2 tb1 y1 l1) (nd1 : (l1.map (·.1)).Nodup) (rp2 : Rep H2 tb2 y2 l2) (nd2 : (l2.map (·.1)).Nodup)
    (r0 : ρ (Str.ofString "book") = some (.ref W.Y.b)) (r1 : ρ (Str.ofString "first") = some (enc y1)) (r2 : ρ (Str.ofString "second") = some (enc y2)) (r3 : ρ (Str.ofString "length") = some (.int H2.length)) (r4 : ρ (Str.ofString "terms_x") = some (.ref tx)) :
    WSS ⟨B, A, gs', lawEnv L fa cd⟩ ((bodyOf fd_law.1).drop 10) ρ σ fun fl _ _ => fl = .ret (.bool true) := by
  have ok : Cx.ok ⟨B, A, gs', lawEnv L fa cd⟩ := r.ok (c := ⟨B, A, gs', lawEnv L fa cd⟩) rfl rfl rfl
  refine WSS.cons ?_
  repeat walk_at "e"
  refine c_Store hB (r.mono (by omega)) fun S' σ1 hSb g1 g2 g3 kp st => ?_
  have w1 := w.two kp g1 g2 g3 st
  have kt : σ1 (L + 3) = some (.cell none) := w1.xs (L + 3, .cell none) (List.mem_of_getElem? (i := 5) rfl)
  repeat walk_at "e"
  have w2 := Wd.set (X1 := [_, _, _, _, _]) (o' := .cell (some S'.a)) w1
  generalize upd σ1 (L + 3) (.cell (some S'.a)) = σ2 at w2
  have w3 := Wd.swap w2 hSb
  exact law_3b (W := W.sw S') (St := W.S) hB r hR1 hR2 w3 w.ap.b hD hz k1 k2 s1 s2 rp1 nd1 rp2 nd2 r1 r2 r3 r4
theorem law_2 {B : Base} (hB : IsLaw B) {A : Around} {gs' : List (Addr × O)} {L fa : Addr} {cd : Value} (r : Room A 10) {W : WA4} {H : List Cell} {pi : Addr} {ρ : Rho} {σ : Sg}
    (w : Wd W H D0 [(pi, .idict ((T0 4).map encP)), (L + 1, .cell (some W.S.a)), (L + 2, .cell none), (L + 3, .cell none), (L + 4, .cell none)] σ) (hV : VH H) (hl : H.length = 4)
    (r1 : ρ (Str.ofString "urn") = some (.ref W.U)) (r2 : ρ (Str.ofString "book") = some (.ref W.Y.b)) (r3 : ρ (Str.ofString "put_in") = some (.ref pi)) :
    WSS ⟨B, A, gs', lawEnv L fa cd⟩ ((bodyOf fd_law.1).drop 5) ρ σ fun fl _ _ => fl = .ret (.bool true) := by
  have ok : Cx.ok ⟨B, A, gs', lawEnv L fa cd⟩ := r.ok (c := ⟨B, A, gs', lawEnv L fa cd⟩) rfl rfl rfl
  have hasT : ∀ {D : Sy} {t : Tr}, Grown D 4 t → ∀ k ∈ t.vars, ∃ z, lkC (T0 4) k = some z := fun g k hk => by
    obtain ⟨a, b⟩ := g.v k hk
    exact ⟨(0, k), by rw [lkC_T0, if_pos ⟨a, by omega⟩]⟩
  have tg : ∀ p ∈ T0 4, p.2.1 = 0 := fun p hp => by
    obtain ⟨i, _, rfl⟩ := List.mem_map.mp hp; rfl
  have tl : (T0 4).length ≤ 500 := by rw [T0_len]; omega
  have hT0 : ∀ k z, lkC (T0 4) k = some z → ∃ i : Nat, i < H.length ∧ k = (i : Int) ∧ z = (0, (i : Int)) := fun k z h => by
    rw [lkC_T0] at h
    split at h
    · rename_i hk
      cases h
      exact ⟨k.toNat, by omega, by omega, by rw [Int.toNat_of_nonneg hk.1]⟩
    · cases h
  have dF : ∀ {D : Sy}, D = D0 ∨ D = D2 → D.F.length ≤ 1000 := fun h => by
    rcases h with rfl | rfl
    · rw [d_len0]; omega
    · rw [e_len2]; omega
  walk_at "wd"
  refine WSS.cons ?_
  repeat walk_at "e"
  refine WC.specA r (c_grown hB 3 w (.inl rfl) fun σ1 t1 Da w1 _ g1 => ?_)
  have z1 : t1.size ≤ 15 := Nat.le_of_succ_le_succ (show t1.size + 1 ≤ 15 + 1 from g1.z)
  obtain ⟨y1, N1, T1, p1⟩ := PutT.ex H.length (T0 4) t1
  have e1 := p1.sameT (hasT g1)
  subst e1
  have zl1 : N1.length ≤ 45 := Nat.le_trans p1.len (Nat.mul_le_mul_left 3 z1)
  clear w
  walk_at "wd"
  repeat walk_at "e"
  refine WC.specA r (c_put_term hB w1 (dF g1.d) tg tl (by rw [hl]; decide) g1.ok (Nat.le_trans z1 (by decide)) p1 fun σ2 w2 => ?_)
  clear w1
  walk_at "wd"
  repeat walk_at "e"
  refine WSS.cons ?_
  repeat walk_at "e"
  refine WC.specA r (c_grown hB 3 w2 g1.d fun σ3 t2 Db w3 hab g2 => ?_)
  have z2 : t2.size ≤ 15 := Nat.le_of_succ_le_succ (show t2.size + 1 ≤ 15 + 1 from g2.z)
  have k1 : t1.okF Db.F := by
    rcases g1.d with e | e
    · rcases g2.d with e' | e'
      · rw [e']; rw [e] at g1; exact g1.ok
      · rw [e']; exact okF_2 g1.d g1.ok
    · rw [hab e]; exact okF_2 g1.d g1.ok
  obtain ⟨y2, N2, T2, p2⟩ := PutT.ex (H.length + N1.length) (T0 4) t2
  have e2 := p2.sameT (hasT g2)
  subst e2
  have zl2 : N2.length ≤ 45 := Nat.le_trans p2.len (Nat.mul_le_mul_left 3 z2)
  clear w2
  walk_at "wd"
  repeat walk_at "e"
  refine WC.specA r (c_put_term hB w3 (dF g2.d) tg tl (by rw [List.length_append, hl]; exact Nat.le_trans (Nat.add_le_add_left zl1 _) (by decide)) g2.ok (Nat.le_trans z2 (by decide)) (by rw [List.length_append]; exact p2) fun σ4 w4 => ?_)
  obtain ⟨tb1, tb2, l1, l2, k1', k2', s1, s2, rp1, nd1, rp2, nd2⟩ := put_two hV hT0 k1 g2.ok p1 p2
  have dl := dF g2.d
  clear w3 hab g1 g2 hV hT0 hasT tg p1 p2
  have hl2 : (H ++ N1 ++ N2).length ≤ 200 := by rw [List.length_append, List.length_append, hl]; exact Nat.le_trans (Nat.add_le_add (Nat.add_le_add_left zl1 _) zl2) (by decide)
  rw [← s1] at z1
  rw [← s2] at z2
  generalize H ++ N1 ++ N2 = H2 at *
  have w5 := w4.tl
  clear w4
  walk_at "wd"
  repeat walk_at "e"
  refine WSS.cons ?_
  repeat walk_at "e"
  rw [List.length_map]
  refine WSS.cons ?_
  repeat walk_at "e"
  refine WE.idict fun nb hnb => ?_
  have w6 := w5.put (o := .idict (numT [])) hnb
  rw [show ([] : List (Int × V)) = numT [] from rfl]
  generalize upd σ4 nb (.idict (numT [])) = σ5 at w6
  clear w5
  walk_at "wd"
  repeat walk_at "e"
  have w7 := w6.set2 (o' := .cell (some nb))
  generalize upd σ5 (L + 2) (.cell (some nb)) = σ6 at w7
  clear w6
  walk_at "wd"
  refine WSS.cons ?_
  repeat walk_at "e"
  refine WC.specA r (c_take_term hB w7 dl rp1 k1' nd1 (Nat.le_trans z1 (by decide)) (by decide) (Nat.le_trans hl2 (by decide)) fun σ7 w8 => ?_)
  generalize hR1 : tb1.map (idx (numV [] tb1)) = R1
  clear w7
  walk_at "wd"
  repeat walk_at "e"
  refine WC.specA r (c_take_term hB w8 dl rp2 k2' nd2 (Nat.le_trans z2 (by decide)) (Nat.le_trans (numV_len [] tb1) (Nat.le_trans (by rw [List.length_nil, Nat.zero_add]; exact z1) (by decide))) (Nat.le_trans hl2 (by decide)) fun σ8 w9 => ?_)
  generalize hR2 : tb2.map (idx (numV (numV [] tb1) tb2)) = R2
  clear w8
  walk_at "wd"
  repeat walk_at "e"
  intro tx htx
  have w10 := w9.put (o := .list [R1.enc, R2.enc]) htx
  generalize upd σ8 tx (.list [R1.enc, R2.enc]) = σ9 at w10
  have w11 := w10.sub (.cons_cons _ (.cons _ (.refl _)))
  clear w9 w10
  repeat walk_at "e"
  exact law_3 hB r hR1 hR2 (w11.perm (((List.Perm.swap _ _ _).cons _).cons _)) dl (Nat.le_trans hl2 (by decide)) k1' k2' (Nat.le_trans z1 (by decide)) (Nat.le_trans z2 (by decide)) rp1 nd1 rp2 nd2 (by walk_at "lk") (by walk_at "lk") (by walk_at "lk") (by walk_at "lk") (by walk_at "lk")
inductive J0 (W : WA4) (pi L : Addr) (i : Nat) (ρ : Rho) (σ : Sg) : Prop
  | mk (H : List Cell) (w : Wd W H D0 [(pi, .idict ((T0 i).map encP)), (L + 1, .cell (some W.S.a)), (L + 2, .cell none), (L + 3, .cell none), (L + 4, .cell none)] σ) (hV : VH H) (hl : H.length = i) (r1 : ρ (Str.ofString "urn") = some (.ref W.U)) (r2 : ρ (Str.ofString "book") = some (.ref W.Y.b)) (r3 : ρ (Str.ofString "put_in") = some (.ref pi))
theorem law_body {B : Base} (hB : IsLaw B) {A : Around} {gs' : List (Addr × O)} {L fa : Addr} {cd : Value} (r : Room A 10) {sa : Addr} {vs : List Value} {ns : List Int} (hl : B.h₀.IsList sa vs.toArray) (hi : IntsAre vs ns) (hz : ns.length ≤ 63)
    {σ0 : Sg} (q1 : σ0 (L + 1) = some (.cell none)) (q2 : σ0 (L + 2) = some (.cell none)) (q3 : σ0 (L + 3) = some (.cell none)) (q4 : σ0 (L + 4) = some (.cell none)) :
    WSS ⟨B, A, gs', lawEnv L fa cd⟩ (bodyOf fd_law.1) (rho0 [Str.ofString "script"] [.raw (.ref sa)]) σ0 fun fl _ _ => fl = .ret (.bool true) := by
  have ok : Cx.ok ⟨B, A, gs', lawEnv L fa cd⟩ := r.ok (c := ⟨B, A, gs', lawEnv L fa cd⟩) rfl rfl rfl
  refine WSS.cons (WS.assign (WE.list (WL.cons (WE.cint ?_))))
  refine WL.cons ?_
  refine WE.sliceBase hl hi (by omega) ?_ (fun _ _ => rfl)
  repeat walk_at "e"
  refine ⟨60, rfl, fun l hfl => ?_⟩
  generalize hns : ns.take 60 = ns'
  have hns' : ns'.length ≤ 60 := by rw [← hns, List.length_take]; omega
  repeat walk_at "e"
  intro U hU
  have hl1 : upd σ0 l (.list (ns'.map V.int)) l = some (.list (ns'.map V.int)) := upd_same _ _ _
  have q1 := (upd_at (ne_fr' q1 hfl) q1 : upd σ0 l (.list (ns'.map V.int)) (L + 1) = _)
  have q2 := (upd_at (ne_fr' q2 hfl) q2 : upd σ0 l (.list (ns'.map V.int)) (L + 2) = _)
  have q3 := (upd_at (ne_fr' q3 hfl) q3 : upd σ0 l (.list (ns'.map V.int)) (L + 3) = _)
  have q4 := (upd_at (ne_fr' q4 hfl) q4 : upd σ0 l (.list (ns'.map V.int)) (L + 4) = _)
  have neU : U ≠ l := (fr_upd hU).1
  generalize upd σ0 l (.list (ns'.map V.int)) = σ1 at hl1 hU q1 q2 q3 q4
  have un1 : UrnAt U l ns' (upd σ1 U (.list [.int 0, .ref l, .int 0])) := ⟨⟨0, 0, upd_same _ _ _, by omega⟩, upd_at (Ne.symm neU) hl1, neU, by omega⟩
  have q1 := (upd_at (ne_fr' q1 hU) q1 : upd σ1 U (.list [.int 0, .ref l, .int 0]) (L + 1) = _)
  have q2 := (upd_at (ne_fr' q2 hU) q2 : upd σ1 U (.list [.int 0, .ref l, .int 0]) (L + 2) = _)
  have q3 := (upd_at (ne_fr' q3 hU) q3 : upd σ1 U (.list [.int 0, .ref l, .int 0]) (L + 3) = _)
  have q4 := (upd_at (ne_fr' q4 hU) q4 : upd σ1 U (.list [.int 0, .ref l, .int 0]) (L + 4) = _)
  generalize upd σ1 U (.list [.int 0, .ref l, .int 0]) = σ2 at un1 q1 q2 q3 q4
  repeat walk_at "e"
  refine WSS.cons ?_
  repeat walk_at "e"
  refine c_Symbols hB (r.mono (by omega)) fun Y σ3 f1 f2 f3 f4 f5 f6 kp1 sy => ?_
  repeat walk_at "e"
  refine WSS.cons ?_
  repeat walk_at "e"
  refine c_Store hB (r.mono (by omega)) fun S σ4 hSb g1 g2 g3 kp2 st => ?_
  obtain ⟨u0, k0, hu0, _⟩ := un1.u
  have un2 := un1.kp kp1 (by simp)
  obtain ⟨u1, k1, hu1, _⟩ := un2.u
  have w0 : Wd ⟨S, Y, U, l, ns'⟩ [] D0 [(L + 1, .cell none), (L + 2, .cell none), (L + 3, .cell none), (L + 4, .cell none)] σ4 := by
    have c1 := kp1 _ _ q1 (by simp); have c2 := kp1 _ _ q2 (by simp); have c3 := kp1 _ _ q3 (by simp); have c4 := kp1 _ _ q4 (by simp)
    have e1 := kp2 _ _ c1 (by simp); have e2 := kp2 _ _ c2 (by simp); have e3 := kp2 _ _ c3 (by simp); have e4 := kp2 _ _ c4 (by simp)
    have un3 := un2.kp kp2 (by simp)
    have sy2 := sy.kp kp2 (by simp)
    refine ⟨un3, st, sy2, ⟨hSb, ne_fr g3 sy.tx, ne_fr g3 sy.fu⟩, ne_fr' hu1 g3, ne_fr' hu0 f3, ne_fr' hu0 f5, ne_fr' un2.li g3, ne_fr' un1.li f3, ne_fr' un1.li f5, ne_fr g2 sy.an, fun p hp => ?_, by simp, fun p hp => ?_⟩
    · simp only [List.mem_cons, List.not_mem_nil, or_false] at hp
      rcases hp with rfl | rfl | rfl | rfl
      · exact e1
      · exact e2
      · exact e3
      · exact e4
    · have hc : σ4 p.1 = some (.cell none) := by
        simp only [List.mem_cons, List.not_mem_nil, or_false] at hp
        rcases hp with rfl | rfl | rfl | rfl
        · exact e1
        · exact e2
        · exact e3
        · exact e4
      obtain ⟨u2, k2, hu2, _⟩ := un3.u
      simp only [WA4.adr, List.mem_cons, List.not_mem_nil, or_false, not_or]
      exact ⟨ne_ob hc hu2 (by nofun), ne_ob hc un3.li (by nofun), ne_ob hc st.a (by nofun), ne_ob hc st.d (by nofun), ne_ob hc st.h (by nofun), ne_ob hc sy2.b (by nofun), ne_ob hc sy2.e (by nofun), ne_ob hc sy2.tx (by nofun), ne_ob hc sy2.an (by nofun), ne_ob hc sy2.fu (by nofun), ne_ob hc sy2.fn (by nofun)⟩
  clear un1 un2 sy st g1 g2 g3 f1 f2 f3 f4 f5 f6 kp1 kp2 hu0 hu1 q1 q2 q3 q4
  have k0 := w0.x0
  repeat walk_at "e"
  have w1 := w0.set0 (o' := .cell (some S.a))
  generalize upd σ4 (L + 1) (.cell (some S.a)) = σ5 at w1
  clear w0
  walk_at "wd"
  refine WSS.cons ?_
  repeat walk_at "e"
  refine WE.idict fun pi hpi => ?_
  have w2 := w1.put (o := .idict (([] : List (Int × Cell)).map encP)) hpi
  rw [show ([] : List (Int × V)) = ([] : List (Int × Cell)).map encP from rfl]
  generalize upd σ5 pi (.idict (([] : List (Int × Cell)).map encP)) = σ6 at w2
  clear w1
  generalize hW : (⟨S, Y, U, l, ns'⟩ : WA4) = W at w2
  have eS : S = W.S := by rw [← hW]
  have eU : U = W.U := by rw [← hW]
  have eY : Y = W.Y := by rw [← hW]
  rw [eS] at w2
  rw [eU, eY]
  clear k0 hU hfl hl1 neU
  repeat walk_at "e"
  refine WSS.cons ?_
  refine WS.forRange ok (WRange.one ?_)
  repeat walk_at "e"
  refine ⟨small_zero (by decide) (by decide), J0 W pi L,
    ⟨[], w2, fun i hi => by simp at hi, rfl, by walk_at "lk", by walk_at "lk", by walk_at "lk"⟩, ?_, ?_⟩
  rotate_left
  · rw [rangeN_zero (by decide)]
    rintro ρ6 σ10 ⟨H, w3, hV, hl, r1, r2, r3⟩
    exact law_2 hB r w3 hV hl r1 r2 r3
  clear w2
  rintro g i ρ1 σ1 hi ⟨H, w3, hV, hl, r1, r2, r3⟩
  rw [rangeN_zero (by decide)] at hi
  have hi4 : i < 4 := hi
  rw [show (0 : Int) + (i : Int) * 1 = (i : Int) by omega]
  walk_at "wd"
  repeat walk_at "e"
  refine WSS.cons ?_
  repeat walk_at "e"
  refine WC.specA r (c_new_var hB w3.st (by rw [List.length_map]; omega) ?_)
  have w4 : Wd W (H ++ [(0, (H.length : Int))]) D0 _ (upd σ1 W.S.h (.list (H.map enc ++ [.tup [.int 0, .int (H.map enc).length]]))) := w3.heap ((Kp.refl _ _).upd (.inl (.head _))) (by rw [upd_same]; simp [enc])
  rw [show V.tup [.int 0, .int (H.map enc).length] = enc (0, (i : Int)) by rw [List.length_map, hl]; rfl] at w4 ⊢
  generalize upd σ1 W.S.h (.list (H.map enc ++ [enc (0, (i : Int))])) = σ2 at w4
  have hV1 := hV.snoc
  rw [hl] at hV1 w4
  have hl1 : (H ++ [((0 : Int), (i : Int))]).length = i + 1 := by simp [hl]
  generalize H ++ [((0 : Int), (i : Int))] = H1 at w4 hV1 hl1
  clear w3 hV hl
  walk_at "wd"
  repeat walk_at "e"
  refine WSet.idict w4.x0 (by rw [List.length_map, T0_len]; omega) ?_
  rw [dput_P (by rw [lkC_T0, if_neg (by omega)]), ← T0_succ]
  have w5 := w4.set0 (o' := .idict ((T0 (i + 1)).map encP))
  generalize upd σ2 pi (.idict ((T0 (i + 1)).map encP)) = σ7 at w5
  clear w4
  walk_at "wd"
  have hgi : dget ((T0 (i + 1)).map encP) (i : Int) = some (enc (0, (i : Int))) := by rw [dget_P, lkC_T0, if_pos (by omega)]; rfl
  repeat walk_at "e"
  refine WSS.cons ?_
  repeat walk_at "e"
  refine WC.specA r (c_pick hB w5.un (by decide) (by decide) fun way σ8 hk0 hk1 kp un => ?_)
  have w6 := w5.pick kp un
  clear w5
  walk_at "wd"
  repeat walk_at "e"
  refine WSS.one ?_
  repeat walk_at "e"
  refine iteB (fun h1 => ?_) (fun h1 => ?_)
  · refine WSS.one ?_
    repeat walk_at "e"
    refine WSub.idict (by walk_at "ob") hgi ?_
    repeat walk_at "e"
    refine WC.specA r (c_bind hB w6.st (by rw [List.length_map]; omega) (by omega) (by rw [List.length_map]; omega) _ ?_)
    have w7 : Wd W (H1.set i (4, 0)) D0 _ (upd σ8 W.S.h (.list ((H1.map enc).set ((i : Int)).toNat (enc (4, 0))))) := w6.heap ((Kp.refl _ _).upd (.inl (.head _))) (by rw [upd_same, List.map_set]; rfl)
    repeat walk_at "e"
    exact ⟨_, w7, hV1.set (.inl rfl), by rw [List.length_set]; exact hl1, by walk_at "lk", by walk_at "lk", by walk_at "lk"⟩
  refine WSS.one ?_
  repeat walk_at "e"
  refine iteB (fun h2 => ?_) (fun h2 => ?_)
  · refine WSS.one ?_
    repeat walk_at "e"
    refine WSub.idict (by walk_at "ob") hgi ?_
    repeat walk_at "e"
    refine WC.specA r (c_bind hB w6.st (by rw [List.length_map]; omega) (by omega) (by rw [List.length_map]; omega) _ ?_)
    have w7 : Wd W (H1.set i (5, (i : Int))) D0 _ (upd σ8 W.S.h (.list ((H1.map enc).set ((i : Int)).toNat (enc (5, (i : Int)))))) := w6.heap ((Kp.refl _ _).upd (.inl (.head _))) (by rw [upd_same, List.map_set]; rfl)
    repeat walk_at "e"
    exact ⟨_, w7, hV1.set (.inr (.inl ⟨_, rfl⟩)), by rw [List.length_set]; exact hl1, by walk_at "lk", by walk_at "lk", by walk_at "lk"⟩
  refine WSS.one ?_
  repeat walk_at "e"
  refine iteB (fun h3 => ?_) (fun h3 => ?_)
  · repeat walk_at "e"
    refine iteB (fun h4 => ?_) (fun h4 => ?_)
    · refine WSS.one ?_
      repeat walk_at "e"
      refine WSub.idict (by walk_at "ob") hgi ?_
      repeat walk_at "e"
      refine WC.specA r (c_pick hB w6.un (by omega) (log2_small (by omega)) fun j σ9 hj0 hj1 kp un => ?_)
      have w7 := w6.pick kp un
      walk_at "wd"
      repeat walk_at "e"
      refine WSub.idict (u := enc (0, j)) (by walk_at "ob") (by rw [dget_P, lkC_T0, if_pos (by omega)]; rfl) ?_
      repeat walk_at "e"
      refine WC.specA r (c_bind hB w7.st (by rw [List.length_map]; omega) (by omega) (by rw [List.length_map]; omega) _ ?_)
      have w8 : Wd W (H1.set i (0, j)) D0 _ (upd σ9 W.S.h (.list ((H1.map enc).set ((i : Int)).toNat (enc (0, j))))) := w7.heap ((Kp.refl _ _).upd (.inl (.head _))) (by rw [upd_same, List.map_set]; rfl)
      repeat walk_at "e"
      exact ⟨_, w8, hV1.set (.inr (.inr ⟨j.toNat, by omega, by rw [Int.toNat_of_nonneg hj0]⟩)), by rw [List.length_set]; exact hl1, by walk_at "lk", by walk_at "lk", by walk_at "lk"⟩
    · repeat walk_at "e"
      exact ⟨_, w6, hV1, hl1, by walk_at "lk", by walk_at "lk", by walk_at "lk"⟩
  · repeat walk_at "e"
    exact ⟨_, w6, hV1, hl1, by walk_at "lk", by walk_at "lk", by walk_at "lk"⟩
theorem law_end {w : World} {s₁ : Shared} {mg mb : Str → Option Value} {p : Program} {loose : List Str} (KX : (hd.heap_1 w.params).In s₁.heap) (T : TopRead p loose mg mb s₁.heap) {sa : Addr} {vs : List Value} {ns : List Int} (hL : s₁.heap.IsList sa vs.toArray) (hI : IntsAre vs ns) (hc : ¬ ((63 : Int) < ns.length))
    {h₁ : Heap} {tk : Nat} {m : Str → Option Value} (F : Fr s₁.heap s₁.heap.objs.size h₁ m) (hm : m (Str.ofString "script") = some (.ref sa)) {o1 o2 o3 o4 : Obj} {v1 v2 v3 v4 : Option Value}
    (N : News s₁.heap s₁.heap.objs.size h₁ [(s₁.heap.objs.size + 1 + 1 + 1 + 1, o4), (s₁.heap.objs.size + 1 + 1 + 1, o3), (s₁.heap.objs.size + 1 + 1, o2), (s₁.heap.objs.size + 1, o1)]) (d4 : o4.data = .cell v4) (d3 : o3.data = .cell v3) (d2 : o2.data = .cell v2) (d1 : o1.data = .cell v1) (e4 : v4 = none) (e3 : v3 = none) (e2 : v2 = none) (e1 : v1 = none)
    {fa : Addr} {cd : Value} {prog : Program} {Q : Flow → Shared → Prop} {E : Value → Shared → Prop}
    (hQ : ∀ s', (∀ b o, s₁.heap.get? b = some o → s'.heap.get? b = some o) → s'.os = s₁.os → s'.gens = s₁.gens → Q (.ret (.bool true)) s') :
    wpAny (model prog w) (callerA.deeper (lawEnv s₁.heap.objs.size fa cd)) (execs (bodyOf fd_law.1) (lawEnv s₁.heap.objs.size fa cd)) Q E { s₁ with heap := h₁, toks := tk } := by
  subst e1; subst e2; subst e3; subst e4
  let B : Base := ⟨prog, w, hd.heap_1 w.params, s₁.heap, s₁, mg, mb, p, loose, KX, T⟩
  have hB : IsLaw B := rfl
  have r : Room (callerA.deeper (lawEnv s₁.heap.objs.size fa cd)) 10 := ⟨rfl, by show 1 + claimMargin + 1 + 10 < recursionLimit; decide +kernel, by show 4 + 3 + 4 * 10 + 100 < cLine; decide +kernel⟩
  have I : Inv B [(s₁.heap.objs.size, .frame (rho0 [Str.ofString "script"] [.raw (.ref sa)]))] (fun _ => none) { s₁ with heap := h₁, toks := tk } := by
    have I0 : Inv B [] (fun _ => none) s₁ := ⟨fun _ _ e => e, Nat.le_refl _, fun _ _ e => (nomatch e), fun _ e => (nomatch e), by simp, s₁.heap, s₁.toks, rfl⟩
    refine Inv.push I0 (Nat.le_refl _) F.keep ⟨m, F.ns, fun x v e => ?_⟩
    by_cases hx : x = Str.ofString "script"
    · subst hx
      rw [rho0_hit (by simp)] at e
      cases e
      exact ⟨_, hm, by simp [Rel]⟩
    · rw [rho0_miss hx] at e
      simp [rho0] at e
  have hne : ∀ k : Nat, 0 < k → s₁.heap.objs.size + k ∉ ([(s₁.heap.objs.size, O.frame (rho0 [Str.ofString "script"] [.raw (.ref sa)]))]).map (·.1) := fun k hk q => by
    simp only [List.map_cons, List.map_nil, List.mem_singleton] at q
    exact absurd q (Nat.ne_of_gt (Nat.lt_add_of_pos_right hk))
  have I1 := I.add (a := s₁.heap.objs.size + 1) (o := .cell none) ⟨o1, (N (_, o1) (by simp)).1, d1⟩ (Nat.le_add_right _ _) (hne 1 (by decide))
  have I2 := I1.add (a := s₁.heap.objs.size + 2) (o := .cell none) ⟨o2, (N (_, o2) (.tail _ (.tail _ (.head _)))).1, d2⟩ (Nat.le_add_right _ _) (hne 2 (by decide))
  have I3 := I2.add (a := s₁.heap.objs.size + 3) (o := .cell none) ⟨o3, (N (_, o3) (.tail _ (.head _))).1, d3⟩ (Nat.le_add_right _ _) (hne 3 (by decide))
  have I4 := I3.add (a := s₁.heap.objs.size + 4) (o := .cell none) ⟨o4, (N (_, o4) (.head _)).1, d4⟩ (Nat.le_add_right _ _) (hne 4 (by decide))
  have ad : ∀ i j : Nat, i ≠ j → s₁.heap.objs.size + i ≠ s₁.heap.objs.size + j := fun i j h e => h (Nat.add_left_cancel e)
  have hb := law_body (B := B) hB (A := callerA.deeper (lawEnv s₁.heap.objs.size fa cd)) (gs' := []) (L := s₁.heap.objs.size) (fa := fa) (cd := cd) r hL hI (by lia)
    (σ0 := upd (upd (upd (upd (fun _ => none) (s₁.heap.objs.size + 1) (.cell none)) (s₁.heap.objs.size + 2) (.cell none)) (s₁.heap.objs.size + 3) (.cell none)) (s₁.heap.objs.size + 4) (.cell none))
    (upd_at (ad 1 4 (by decide)) (upd_at (ad 1 3 (by decide)) (upd_at (ad 1 2 (by decide)) (upd_same _ _ _)))) (upd_at (ad 2 4 (by decide)) (upd_at (ad 2 3 (by decide)) (upd_same _ _ _))) (upd_at (ad 3 4 (by decide)) (upd_same _ _ _)) (upd_same _ _ _)
  refine wpAny_mono (hb _ I4) (fun f s' ⟨_, fl, ρ', σ', I', rf, q⟩ => ?_) fun _ _ z => z.elim
  subst q
  simp only [RelF, Rel] at rf
  obtain ⟨x, rfl, rfl⟩ := rf
  obtain ⟨h', tk', e⟩ := I'.sh
  exact hQ s' I'.base (by rw [e]) (by rw [e])
theorem law_holds.tw10983241140555628109 : True := trivial
theorem law_holds.tw11846676642670509255 : True := trivial
theorem law_holds.tw1414043511812021011 : True := trivial
theorem law_holds.tw14160533322030094474 : True := trivial
theorem law_holds.tw447027507633508388 : True := trivial
theorem law_holds.tw6860709855171689206 : True := trivial
theorem law_holds.tw9168033884955339765 : True := trivial
theorem law_holds.tw3974387499553966400 : True := trivial
theorem law_holds.tw9288214680346807717 : True := trivial
theorem law_holds.tw5950301352895977177 : True := trivial
theorem law_holds.tw10028117763298573888 : True := trivial
theorem law_holds.tw12847567107135931479 : True := trivial
theorem law_holds.tw2695550118857162214 : True := trivial
theorem law_holds.tw16805829885119392726 : True := trivial
theorem law_holds.tw3035144380315620824 : True := trivial
theorem law_holds.tw4992725456586698614 : True := trivial
theorem law_holds.tw8514742172934523775 : True := trivial
theorem law_holds.tw17934067817069507646 : True := trivial
theorem law_holds.tw7696488724909661519 : True := trivial
theorem law_holds.tw11097350217990362986 : True := trivial
theorem law_holds.tw3307954989432871184 : True := trivial
theorem law_holds.tw2503670479209048990 : True := trivial
theorem law_holds.tw1096898596823417342 : True := trivial
theorem law_holds.tw18326849912455186884 : True := trivial
theorem law_holds.tw3253568177066640346 : True := trivial
theorem law_holds.tw1784627337472249616 : True := trivial
theorem law_holds.tw16893121556090616931 : True := trivial
theorem law_holds.tw10007947361888340627 : True := trivial
theorem law_holds.tw14872900085578418628 : True := trivial
theorem law_holds.tw12481875629721207810 : True := trivial
theorem law_holds.tw14497384708736915567 : True := trivial
theorem law_holds.tw3756308257209627903 : True := trivial
theorem law_holds.tw18261290160731607033 : True := trivial
theorem law_holds.tw6727219029552735585 : True := trivial
theorem law_holds.tw2907507879108658156 : True := trivial
theorem law_holds.tw12134408205421670959 : True := trivial
theorem law_holds.tw7408472829698581751 : True := trivial
theorem law_holds.tw1341266762083198811 : True := trivial
theorem law_holds.tw7495221243884187115 : True := trivial
theorem law_holds.tw4524032621918665186 : True := trivial
theorem law_holds.tw8890443458166856008 : True := trivial
theorem law_holds.tw12459966957829302596 : True := trivial
theorem law_holds.tw8984152853971343422 : True := trivial
theorem law_holds.tw5045712524691215523 : True := trivial
theorem law_holds.tw17993387198741990920 : True := trivial
theorem law_holds.tw2090888555730037645 : True := trivial
theorem law_holds.tw12889056044993165476 : True := trivial
theorem law_holds.tw9889521400790421688 : True := trivial
theorem law_holds.tw10301956948240465243 : True := trivial
theorem law_holds.tw11133525997344109421 : True := trivial
theorem law_holds.tw6265907326580845545 : True := trivial
theorem law_holds.tw18388893480867403737 : True := trivial
theorem law_holds.tw7769649832755249146 : True := trivial
theorem law_holds.tw5858263632927829637 : True := trivial
theorem law_holds.tw5506821171919863439 : True := trivial
theorem law_holds.tw13397297893571687751 : True := trivial
theorem law_holds.tw6667284449218939238 : True := trivial
theorem law_holds.tw17713402740875732926 : True := trivial
theorem law_holds.tw11484002064277903863 : True := trivial
theorem law_holds.tw14774650325386425613 : True := trivial
theorem law_holds.tw1670043908289496885 : True := trivial
theorem law_holds.tw2269544990204364226 : True := trivial
theorem law_holds.tw179590077315354965 : True := trivial
theorem law_holds.tw6896717019858035522 : True := trivial
theorem law_holds.tw13429453918920967058 : True := trivial
theorem law_holds.tw15609566024721092083 : True := trivial
theorem law_holds.tw3850334171643177529 : True := trivial
theorem law_holds.tw9606376775287448836 : True := trivial
theorem law_holds.tw6746360682218282392 : True := trivial
theorem law_holds.tw1496123403401453975 : True := trivial
theorem law_holds.tw3186734533307500241 : True := trivial
theorem law_holds.tw12116493165278983582 : True := trivial
theorem law_holds.tw1031057903888850656 : True := trivial
theorem law_holds.tw1385162719727133579 : True := trivial
theorem law_holds.tw3329330481660614911 : True := trivial
theorem law_holds.tw5920216800500632969 : True := trivial
theorem law_holds.tw16461882675039125421 : True := trivial
theorem law_holds.tw8860054118572591635 : True := trivial
theorem law_holds.tw16009327648451700120 : True := trivial
theorem law_holds.tw907578622648922086 : True := trivial
theorem law_holds.tw15732109348078318572 : True := trivial
theorem law_holds.tw11690447701083486646 : True := trivial
theorem law_holds.tw13113305378903851012 : True := trivial
theorem law_holds.tw16760957895259694429 : True := trivial
theorem law_holds.tw15661869461025623997 : True := trivial
theorem law_holds.tw15726739188670627701 : True := trivial
theorem law_holds.tw2152083551845799040 : True := trivial
theorem law_holds.tw18090433342136740992 : True := trivial
theorem law_holds.tw13983371404066579822 : True := trivial
theorem law_holds.tw3776956092104397036 : True := trivial
theorem law_holds.tw15150646450996357022 : True := trivial
theorem law_holds.tw4581845663705801772 : True := trivial
theorem law_holds.tw9423440377400516374 : True := trivial
theorem law_holds.tw5769158387606399586 : True := trivial
theorem law_holds.tw11426015686315989412 : True := trivial
theorem law_holds.tw6499956759230125245 : True := trivial
theorem law_holds.tw11100686419730198450 : True := trivial
theorem law_holds.tw10829313771624777081 : True := trivial
theorem law_holds.tw10516828495840041881 : True := trivial
theorem law_holds.tw3682559726232862161 : True := trivial
theorem law_holds.tw15154110283740273250 : True := trivial
theorem law_holds.tw17923851452625207687 : True := trivial
theorem law_holds.tw14822640431511872941 : True := trivial
theorem law_holds.tw10222300733896627045 : True := trivial
theorem law_holds.tw8266603773606604290 : True := trivial
theorem law_holds.tw14925382992726071281 : True := trivial
theorem law_holds.tw18051328159682125866 : True := trivial
theorem law_holds.tw6507877686720480950 : True := trivial
theorem law_holds.tw15051740841830852519 : True := trivial
theorem law_holds.tw16935243356766158856 : True := trivial
theorem law_holds.tw4370086069003782432 : True := trivial
theorem law_holds.tw59864651932915081 : True := trivial
theorem law_holds.tw41732636909640268 : True := trivial
theorem law_holds.tw1762888911704233025 : True := trivial
theorem law_holds.tw16470317323979864763 : True := trivial
theorem law_holds.tw2618386414584295968 : True := trivial
theorem law_holds.tw11017292853192552079 : True := trivial
theorem law_holds.tw5389484754426515990 : True := trivial
theorem law_holds.tw8249079356659094474 : True := trivial
theorem law_holds.tw9849722394096787677 : True := trivial
theorem law_holds.tw12296726922439171297 : True := trivial
theorem law_holds.tw4889031023730116350 : True := trivial
theorem law_holds.tw13766487248619392586 : True := trivial
theorem law_holds.tw17253691774821329096 : True := trivial
theorem law_holds.tw15034731701347546215 : True := trivial
theorem law_holds.tw8857742495270377987 : True := trivial
theorem law_holds.tw1928719863018725356 : True := trivial
theorem law_holds.tw8570087061310353148 : True := trivial
theorem law_holds.tw10666784280354678857 : True := trivial
theorem law_holds.tw1053317679998426468 : True := trivial
theorem law_holds.tw2006301483956418059 : True := trivial
theorem law_holds.tw3850375180904979519 : True := trivial
theorem law_holds.tw2075624079617657780 : True := trivial
theorem law_holds.tw12149405283708829123 : True := trivial
theorem law_holds.tw9875236377963488844 : True := trivial
theorem law_holds.tw3494445600050047599 : True := trivial
theorem law_holds.tw10371022188087798493 : True := trivial
theorem law_holds.tw5455921660152230842 : True := trivial
theorem law_holds.tw11677100312832694166 : True := trivial
theorem law_holds.tw14789792462180790578 : True := trivial
theorem law_holds.tw3366817510852727610 : True := trivial
theorem law_holds.tw676263390381983339 : True := trivial
theorem law_holds.tw5117662029339320154 : True := trivial
theorem law_holds.tw9779807473162285230 : True := trivial
theorem law_holds.tw11437619114101698056 : True := trivial
theorem law_holds.tw4441770287765753910 : True := trivial
theorem law_holds.tw12456547296908542839 : True := trivial
theorem law_holds.tw1819975233463548508 : True := trivial
theorem law_holds.tw13182730311906835528 : True := trivial
theorem law_holds.tw13220211186989608806 : True := trivial
theorem law_holds.tw6677821561840896501 : True := trivial
theorem law_holds.tw3979707639553702691 : True := trivial
theorem law_holds.tw11625900857008200698 : True := trivial
theorem law_holds.tw602461330855297101 : True := trivial
theorem law_holds.tw16106779387088534511 : True := trivial
theorem law_holds.tw4037582482628031876 : True := trivial
theorem law_holds.tw699380112222796084 : True := trivial
theorem law_holds.tw7120836010843673076 : True := trivial
theorem law_holds.tw160851071654074740 : True := trivial
theorem law_holds.tw7404543985812422374 : True := trivial
theorem law_holds.tw13800757232730249582 : True := trivial
theorem law_holds.tw3742325753681652743 : True := trivial
theorem law_holds.tw17255088995462705879 : True := trivial
theorem law_holds.tw1689763614830377041 : True := trivial
theorem law_holds.tw575232530192455986 : True := trivial
theorem law_holds.tw10968802771074238664 : True := trivial
theorem law_holds.tw3943428198234077543 : True := trivial
theorem law_holds.tw11881114122080957857 : True := trivial
theorem law_holds.tw1909877003179415225 : True := trivial
theorem law_holds.tw10566571302883470556 : True := trivial
theorem law_holds.tw14354538779393863138 : True := trivial
theorem law_holds.tw15759456685926392790 : True := trivial
theorem law_holds.tw10817052189556005596 : True := trivial
theorem law_holds.tw14983226153234331074 : True := trivial
theorem law_holds.tw2055734563569237896 : True := trivial
theorem law_holds.tw13280740594461564331 : True := trivial
theorem law_holds.tw2856731137302751260 : True := trivial
theorem law_holds.tw13392613628428298086 : True := trivial
theorem law_holds.tw11966672015165255308 : True := trivial
theorem law_holds.tw6564709946809587534 : True := trivial
theorem law_holds.tw17180001009569633970 : True := trivial
theorem law_holds.tw10024239376800412576 : True := trivial
theorem law_holds.tw3896150654470677357 : True := trivial
theorem law_holds.tw8472228645029834797 : True := trivial
theorem law_holds.tw6911747868599837429 : True := trivial
theorem law_holds.tw7408322871517469003 : True := trivial
theorem law_holds.tw8957123355933967898 : True := trivial
theorem law_holds.tw16462895619179043833 : True := trivial
theorem law_holds.tw7472407996622490835 : True := trivial
theorem law_holds.tw10441050188594101415 : True := trivial
theorem law_holds.tw8970147916757833333 : True := trivial
theorem law_holds.tw3927331946688356228 : True := trivial
theorem law_holds.tw2102315897755806987 : True := trivial
theorem law_holds.tw16883458599210261866 : True := trivial
theorem law_holds.tw17345407343664743607 : True := trivial
theorem law_holds.tw16406091861079842607 : True := trivial
theorem law_holds.tw14498155544194170393 : True := trivial
theorem law_holds.tw6881874429007886204 : True := trivial
theorem law_holds.tw4072507727158212662 : True := trivial
theorem law_holds.tw11544315989524547432 : True := trivial
theorem law_holds.tw8441880690091102137 : True := trivial
theorem law_holds.tw13478230802861573701 : True := trivial
theorem law_holds.tw12889673554181485818 : True := trivial
theorem law_holds.tw14377833709258309704 : True := trivial
theorem law_holds.tw2578278018795888234 : True := trivial
theorem law_holds.tw11126432536435168541 : True := trivial
theorem law_holds.tw4008084134468147086 : True := trivial
theorem law_holds.tw850272041215511910 : True := trivial
theorem law_holds.tw8806649888931605024 : True := trivial
theorem law_holds.tw14571795756577361901 : True := trivial
theorem law_holds.tw9843604407834444796 : True := trivial
theorem law_holds.tw14289194402921355359 : True := trivial
theorem law_holds.tw5037970770195530229 : True := trivial
theorem law_holds.tw12645607732203181651 : True := trivial
theorem law_holds.tw4818577856007422655 : True := trivial
theorem law_holds.tw8909828626151137519 : True := trivial
theorem law_holds.tw16273140198857503625 : True := trivial
theorem law_holds.tw9887912731928775018 : True := trivial
theorem law_holds.tw12780804625047726367 : True := trivial
theorem law_holds.tw18254337876149969668 : True := trivial
theorem law_holds.tw8481075993509181622 : True := trivial
theorem law_holds.tw10368410895845634921 : True := trivial
theorem law_holds.tw660297872995803996 : True := trivial
theorem law_holds.tw3005452535816212104 : True := trivial
theorem law_holds.tw4593294709026258786 : True := trivial
theorem law_holds.tw8040771413219435098 : True := trivial
theorem law_holds.tw15162217921772873613 : True := trivial
theorem law_holds.tw2175471002772951711 : True := trivial
theorem law_holds.tw653560878884961445 : True := trivial
theorem law_holds.tw6719018230134327050 : True := trivial
theorem law_holds.tw4916342969005030805 : True := trivial
theorem law_holds.tw14988988175077273356 : True := trivial
theorem law_holds.tw11182679623053108816 : True := trivial
theorem law_holds.tw17064427365770177139 : True := trivial
theorem law_holds.tw12394330538082041428 : True := trivial
theorem law_holds.tw2143268655074302082 : True := trivial
theorem law_holds.tw5112083995522966620 : True := trivial
theorem law_holds.tw607667584577438428 : True := trivial
theorem law_holds.tw3910120701321347557 : True := trivial
theorem law_holds.tw13028658284911697911 : True := trivial
theorem law_holds.tw14883556706271630602 : True := trivial
theorem law_holds.tw12831907817818079685 : True := trivial
theorem law_holds.tw10242277825702978295 : True := trivial
theorem law_holds.tw718173064312146323 : True := trivial
theorem law_holds.tw17911580528928914924 : True := trivial
theorem law_holds.tw10486713781251687710 : True := trivial
theorem law_holds.tw4614512636035447770 : True := trivial
theorem law_holds.tw8634839017697508684 : True := trivial
theorem law_holds.tw4515466672771955728 : True := trivial
theorem law_holds.tw9529696498207198238 : True := trivial
theorem law_holds.tw1832781179975386347 : True := trivial
theorem law_holds.tw15829985883664642994 : True := trivial
theorem law_holds.tw3850404396616230974 : True := trivial
theorem law_holds.tw8835965917227929528 : True := trivial
theorem law_holds.tw7356724547972884604 : True := trivial
theorem law_holds.tw908389787484368193 : True := trivial
theorem law_holds.tw10108825076125807744 : True := trivial
theorem law_holds.tw3046938939346580660 : True := trivial
theorem law_holds.tw11330957891505755796 : True := trivial
theorem law_holds.tw2136269947727277649 : True := trivial
theorem law_holds.tw8666519363043736892 : True := trivial
theorem law_holds.tw1973129929022764952 : True := trivial
theorem law_holds.tw8386679336120195906 : True := trivial
theorem law_holds.tw6861490101519172755 : True := trivial
theorem law_holds.tw8191475993861738794 : True := trivial
theorem law_holds.tw13154458805202713791 : True := trivial
theorem law_holds.tw5451054884063135654 : True := trivial
theorem law_holds.tw1773585624013562120 : True := trivial
theorem law_holds.tw11946340739361827192 : True := trivial
theorem law_holds.tw17499823404086765753 : True := trivial
theorem law_holds.tw13958071646730322851 : True := trivial
theorem law_holds.tw5989267464594152519 : True := trivial
theorem law_holds.tw13276130131300722947 : True := trivial
theorem law_holds.tw6544857814315514376 : True := trivial
theorem law_holds.tw3882201998751590657 : True := trivial
theorem law_holds.tw8854015012368427407 : True := trivial
theorem law_holds.tw3136910860242942599 : True := trivial
theorem law_holds.tw11223184984439025696 : True := trivial
theorem law_holds.tw15617896438947887921 : True := trivial
theorem law_holds.tw1791086108937442324 : True := trivial
theorem law_holds.tw194939583717160490 : True := trivial
theorem law_holds.tw8984712037535005518 : True := trivial
theorem law_holds.tw2558664710541493025 : True := trivial
theorem law_holds.tw8652346329174877282 : True := trivial
theorem law_holds.tw13650905803964671038 : True := trivial
theorem law_holds.tw16074064945343616743 : True := trivial
theorem law_holds.tw1622690429015379626 : True := trivial
theorem law_holds.tw3390839446522356110 : True := trivial
theorem law_holds.tw7311554392007033315 : True := trivial
theorem law_holds.tw11404014056486942332 : True := trivial
theorem law_holds.tw17899081815984039989 : True := trivial
theorem law_holds.tw7304591109411159013 : True := trivial
theorem law_holds.tw14904137174637212347 : True := trivial
theorem law_holds.tw10841264019214440115 : True := trivial
theorem law_holds.tw4146061822495498468 : True := trivial
theorem law_holds.tw15140378357190847165 : True := trivial
theorem law_holds.tw6776455111828631412 : True := trivial
theorem law_holds.tw13468313569152143045 : True := trivial
theorem law_holds.tw5212653520564569363 : True := trivial
theorem law_holds.tw17974257514489008736 : True := trivial
theorem law_holds.tw5731563423909890137 : True := trivial
theorem law_holds.tw4439653461905209652 : True := trivial
theorem law_holds.tw10296202853966499060 : True := trivial
theorem law_holds.tw123295346585929383 : True := trivial
theorem law_holds.tw10609929442622069884 : True := trivial
theorem law_holds.tw9207643191828677137 : True := trivial
theorem law_holds.tw6709271908398517637 : True := trivial
theorem law_holds.tw16563099163409725306 : True := trivial
theorem law_holds.tw15191720212996534143 : True := trivial
theorem law_holds.tw2644310842459337959 : True := trivial
theorem law_holds.tw13402424001964919149 : True := trivial
theorem law_holds.tw8090398218944221479 : True := trivial
theorem law_holds.tw14746732674962391887 : True := trivial
theorem law_holds.tw5640673133297012132 : True := trivial
theorem law_holds.tw3028213030429885723 : True := trivial
theorem law_holds.tw14828999820898988419 : True := trivial
theorem law_holds.tw14646867148444618371 : True := trivial
theorem law_holds.tw13336368349410954346 : True := trivial
theorem law_holds.tw17274716441693411508 : True := trivial
theorem law_holds.tw498061464947678834 : True := trivial
theorem law_holds.tw12291295341487003417 : True := trivial
theorem law_holds.tw10465528174321978529 : True := trivial
theorem law_holds.tw1258919526383655059 : True := trivial
theorem law_holds.tw15352839923633478061 : True := trivial
theorem law_holds.tw15293083901398250104 : True := trivial
theorem law_holds.tw9992725586745946429 : True := trivial
theorem law_holds.tw445335354869643106 : True := trivial
theorem law_holds.tw10442559174759676424 : True := trivial
theorem law_holds.tw14991590004735058009 : True := trivial
theorem law_holds.tw13281950902743806629 : True := trivial
theorem law_holds.tw8790382262760724670 : True := trivial
theorem law_holds.tw3033269912633744064 : True := trivial
theorem law_holds.tw3912811242725288453 : True := trivial
theorem law_holds.tw14997073306097389879 : True := trivial
theorem law_holds.tw14596297492920191028 : True := trivial
theorem law_holds.tw16098122237329998606 : True := trivial
theorem law_holds.tw12977093529070104392 : True := trivial
theorem law_holds.tw7185456241796803578 : True := trivial
theorem law_holds.tw15694993059591697976 : True := trivial
theorem law_holds.tw8330938851228082562 : True := trivial
theorem law_holds.tw1710076424337546998 : True := trivial
theorem law_holds.tw1685627985566243432 : True := trivial
theorem law_holds.tw5062152199769849712 : True := trivial
theorem law_holds.tw2322801206320994539 : True := trivial
theorem law_holds.tw1550374771381668074 : True := trivial
theorem law_holds.tw14335913921861858828 : True := trivial
theorem law_holds.tw12622292602297523153 : True := trivial
theorem law_holds.tw8176227357466254829 : True := trivial
theorem law_holds.tw8763168800255643514 : True := trivial
theorem law_holds.tw1560488128467205805 : True := trivial
theorem law_holds.tw5898729028444588960 : True := trivial
theorem law_holds.tw10093380194815717143 : True := trivial
theorem law_holds.tw2139172203440323022 : True := trivial
theorem law_holds.tw11609493526922420660 : True := trivial
theorem law_holds.tw11924911360389889469 : True := trivial
theorem law_holds.tw5364902710198789758 : True := trivial
theorem law_holds.tw8804120190785687885 : True := trivial
theorem law_holds.tw16836969012518115619 : True := trivial
theorem law_holds.tw12476058986133298565 : True := trivial
theorem law_holds.tw14051398506283589457 : True := trivial
theorem law_holds.tw1778412455037948541 : True := trivial
theorem law_holds.tw3572487005457819259 : True := trivial
theorem law_holds.tw9682718004065560343 : True := trivial
theorem law_holds.tw11098625913536864229 : True := trivial
theorem law_holds.tw10876394233666535175 : True := trivial
theorem law_holds.tw15802469936163623734 : True := trivial
theorem law_holds.tw8785698371604719795 : True := trivial
theorem law_holds.tw12342728606916771844 : True := trivial
theorem law_holds.tw15527639110640922598 : True := trivial
theorem law_holds.tw17865009358878524859 : True := trivial
theorem law_holds.tw4995542688137877417 : True := trivial
theorem law_holds.tw13190408463805328480 : True := trivial
theorem law_holds.tw2903333896348957400 : True := trivial
theorem law_holds.tw8553002610548859549 : True := trivial
theorem law_holds.tw16190678330180157336 : True := trivial
theorem law_holds.tw8715444014776630742 : True := trivial
theorem law_holds.tw10726639523019406850 : True := trivial
theorem law_holds.tw15448297888555860652 : True := trivial
theorem law_holds.tw724200737284857819 : True := trivial
theorem law_holds.tw4464252984393422682 : True := trivial
theorem law_holds.tw11764581739189218997 : True := trivial
theorem law_holds.tw4273555757443719353 : True := trivial
theorem law_holds.tw1285599515219305098 : True := trivial
theorem law_holds.tw11795792742502079742 : True := trivial
theorem law_holds.tw1335265377702380343 : True := trivial
theorem law_holds.tw17028624522117568015 : True := trivial
theorem law_holds.tw11289095316329951393 : True := trivial
theorem law_holds.tw11946022803392826334 : True := trivial
theorem law_holds.tw13250372474279835810 : True := trivial
theorem law_holds.tw7820799176418779761 : True := trivial
theorem law_holds.tw13780023080261437657 : True := trivial
theorem law_holds.tw3956099054510807996 : True := trivial
theorem law_holds.tw17237755526102222789 : True := trivial
theorem law_holds.tw3959601488294255719 : True := trivial
theorem law_holds.tw6629495429873386292 : True := trivial
theorem law_holds.tw16873799427995575018 : True := trivial
theorem law_holds.tw15485784513757854476 : True := trivial
theorem law_holds.tw576407869801174206 : True := trivial
theorem law_holds.tw11097158420108258118 : True := trivial
theorem law_holds.tw455179833554555240 : True := trivial
theorem law_holds.tw3756957479349018193 : True := trivial
theorem law_holds.tw13709617746848070560 : True := trivial
theorem law_holds.tw3595789414353437717 : True := trivial
theorem law_holds.tw7407239408455114201 : True := trivial
theorem law_holds.tw11470271118054631628 : True := trivial
theorem law_holds.tw15806970514647361693 : True := trivial
theorem law_holds.tw16099233806120587224 : True := trivial
theorem law_holds.tw17942709131360195518 : True := trivial
theorem law_holds.tw5274592661964301406 : True := trivial
theorem law_holds.tw3955097671198598788 : True := trivial
theorem law_holds.tw10350734228115807855 : True := trivial
theorem law_holds.tw18269650602155537469 : True := trivial
theorem law_holds.tw12732824653754844360 : True := trivial
theorem law_holds.tw7497986649931050792 : True := trivial
theorem law_holds.tw8369274380968253667 : True := trivial
theorem law_holds.tw9069877914133315304 : True := trivial
theorem law_holds.tw981846192996546977 : True := trivial
theorem law_holds.tw302768837105346163 : True := trivial
theorem law_holds.tw2295933128562542503 : True := trivial
theorem law_holds.tw6189876280036216102 : True := trivial
theorem law_holds.tw7604666192120794032 : True := trivial
theorem law_holds.tw9255152265573255198 : True := trivial
theorem law_holds.tw7566432030715092817 : True := trivial
theorem law_holds.tw15544829507116839252 : True := trivial
theorem law_holds.tw12835091436910803158 : True := trivial
theorem law_holds.tw3158129796062787159 : True := trivial
theorem law_holds.tw1035469204868569938 : True := trivial
theorem law_holds.tw16614716721108272449 : True := trivial
theorem law_holds.tw745255978533919091 : True := trivial
theorem law_holds.tw10362271348294423435 : True := trivial
theorem law_holds.tw12115171985352901274 : True := trivial
theorem law_holds.tw14892801356780361778 : True := trivial
theorem law_holds.tw5914491427308094424 : True := trivial
theorem law_holds.tw12419048959643632839 : True := trivial
theorem law_holds.tw13882729330811710610 : True := trivial
theorem law_holds.tw4030767218360268280 : True := trivial
theorem law_holds.tw13087128984098923117 : True := trivial
theorem law_holds.tw11347954631545130290 : True := trivial
theorem law_holds.tw14390095281932903014 : True := trivial
theorem law_holds.tw2387193687640843687 : True := trivial
theorem law_holds.tw13190703287169160282 : True := trivial
theorem law_holds.tw16978406815995349258 : True := trivial
theorem law_holds.tw12687621791434340054 : True := trivial
theorem law_holds.tw16381176275627223697 : True := trivial
theorem law_holds.tw6723812968561706957 : True := trivial
theorem law_holds.tw6064877940710918222 : True := trivial
theorem law_holds.tw11803358882649189518 : True := trivial
theorem law_holds.tw1172607208729018732 : True := trivial
theorem law_holds.tw7636989558263936852 : True := trivial
theorem law_holds.tw5907203647135998699 : True := trivial
set_option Elab.async true
theorem law_holds : PySem.Challenge.rw_rr0024_02.Holds := by
  w_on; o_law; k_head; (case hw => w_witness2)
  w_strict (
    k_go0
    refine law_end (by assumption) (topRead_of (by assumption)) (by assumption) (by assumption) (by assumption) (by assumption) (by rfl) (by assumption) (by assumption) (by assumption) (by assumption) (by assumption) (by rfl) (by rfl) (by rfl) (by rfl) ?_
    intro s' h1 h2 h3
    refine ⟨.inl ⟨.bool true, .bool true, [], rfl, ?_, .bool true, ?_, ?_⟩, h1, h2, ?_⟩
    · intro cls; rfl
    · first | kernel_rfl | with_unfolding_all rfl | simp
    · intro _; exact ⟨by simp, by simp⟩
    · rw [h3]; assumption)
end Mine
set_option maxRecDepth 100000 in
set_option maxHeartbeats 8000000 in
theorem PySem.Challenge.cw_rr0024_02_holds : PySem.Challenge.rw_rr0024_02.Holds := by
  exact Mine.law_holds
