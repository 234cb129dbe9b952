import PyProof.Rows.All
import Wide.All
import OpenK.AllK
import Wide.FinOn
import PyProof.EqAt
import PyProof.EqKinds
import PyProof.TupleCall
import HandS.ForMost
import HandS.ForExc
import HandS.IsInst
import HandS.Wide
import HandS.Zip
import HandS.Flow
import HandS.Defaults
import HandS.RaiseMore
import HandS.Conv
import HandS.TupLe
import HandS.ExcInit
import HandS.ExcField
import HandS.ExcIs
import HandS.TryOnly
import HandS.Head0
import HandS.Head1
import HandS.Head2
import HandS.HeadHook1
import HandS.HeadHook2
import HandS.Sort
import KE.KDictList
import PyProof.ReprBulk
import HandS.More
import HandS.SortInts
import HandS.SetKeys
import HandS.DictTup
import HandS.Keys
import KE.KDictWalk
import HandS.TupAny
import OpenK.KMore
import HandS.Style
import HandS.OwnEq
import HandS.Codes
import HandS.FStr
import PySem.Challenge.RW_panelwatch_k30_watches_copied_and_compar
set_option Elab.async false
set_option linter.all false
set_option maxRecDepth 100000
set_option maxHeartbeats 0
/-! VL: readings over data. D: a value as a tree; S: the objects that may change; a reading is a function of the slots, S and what is wanted. -/
namespace VL
open PySem PySem.Spec PyProof.Rows L2

inductive D where
  | non | bl (b : Bool) | int (i : Int) | str (x : Str) | ty (n : String) | ref (a : Addr)
  | tup (ds : List D) | lst (ds : List D) | dct (kvs : List (Key × D)) | exc (a : Addr) (dd : Option Addr) (cls : Value) (fs : List (Str × D))
inductive O where
  | lst (ds : List D) | dct (kvs : List (Key × D)) | ins (C : Addr) (fs : List (Str × D))
abbrev Sto := Addr → Option O
def put (S : Sto) (a : Addr) (o : O) : Sto := fun b => if b = a then some o else S b
def era (S : Sto) (a : Addr) : Sto := fun b => if b = a then none else S b
theorem put_same {S : Sto} {a : Addr} {o : O} : put S a o a = some o := by unfold put; rw [if_pos rfl]
theorem put_ne {S : Sto} {a b : Addr} {o : O} (h : b ≠ a) : put S a o b = S b := by unfold put; rw [if_neg h]
theorem put_put {S : Sto} {a : Addr} {o u : O} : put (put S a o) a u = put S a u := by
  funext b; unfold put; split <;> rfl
theorem put_self {S : Sto} {a : Addr} {o : O} (h : S a = some o) : put S a o = S := by
  funext b; unfold put; split
  · next e => rw [e, h]
  · rfl
theorem era_put {S : Sto} {a : Addr} {o : O} (h : S a = none) : era (put S a o) a = S := by
  funext b; unfold era put
  by_cases e : b = a
  · rw [if_pos e, e, h]
  · rw [if_neg e, if_neg e]
theorem put_comm {S : Sto} {a b : Addr} {o u : O} (h : a ≠ b) : put (put S a o) b u = put (put S b u) a o := by
  funext c; unfold put
  by_cases e : c = b
  · rw [if_pos e, if_neg (fun q => h (q.symm.trans e)), if_pos e]
  · rw [if_neg e]
    by_cases e2 : c = a
    · rw [if_pos e2, if_pos e2]
    · rw [if_neg e2, if_neg e2, if_neg e]
theorem era_put_ne {S : Sto} {a b : Addr} {o : O} (h : a ≠ b) : era (put S a o) b = put (era S b) a o := by
  funext c
  show (if c = b then none else if c = a then some o else S c) = (if c = a then some o else if c = b then none else S c)
  by_cases e : c = b
  · rw [if_pos e, if_neg (fun q => h (q.symm.trans e)), if_pos e]
  · rw [if_neg e]
    by_cases e2 : c = a
    · rw [if_pos e2, if_pos e2]
    · rw [if_neg e2, if_neg e2, if_neg e]
/-- S' has lost some of what S has -/
def Sub (S' S : Sto) : Prop := ∀ a, S' a = none ∨ S' a = S a
theorem Sub.refl (S : Sto) : Sub S S := fun _ => .inr rfl
theorem Sub.trans {A B C : Sto} (h : Sub A B) (g : Sub B C) : Sub A C := fun a => by
  rcases h a with e | e
  · exact .inl e
  · rcases g a with q | q
    · exact .inl (e.trans q)
    · exact .inr (e.trans q)
theorem sub_put {S : Sto} {a : Addr} {o : O} (h : S a = none) : Sub S (put S a o) := fun b => by
  by_cases e : b = a
  · exact .inl (by rw [e]; exact h)
  · exact .inr (put_ne e).symm
theorem sub_put2 {S S' : Sto} {a : Addr} {o : O} (h : Sub S S') : Sub (put S a o) (put S' a o) := fun b => by
  by_cases e : b = a
  · exact .inr (by rw [e, put_same, put_same])
  · rw [put_ne e, put_ne e]; exact h b
theorem sub_era {S : Sto} {a : Addr} : Sub (era S a) S := fun b => by
  by_cases e : b = a
  · exact .inl (by unfold era; rw [if_pos e])
  · exact .inr (by unfold era; rw [if_neg e])

/-! ### what a value bears, in the part of the heap that stays -/
mutual
inductive Rep (K : PySem.W.Frag) (M : Hp) : V → D → Prop
  | non : Rep K M .non .non
  | bl (b : Bool) : Rep K M (.bl b) (.bl b)
  | int (i : Int) : Rep K M (.int i) (.int i)
  | str (x : Str) : Rep K M (.str x) (.str x)
  | ty (n : String) : Rep K M (.ty n) (.ty n)
  | ref (a : Addr) : Rep K M (.ref a) (.ref a)
  | tup {a : Addr} {xs : List V} {ds : List D} (h : SqT K M a xs) (r : Reps K M xs ds) : Rep K M (.ref a) (.tup ds)
  | lst {a : Addr} {xs : List V} {ds : List D} (h : SqL K M a xs) (r : Reps K M xs ds) : Rep K M (.ref a) (.lst ds)
  | dct {a : Addr} {kvs : List (Key × V)} {kds : List (Key × D)} (h : M a = some (.dK kvs)) (r : RepK K M kvs kds) : Rep K M (.ref a) (.dct kds)
  | exn (a : Addr) (cls : Value) : Rep K M (.ref a) (.exc a none cls [])
  | exs (a : Addr) (cls : Value) {dd : Addr} {fv : List (Str × V)} {fs : List (Str × D)} (h : M dd = some (.xd fv)) (r : RepF K M fv fs) : Rep K M (.ref a) (.exc a (some dd) cls fs)
inductive Reps (K : PySem.W.Frag) (M : Hp) : List V → List D → Prop
  | nil : Reps K M [] []
  | cons {v : V} {d : D} {vs : List V} {ds : List D} (h : Rep K M v d) (r : Reps K M vs ds) : Reps K M (v :: vs) (d :: ds)
inductive RepK (K : PySem.W.Frag) (M : Hp) : List (Key × V) → List (Key × D) → Prop
  | nil : RepK K M [] []
  | cons {k : Key} {v : V} {d : D} {vs : List (Key × V)} {ds : List (Key × D)} (h : Rep K M v d) (r : RepK K M vs ds) : RepK K M ((k, v) :: vs) ((k, d) :: ds)
inductive RepF (K : PySem.W.Frag) (M : Hp) : List (Str × V) → List (Str × D) → Prop
  | nil : RepF K M [] []
  | cons {f : Str} {v : V} {d : D} {vs : List (Str × V)} {ds : List (Str × D)} (h : Rep K M v d) (r : RepF K M vs ds) : RepF K M ((f, v) :: vs) ((f, d) :: ds)
end
section
variable {K : PySem.W.Frag} {M M' : Hp}
theorem same_t {a : Addr} {xs : List V} (e : Same M M') (h : SqT K M a xs) : SqT K M' a xs := by
  rcases h with (h | ⟨o, h⟩) | h
  · exact .inl (.inl (e _ _ h))
  · exact .inl (.inr ⟨o, e _ _ h⟩)
  · exact .inr h
mutual
theorem Rep.mono (e : Same M M') : ∀ {v : V} {d : D}, Rep K M v d → Rep K M' v d
  | _, _, .non => .non
  | _, _, .bl b => .bl b
  | _, _, .int i => .int i
  | _, _, .str x => .str x
  | _, _, .ty n => .ty n
  | _, _, .ref a => .ref a
  | _, _, .tup h r => .tup (same_t e h) (Reps.mono e r)
  | _, _, .lst h r => .lst (e.seq h) (Reps.mono e r)
  | _, _, .dct h r => .dct (e _ _ h) (RepK.mono e r)
  | _, _, .exn a c => .exn a c
  | _, _, .exs a c h r => .exs a c (e _ _ h) (RepF.mono e r)
theorem Reps.mono (e : Same M M') : ∀ {v : List V} {d : List D}, Reps K M v d → Reps K M' v d
  | _, _, .nil => .nil
  | _, _, .cons h r => .cons (Rep.mono e h) (Reps.mono e r)
theorem RepK.mono (e : Same M M') : ∀ {v : List (Key × V)} {d : List (Key × D)}, RepK K M v d → RepK K M' v d
  | _, _, .nil => .nil
  | _, _, .cons h r => .cons (Rep.mono e h) (RepK.mono e r)
theorem RepF.mono (e : Same M M') : ∀ {v : List (Str × V)} {d : List (Str × D)}, RepF K M v d → RepF K M' v d
  | _, _, .nil => .nil
  | _, _, .cons h r => .cons (Rep.mono e h) (RepF.mono e r)
end
theorem Reps.length : ∀ {v : List V} {d : List D}, Reps K M v d → v.length = d.length
  | _, _, .nil => rfl
  | _, _, .cons _ r => congrArg Nat.succ (Reps.length r)
theorem Reps.get : ∀ {vs : List V} {ds : List D} {i : Nat} {d : D}, Reps K M vs ds → ds[i]? = some d → ∃ v, vs[i]? = some v ∧ Rep K M v d
  | _, _, _, _, .nil, e => by simp at e
  | _, _, 0, _, .cons h _, e => by simp at e; subst e; exact ⟨_, rfl, h⟩
  | _, _, i + 1, d, .cons _ r, e => by
    obtain ⟨v, h1, h2⟩ := Reps.get (i := i) (d := d) r (by simpa using e)
    exact ⟨v, by simpa using h1, h2⟩
theorem Reps.append : ∀ {vs ws : List V} {ds es : List D}, Reps K M vs ds → Reps K M ws es → Reps K M (vs ++ ws) (ds ++ es)
  | _, _, _, _, .nil, s => s
  | _, _, _, _, .cons h r, s => .cons h (Reps.append r s)
theorem Reps.set {v : V} {d : D} (h : Rep K M v d) : ∀ {vs : List V} {ds : List D} (i : Nat), Reps K M vs ds → Reps K M (vs.set i v) (ds.set i d)
  | _, _, _, .nil => .nil
  | _, _, 0, .cons _ r => .cons h r
  | _, _, i + 1, .cons q r => .cons q (Reps.set h i r)
theorem Reps.drop : ∀ {vs : List V} {ds : List D} (n : Nat), Reps K M vs ds → Reps K M (vs.drop n) (ds.drop n)
  | _, _, 0, r => r
  | _, _, _ + 1, .nil => .nil
  | _, _, n + 1, .cons _ r => Reps.drop n r
theorem Reps.take : ∀ {vs : List V} {ds : List D} (n : Nat), Reps K M vs ds → Reps K M (vs.take n) (ds.take n)
  | _, _, 0, _ => .nil
  | _, _, _ + 1, .nil => .nil
  | _, _, n + 1, .cons h r => .cons h (Reps.take n r)
theorem Reps.dropLast {vs : List V} {ds : List D} (r : Reps K M vs ds) : Reps K M vs.dropLast ds.dropLast := by
  rw [List.dropLast_eq_take, List.dropLast_eq_take, r.length]; exact r.take _
theorem Reps.eraseIdx : ∀ {vs : List V} {ds : List D} (n : Nat), Reps K M vs ds → Reps K M (vs.eraseIdx n) (ds.eraseIdx n)
  | _, _, _, .nil => .nil
  | _, _, 0, .cons _ r => r
  | _, _, n + 1, .cons h r => .cons h (Reps.eraseIdx n r)
theorem Reps.reverse : ∀ {vs : List V} {ds : List D}, Reps K M vs ds → Reps K M vs.reverse ds.reverse
  | _, _, .nil => .nil
  | _, _, .cons h r => by rw [List.reverse_cons, List.reverse_cons]; exact (Reps.reverse r).append (.cons h .nil)
theorem Reps.cut {vs : List V} {ds : List D} (r : Reps K M vs ds) (lo hi : Option Int) : Reps K M (cutV vs lo hi) ((ds.drop (HT.sIx ds.length 0 lo)).take (HT.sIx ds.length ds.length hi - HT.sIx ds.length 0 lo)) := by
  unfold cutV; rw [r.length]; exact (r.drop _).take _
theorem RepF.lookup {f : Str} : ∀ {vs : List (Str × V)} {ds : List (Str × D)}, RepF K M vs ds → (∀ d, ds.lookup f = some d → ∃ v, vs.lookup f = some v ∧ Rep K M v d) ∧ (ds.lookup f = none → vs.lookup f = none)
  | _, _, .nil => ⟨(fun _ e => by simp at e), fun _ => rfl⟩
  | _, _, .cons (f := g) (v := v) (d := d) h r => by
    have ih := RepF.lookup (f := f) r
    by_cases e : f = g
    · subst e
      simp only [List.lookup, beq_self_eq_true]
      exact ⟨fun d' q => by cases q; exact ⟨v, rfl, h⟩, fun q => nomatch q⟩
    · have e' : (f == g) = false := by simpa using e
      simp only [List.lookup, e']
      exact ih
theorem RepF.length : ∀ {vs : List (Str × V)} {ds : List (Str × D)}, RepF K M vs ds → vs.length = ds.length
  | _, _, .nil => rfl
  | _, _, .cons _ r => congrArg Nat.succ (RepF.length r)
def putG {α : Type} (f : Str) (v : α) : List (Str × α) → List (Str × α)
  | [] => [(f, v)]
  | (g, w) :: r => if g = f then (g, v) :: r else (g, w) :: putG f v r
theorem RepF.put {f : Str} {v : V} {d : D} (h : Rep K M v d) : ∀ {vs : List (Str × V)} {ds : List (Str × D)}, RepF K M vs ds → RepF K M (putF f v vs) (putG f d ds)
  | _, _, .nil => .cons h .nil
  | _, _, .cons (f := g) q r => by
    unfold putF putG
    by_cases e : g = f
    · rw [if_pos e, if_pos e]; subst e; exact .cons h r
    · rw [if_neg e, if_neg e]; exact .cons q (RepF.put h r)
end

/-! ### the store over a heap -/
/-- what stays: what is tracked and may not change -/
def mask (F : Hp) (S : Sto) (H : Hp) : Hp := fun a => if (S a).isSome = true ∨ (F a).isSome = true then none else H a
def OOk (K : PySem.W.Frag) (M : Hp) (h : Option HO) : O → Prop
  | .lst ds => ∃ xs, h = some (.lst xs) ∧ Reps K M xs ds
  | .dct kds => ∃ kvs, h = some (.dK kvs) ∧ RepK K M kvs kds
  | .ins C fs => ∃ dx fv, h = some (.ins C dx fv) ∧ RepF K M fv fs
/-- F: what lies by the side, seen by none and changed by none -/
structure HSt (K : PySem.W.Frag) (F H : Hp) (S : Sto) : Prop where
  at_ : ∀ a o, S a = some o → OOk K (mask F S H) (H a) o
  side : ∀ a u, F a = some u → H a = some u ∧ S a = none
section
variable {K : PySem.W.Frag} {F H H' : Hp} {S S' : Sto} {a : Addr} {o : O} {u : HO}
theorem some_ne {α : Type} {x : Option α} {y : α} (h : x = some y) : x.isSome = true := by rw [h]; rfl
theorem none_ne {α : Type} {x : Option α} (h : x = none) : ¬ x.isSome = true := by rw [h]; exact Bool.false_ne_true
theorem not_some {α : Type} {x : Option α} (h : ¬ x.isSome = true) : x = none := by
  cases x with
  | none => rfl
  | some _ => exact absurd rfl h
theorem mask_none (h : S a = none) (f : F a = none) : mask F S H a = H a := if_neg fun z => z.elim (none_ne h) (none_ne f)
theorem mask_some (h : S a = some o) : mask F S H a = none := if_pos (.inl (some_ne h))
theorem mask_le : Same (mask F S H) H := fun b u e => by
  unfold mask at e; split at e
  · cases e
  · exact e
theorem mask_free (h : mask F S H a = some u) : S a = none ∧ F a = none ∧ H a = some u := by
  unfold mask at h; split at h
  · cases h
  · next q => exact ⟨not_some fun z => q (.inl z), not_some fun z => q (.inr z), h⟩
theorem OOk.mono {M M' : Hp} {h : Option HO} (e : Same M M') (k : OOk K M h o) : OOk K M' h o := by
  cases o with
  | lst ds => obtain ⟨xs, e1, r⟩ := k; exact ⟨xs, e1, r.mono e⟩
  | dct ds => obtain ⟨xs, e1, r⟩ := k; exact ⟨xs, e1, r.mono e⟩
  | ins C ds => obtain ⟨dx, xs, e1, r⟩ := k; exact ⟨dx, xs, e1, r.mono e⟩
theorem OOk.some {M : Hp} {h : Option HO} (k : OOk K M h o) : ∃ u, h = some u ∧ Mut (some u) := by
  cases o with
  | lst ds => obtain ⟨xs, e1, r⟩ := k; exact ⟨_, e1, trivial⟩
  | dct ds => obtain ⟨xs, e1, r⟩ := k; exact ⟨_, e1, trivial⟩
  | ins C ds => obtain ⟨dx, xs, e1, r⟩ := k; exact ⟨_, e1, trivial⟩
theorem HSt.free (h : HSt K F H S) (e : H a = none) : S a = none := by
  cases q : S a with
  | none => rfl
  | some o => obtain ⟨u, e1, _⟩ := (h.at_ a o q).some; rw [e] at e1; cases e1
theorem HSt.freeF (h : HSt K F H S) (e : H a = none) : F a = none := by
  cases q : F a with
  | none => rfl
  | some o => obtain ⟨e1, _⟩ := h.side a o q; rw [e] at e1; cases e1
theorem HSt.apart (h : HSt K F H S) (q : S a = some o) : F a = none := by
  cases z : F a with
  | none => rfl
  | some u => obtain ⟨_, e1⟩ := h.side a u z; rw [q] at e1; cases e1
/-- a new thing that stays -/
theorem same_new (h : HSt K F H S) (e : H a = none) : Same (mask F S H) (mask F S (upd H a u)) := fun b v q => by
  obtain ⟨q1, q0, q2⟩ := mask_free q
  rw [mask_none q1 q0, upd_ne (ne_of_none q2 e)]; exact q2
theorem hst_new (h : HSt K F H S) (e : H a = none) : HSt K F (upd H a u) S := ⟨fun b o q => by
  have hb : b ≠ a := fun z => by subst z; rw [h.free e] at q; cases q
  rw [upd_ne hb]; exact (h.at_ b o q).mono (same_new h e), fun b v q => by
  have hb : b ≠ a := fun z => by subst z; rw [h.freeF e] at q; cases q
  rw [upd_ne hb]; exact h.side b v q⟩
theorem mask_new (h : HSt K F H S) (e : H a = none) : mask F S (upd H a u) a = some u := by rw [mask_none (h.free e) (h.freeF e), upd_same]
/-- a new thing that may change -/
theorem same_newM (h : HSt K F H S) (e : H a = none) : Same (mask F S H) (mask F (put S a o) (upd H a u)) := fun b v q => by
  obtain ⟨q1, q0, q2⟩ := mask_free q
  have hb := ne_of_none q2 e
  rw [mask_none (by rw [put_ne hb]; exact q1) q0, upd_ne hb]; exact q2
theorem hst_newM (h : HSt K F H S) (e : H a = none) (k : OOk K (mask F S H) (some u) o) : HSt K F (upd H a u) (put S a o) := ⟨fun b v q => by
  by_cases hb : b = a
  · subst hb
    rw [put_same] at q; cases q
    rw [upd_same]; exact k.mono (same_newM h e)
  · rw [put_ne hb] at q
    rw [upd_ne hb]; exact (h.at_ b v q).mono (same_newM h e), fun b v q => by
  have hb : b ≠ a := fun z => by subst z; rw [h.freeF e] at q; cases q
  rw [upd_ne hb, put_ne hb]; exact h.side b v q⟩
/-- a change -/
theorem mask_chg {o' : O} (q : S a = some o) : mask F (put S a o') (upd H a u) = mask F S H := by
  funext b
  by_cases hb : b = a
  · subst hb; rw [mask_some put_same, mask_some q]
  · unfold mask; rw [put_ne hb, upd_ne hb]
theorem hst_chg {o' : O} (h : HSt K F H S) (q : S a = some o) (k : OOk K (mask F S H) (some u) o') : HSt K F (upd H a u) (put S a o') := ⟨fun b v e => by
  rw [mask_chg q]
  by_cases hb : b = a
  · subst hb
    rw [put_same] at e; cases e
    rw [upd_same]; exact k
  · rw [put_ne hb] at e
    rw [upd_ne hb]; exact h.at_ b v e, fun b v e => by
  have hb : b ≠ a := fun z => by subst z; rw [h.apart q] at e; cases e
  rw [upd_ne hb, put_ne hb]; exact h.side b v e⟩
/-- forgetting -/
theorem same_sub (e : Sub S' S) : Same (mask F S H) (mask F S' H) := fun b v q => by
  obtain ⟨q1, q0, q2⟩ := mask_free q
  have z : S' b = none := by
    rcases e b with z | z
    · exact z
    · rw [z]; exact q1
  rw [mask_none z q0]; exact q2
theorem hst_sub (h : HSt K F H S) (e : Sub S' S) : HSt K F H S' := ⟨fun b v q => by
  have z : S b = some v := by
    rcases e b with z | z
    · rw [q] at z; cases z
    · rw [← z]; exact q
  exact (h.at_ b v z).mono (same_sub e), fun b v q => by
  obtain ⟨q1, q2⟩ := h.side b v q
  refine ⟨q1, ?_⟩
  rcases e b with z | z
  · exact z
  · rw [z]; exact q2⟩
/-- something new put aside -/
theorem mask_aside (e : F a = none) (e2 : S a = none) (k : H a = some u) : Same (mask (upd F a u) S H) (mask F S H) := fun b v q => by
  obtain ⟨q1, q0, q2⟩ := mask_free q
  have hb : b ≠ a := fun z => by subst z; rw [upd_same] at q0; cases q0
  rw [upd_ne hb] at q0
  rw [mask_none q1 q0]; exact q2
theorem mask_beside (h : HSt K F H S) (e : H a = none) : Same (mask F S H) (mask (upd F a u) S (upd H a u)) := fun b v q => by
  obtain ⟨q1, q0, q2⟩ := mask_free q
  have hb := ne_of_none q2 e
  rw [mask_none q1 (by rw [upd_ne hb]; exact q0), upd_ne hb]; exact q2
theorem hst_beside (h : HSt K F H S) (e : H a = none) : HSt K (upd F a u) (upd H a u) S := ⟨fun b o q => by
  have hb : b ≠ a := fun z => by subst z; rw [h.free e] at q; cases q
  rw [upd_ne hb]; exact (h.at_ b o q).mono (mask_beside h e), fun b v q => by
  by_cases hb : b = a
  · subst hb
    rw [upd_same] at q ⊢
    exact ⟨q, h.free e⟩
  · rw [upd_ne hb] at q ⊢
    exact h.side b v q⟩
end

/-! ### the slots -/
abbrev Sd := List (Option D)
structure ER (K : PySem.W.Frag) (M : Hp) (σV : L2.St) (σ : Sd) : Prop where
  len : σV.length = σ.length
  at_ : ∀ (i : Nat) (d : D), σ[i]? = some (some d) → ∃ v, σV[i]? = some (some v) ∧ Rep K M v d
section
variable {K : PySem.W.Frag} {M M' : Hp} {σV : L2.St} {σ : Sd}
theorem ER.mono (h : ER K M σV σ) (e : Same M M') : ER K M' σV σ := ⟨h.len, fun i d q => let ⟨v, a, b⟩ := h.at_ i d q; ⟨v, a, b.mono e⟩⟩
theorem ER.set {i : Nat} {v : V} {d : D} (h : ER K M σV σ) (r : Rep K M v d) : ER K M (σV.set i (some v)) (σ.set i (some d)) := by
  refine ⟨by rw [List.length_set, List.length_set]; exact h.len, fun j e q => ?_⟩
  by_cases hj : i = j
  · subst hj
    have hi : i < σ.length := by
      have := (List.getElem?_eq_some_iff.mp q).1
      rwa [List.length_set] at this
    rw [List.getElem?_set_self hi] at q
    cases q
    exact ⟨v, List.getElem?_set_self (by rw [h.len]; exact hi), r⟩
  · rw [List.getElem?_set_ne hj] at q
    obtain ⟨w, a, b⟩ := h.at_ j e q
    exact ⟨w, by rw [List.getElem?_set_ne hj]; exact a, b⟩
theorem ER.setNone {i : Nat} {x : Option V} (h : ER K M σV σ) : ER K M (σV.set i x) (σ.set i none) := by
  refine ⟨by rw [List.length_set, List.length_set]; exact h.len, fun j e q => ?_⟩
  by_cases hj : i = j
  · subst hj
    have hi : i < σ.length := by
      have := (List.getElem?_eq_some_iff.mp q).1
      rwa [List.length_set] at this
    rw [List.getElem?_set_self hi] at q
    cases q
  · rw [List.getElem?_set_ne hj] at q
    obtain ⟨w, a, b⟩ := h.at_ j e q
    exact ⟨w, by rw [List.getElem?_set_ne hj]; exact a, b⟩
/-- a slot seen otherwise -/
theorem ER.see {i : Nat} {d : D} (h : ER K M σV σ) (r : ∀ v, σV[i]? = some (some v) → Rep K M v d) (hi : ∃ e, σ[i]? = some (some e)) : ER K M σV (σ.set i (some d)) := by
  refine ⟨by rw [List.length_set]; exact h.len, fun j e q => ?_⟩
  by_cases hj : i = j
  · subst hj
    have hi2 : i < σ.length := by
      have := (List.getElem?_eq_some_iff.mp q).1
      rwa [List.length_set] at this
    rw [List.getElem?_set_self hi2] at q
    cases q
    obtain ⟨e, he⟩ := hi
    obtain ⟨w, a, b⟩ := h.at_ i e he
    exact ⟨w, a, r w a⟩
  · rw [List.getElem?_set_ne hj] at q
    exact h.at_ j e q
end
end VL

/-! VL: the judgements over data, and the rules of expressions. -/
namespace VL
open PySem PySem.Spec PyProof.Rows L2

abbrev QD := D → Sto → Prop
abbrev XD := Value → List (Str × D) → Sto → Prop
abbrev TEd := Sd → Sto → QD → XD → Prop
abbrev TTd := Sd → Sto → (Bool → Sto → Prop) → XD → Prop
abbrev TAd := Sd → Sto → (List D → Sto → Prop) → XD → Prop

/-- from (H, S) on to (H', S') -/
structure Good (K : PySem.W.Frag) (F H : Hp) (S : Sto) (H' : Hp) (S' : Sto) : Prop where
  hst : HSt K F H' S'
  same : Same (mask F S H) (mask F S' H')
theorem Good.refl {K : PySem.W.Frag} {F H : Hp} {S : Sto} (h : HSt K F H S) : Good K F H S H S := ⟨h, Same.refl _⟩
theorem Good.trans {K : PySem.W.Frag} {F H H1 H2 : Hp} {S S1 S2 : Sto} (a : Good K F H S H1 S1) (b : Good K F H1 S1 H2 S2) : Good K F H S H2 S2 := ⟨b.hst, a.same.trans b.same⟩
def XRep (K : PySem.W.Frag) (M : Hp) : Option Addr → List (Str × D) → Prop
  | none, fs => fs = []
  | some dd, fs => ∃ fv, M dd = some (.xd fv) ∧ RepF K M fv fs
def LQ (K : PySem.W.Frag) (F H : Hp) (S : Sto) (Qd : QD) (Q : VK) : Prop := ∀ v H' d S', Good K F H S H' S' → Rep K (mask F S' H') v d → Qd d S' → Q v H'
def LX (K : PySem.W.Frag) (F : Hp) (W : WX) (σV : L2.St) (H : Hp) (S : Sto) (E : XD) : Prop := ∀ cls a H' fs S', Good K F H S H' S' → XRep K (mask F S' H') a fs → E cls fs S' → W cls a σV H'
theorem LQ.next {K : PySem.W.Frag} {F H H1 : Hp} {S S1 : Sto} {Qd : QD} {Q : VK} (h : LQ K F H S Qd Q) (g : Good K F H S H1 S1) : LQ K F H1 S1 Qd Q := fun v H' d S' g' => h v H' d S' (g.trans g')
theorem LX.next {K : PySem.W.Frag} {W : WX} {σV : L2.St} {F H H1 : Hp} {S S1 : Sto} {E : XD} (h : LX K F W σV H S E) (g : Good K F H S H1 S1) : LX K F W σV H1 S1 E := fun c a H' f S' g' => h c a H' f S' (g.trans g')

def Snd (K : PySem.W.Frag) (W : WX) (t : TE) (td : TEd) : Prop := ∀ {σV : L2.St} {F H : Hp} {σ : Sd} {S : Sto} {Qd : QD} {E : XD} {Q : VK},
  HSt K F H S → ER K (mask F S H) σV σ → td σ S Qd E → LQ K F H S Qd Q → LX K F W σV H S E → t σV H Q
def SndT (K : PySem.W.Frag) (W : WX) (t : TT) (td : TTd) : Prop := ∀ {σV : L2.St} {F H : Hp} {σ : Sd} {S : Sto} {Qd : Bool → Sto → Prop} {E : XD} {Q : Bool → Hp → Prop},
  HSt K F H S → ER K (mask F S H) σV σ → td σ S Qd E → (∀ b H' S', Good K F H S H' S' → Qd b S' → Q b H') → LX K F W σV H S E → t σV H Q
def SndA (K : PySem.W.Frag) (W : WX) (t : TA) (td : TAd) : Prop := ∀ {σV : L2.St} {F H : Hp} {σ : Sd} {S : Sto} {Qd : List D → Sto → Prop} {E : XD} {Q : List V → Hp → Prop},
  HSt K F H S → ER K (mask F S H) σV σ → td σ S Qd E → (∀ vs H' ds S', Good K F H S H' S' → Reps K (mask F S' H') vs ds → Qd ds S' → Q vs H') → LX K F W σV H S E → t σV H Q

structure VE (X : Cx) (W : WX) (e : Expr) (t : TE) (td : TEd) : Prop where
  run : PE X e t
  snd : Snd X.K W t td
structure VT (X : Cx) (W : WX) (e : Expr) (t : TT) (td : TTd) : Prop where
  run : PT X e t
  snd : SndT X.K W t td
structure VW (X : Cx) (W : WX) (e : Expr) (t : TT) (td : TTd) : Prop where
  run : PW X e t
  snd : SndT X.K W t td
structure VA (X : Cx) (W : WX) (es : List Expr) (t : TA) (td : TAd) : Prop where
  run : PA X es t
  snd : SndA X.K W t td

/-! ### seeing a thing -/
/-- a thing as it stands now -/
def vw (S : Sto) : D → D
  | .ref a => match S a with
    | some (.lst ds) => .lst ds
    | some (.dct k) => .dct k
    | _ => .ref a
  | d => d
section
variable {S : Sto}
@[simp] theorem vw_non : vw S .non = .non := rfl
@[simp] theorem vw_bl {b : Bool} : vw S (.bl b) = .bl b := rfl
@[simp] theorem vw_int {i : Int} : vw S (.int i) = .int i := rfl
@[simp] theorem vw_str {x : Str} : vw S (.str x) = .str x := rfl
@[simp] theorem vw_ty {x : String} : vw S (.ty x) = .ty x := rfl
@[simp] theorem vw_tup {ds : List D} : vw S (.tup ds) = .tup ds := rfl
@[simp] theorem vw_lst {ds : List D} : vw S (.lst ds) = .lst ds := rfl
@[simp] theorem vw_dct {ds : List (Key × D)} : vw S (.dct ds) = .dct ds := rfl
theorem vw_ref_lst {a : Addr} {ds : List D} (h : S a = some (.lst ds)) : vw S (.ref a) = .lst ds := by
  show (match S a with | some (.lst ds) => D.lst ds | some (.dct k) => .dct k | _ => .ref a) = _
  rw [h]
theorem vw_ref_dct {a : Addr} {ds : List (Key × D)} (h : S a = some (.dct ds)) : vw S (.ref a) = .dct ds := by
  show (match S a with | some (.lst ds) => D.lst ds | some (.dct k) => .dct k | _ => .ref a) = _
  rw [h]
theorem vw_ref {a : Addr} : (∃ ds, S a = some (.lst ds) ∧ vw S (.ref a) = .lst ds) ∨ (∃ ds, S a = some (.dct ds) ∧ vw S (.ref a) = .dct ds) ∨ vw S (.ref a) = .ref a := by
  cases e : S a with
  | none => exact .inr (.inr (by show (match S a with | some (.lst ds) => D.lst ds | some (.dct k) => .dct k | _ => .ref a) = _; rw [e]))
  | some o =>
    cases o with
    | lst ds => exact .inl ⟨ds, rfl, vw_ref_lst e⟩
    | dct ds => exact .inr (.inl ⟨ds, rfl, vw_ref_dct e⟩)
    | ins C fs => exact .inr (.inr (by show (match S a with | some (.lst ds) => D.lst ds | some (.dct k) => .dct k | _ => .ref a) = _; rw [e]))
end
section
variable {K : PySem.W.Frag} {F H : Hp} {S : Sto} {v : V} {d : D}
theorem sq_up {a : Addr} {xs : List V} (h : SqL K (mask F S H) a xs) : SqL K H a xs := mask_le.seq h
theorem st_up {a : Addr} {xs : List V} (h : SqT K (mask F S H) a xs) : SqT K H a xs := same_t mask_le h
theorem see_lst (hs : HSt K F H S) (r : Rep K (mask F S H) v d) {ds : List D} (e : vw S d = .lst ds) : ∃ a xs, v = .ref a ∧ SqL K H a xs ∧ Reps K (mask F S H) xs ds := by
  cases d with
  | ref a =>
    cases r
    rcases vw_ref (S := S) (a := a) with ⟨es, h1, h2⟩ | ⟨es, h1, h2⟩ | h2
    · rw [h2] at e; cases e
      obtain ⟨xs, e1, r⟩ := hs.at_ a _ h1
      exact ⟨a, xs, rfl, SqL.of e1, r⟩
    · rw [h2] at e; cases e
    · rw [h2] at e; cases e
  | lst es =>
    cases e
    cases r with
    | lst h r => exact ⟨_, _, rfl, sq_up h, r⟩
  | _ => cases e
theorem see_tup (r : Rep K (mask F S H) v d) {ds : List D} (e : vw S d = .tup ds) : d = .tup ds ∧ ∃ a xs, v = .ref a ∧ SqT K H a xs ∧ SqT K (mask F S H) a xs ∧ Reps K (mask F S H) xs ds := by
  cases d with
  | ref a =>
    cases r
    rcases vw_ref (S := S) (a := a) with ⟨es, h1, h2⟩ | ⟨es, h1, h2⟩ | h2 <;> (rw [h2] at e; cases e)
  | tup es =>
    cases e
    cases r with
    | tup h r => exact ⟨rfl, _, _, rfl, st_up h, h, r⟩
  | _ => cases e
theorem see_dct (hs : HSt K F H S) (r : Rep K (mask F S H) v d) {ds : List (Key × D)} (e : vw S d = .dct ds) : ∃ a xs, v = .ref a ∧ H a = some (.dK xs) ∧ RepK K (mask F S H) xs ds := by
  cases d with
  | ref a =>
    cases r
    rcases vw_ref (S := S) (a := a) with ⟨es, h1, h2⟩ | ⟨es, h1, h2⟩ | h2
    · rw [h2] at e; cases e
    · rw [h2] at e; cases e
      obtain ⟨xs, e1, r⟩ := hs.at_ a _ h1
      exact ⟨a, xs, rfl, e1, r⟩
    · rw [h2] at e; cases e
  | dct es =>
    cases e
    cases r with
    | dct h r => exact ⟨_, _, rfl, mask_le _ _ h, r⟩
  | _ => cases e
theorem see_int (r : Rep K (mask F S H) v d) {i : Int} (e : vw S d = .int i) : v = .int i := by
  cases d with
  | ref a => rcases vw_ref (S := S) (a := a) with ⟨es, h1, h2⟩ | ⟨es, h1, h2⟩ | h2 <;> (rw [h2] at e; cases e)
  | int j => cases e; cases r; rfl
  | _ => cases e
theorem see_str (r : Rep K (mask F S H) v d) {i : Str} (e : vw S d = .str i) : v = .str i := by
  cases d with
  | ref a => rcases vw_ref (S := S) (a := a) with ⟨es, h1, h2⟩ | ⟨es, h1, h2⟩ | h2 <;> (rw [h2] at e; cases e)
  | str j => cases e; cases r; rfl
  | _ => cases e
theorem see_bl (r : Rep K (mask F S H) v d) {i : Bool} (e : vw S d = .bl i) : v = .bl i := by
  cases d with
  | ref a => rcases vw_ref (S := S) (a := a) with ⟨es, h1, h2⟩ | ⟨es, h1, h2⟩ | h2 <;> (rw [h2] at e; cases e)
  | bl j => cases e; cases r; rfl
  | _ => cases e
theorem see_non (r : Rep K (mask F S H) v d) (e : vw S d = .non) : v = .non := by
  cases d with
  | ref a => rcases vw_ref (S := S) (a := a) with ⟨es, h1, h2⟩ | ⟨es, h1, h2⟩ | h2 <;> (rw [h2] at e; cases e)
  | non => cases r; rfl
  | _ => cases e
/-- the thing itself, as it stands now, where it is no object that may change -/
theorem rep_int {i : Int} : Rep K (mask F S H) (.int i) (.int i) := .int i
end

/-! ### names and constants -/
section
variable {X : Cx} {W : WX}
def dVar (i : Nat) : TEd := fun σ S Q _ => match σ[i]? with
  | some (some d) => Q d S
  | _ => False
theorem ve_var {i : Nat} {e : Expr} (h : PE X e (tVar i)) : VE X W e (tVar i) (dVar i) := by
  refine ⟨h, fun {σV F H σ S Qd E Q} hs er h hq hx => ?_⟩
  unfold dVar at h
  split at h
  · next d e => obtain ⟨v, e1, r⟩ := er.at_ i d e; exact ⟨v, e1, hq v H d S (.refl hs) r h⟩
  · cases h
def dC (d : D) : TEd := fun _ S Q _ => Q d S
theorem snd_c {v : V} {d : D} (r : ∀ M : Hp, Rep X.K M v d) : Snd X.K W (tC v) (dC d) := fun {σV F H σ S Qd E Q} hs er h hq hx => hq v H d S (.refl hs) (r _) h
theorem ve_int {i j pos} : VE X W (.Constant (.int i) j pos) (tC (.int i)) (dC (.int i)) := ⟨pe_int, snd_c fun _ => .int i⟩
theorem ve_bl {i j pos} : VE X W (.Constant (.bool i) j pos) (tC (.bl i)) (dC (.bl i)) := ⟨pe_bl, snd_c fun _ => .bl i⟩
theorem ve_non {j pos} : VE X W (.Constant .none j pos) (tC .non) (dC .non) := ⟨pe_non, snd_c fun _ => .non⟩
theorem ve_str {i j pos} : VE X W (.Constant (.str i) j pos) (tC (.str i)) (dC (.str i)) := ⟨pe_str, snd_c fun _ => .str i⟩
/-- a name of the module, of a builtin -/
theorem ve_c {e : Expr} {v : V} {d : D} (h : PE X e (tC v)) (r : ∀ M : Hp, Rep X.K M v d) : VE X W e (tC v) (dC d) := ⟨h, snd_c r⟩

/-! ### operators -/
abbrev R2d := D → D → Sto → QD → Prop
def Snd2 (K : PySem.W.Frag) (r : R2) (rd : R2d) : Prop := ∀ {x y : V} {dx dy : D} {F H : Hp} {S : Sto} {Qd : QD} {Q : VK},
  HSt K F H S → Rep K (mask F S H) x dx → Rep K (mask F S H) y dy → rd dx dy S Qd → LQ K F H S Qd Q → r x y H Q
def dOp (rd : R2d) (ta tb : TEd) : TEd := fun σ S Q E => ta σ S (fun x S1 => tb σ S1 (fun y S2 => rd x y S2 Q) E) E
variable {a b c : Expr} {ta tb tc : TE} {da db dc : TEd} {pos : Pos}
theorem snd_op {r : R2} {rd : R2d} (hr : Snd2 X.K r rd) (ha : Snd X.K W ta da) (hb : Snd X.K W tb db)
    (keep : True := trivial) : ∀ {σV : L2.St} {F H : Hp} {σ : Sd} {S : Sto} {Qd : QD} {E : XD} {Q : VK}, HSt X.K F H S → ER X.K (mask F S H) σV σ → dOp rd da db σ S Qd E → LQ X.K F H S Qd Q → LX X.K F W σV H S E → tOp r ta tb σV H Q :=
  fun {σV F H σ S Qd E Q} hs er h hq hx => ha (Q := fun x H1 => tb σV H1 fun y H2 => r x y H2 Q) hs er h (fun x H1 dx S1 g1 r1 h1 =>
    hb (Q := fun y H2 => r x y H2 Q) g1.hst (er.mono g1.same) h1 (fun y H2 dy S2 g2 r2 h2 => hr g2.hst (r1.mono g2.same) r2 h2 ((hq.next g1).next g2)) (hx.next g1)) hx
theorem ve_op {op : Operator} {r : R2} {rd : R2d} (ho : OpR X (binaryOp op) r) (hr : Snd2 X.K r rd) (ha : VE X W a ta da) (hb : VE X W b tb db) : VE X W (.BinOp a op b pos) (tOp r ta tb) (dOp rd da db) :=
  ⟨pe_op ho ha.run hb.run, snd_op hr ha.snd hb.snd⟩
theorem ve_cmp {op : CmpOp} {r : R2} {rd : R2d} (ho : OpR X (compareOp op) r) (hr : Snd2 X.K r rd) (ha : VE X W a ta da) (hb : VE X W b tb db) (hm : behindInMarks op b = false) : VE X W (.Compare a [op] [b] pos) (tOp r ta tb) (dOp rd da db) :=
  ⟨pe_cmpR ho ha.run hb.run hm, snd_op hr ha.snd hb.snd⟩
theorem ve_ix {r : R2} {rd : R2d} (ho : IxR X r) (hr : Snd2 X.K r rd) (ha : VE X W a ta da) (hb : VE X W b tb db) (hp : PlainIx b) : VE X W (.Subscript a b pos) (tOp r ta tb) (dOp rd da db) :=
  ⟨pe_ix ho ha.run hb.run hp, snd_op hr ha.snd hb.snd⟩

/-! one of two -/
def o2 (r s : R2) : R2 := fun x y H Q => r x y H Q ∨ s x y H Q
theorem OpR.o2 {f : Value → Value → Sem Value} {r r' : R2} (h : OpR X f r) (h' : OpR X f r') : OpR X f (o2 r r') := OpR.or h h'
theorem IxR.o2 {r r' : R2} (h : IxR X r) (h' : IxR X r') : IxR X (o2 r r') := IxR.or h h'

/-! a + b -/
def dAdd : R2d := fun x y S Q => match vw S x, vw S y with
  | .int i, .int j => Q (.int (i + j)) S
  | .str i, .str j => i.length + j.length ≤ sizeLine ∧ Q (.str (i ++ j)) S
  | .lst i, .lst j => i.length ≤ sizeLine ∧ j.length ≤ sizeLine ∧ i.length + j.length ≤ sizeLine ∧ Q (.lst (i ++ j)) S
  | _, _ => False
def rAddS : R2 := fun x y H Q => ∃ i j, x = .str i ∧ y = .str j ∧ i.length + j.length ≤ sizeLine ∧ Q (.str (i ++ j)) H
end
end VL

/-! VL: operators, comparisons, displays, tests. -/
namespace VL
open PySem PySem.Spec PyProof.Rows L2
section
variable {X : Cx} {W : WX} {a b c : Expr} {ta tb tc : TE} {da db dc : TEd} {pos : Pos}

/-! ### numbers -/
def iOp (C : Int → Int → Prop) (g : Int → Int → Int) : R2d := fun x y S Q => match vw S x, vw S y with
  | .int i, .int j => C i j ∧ Q (.int (g i j)) S
  | _, _ => False
theorem snd_iOp {C : Int → Int → Prop} {g : Int → Int → Int} : Snd2 X.K (rI C fun i j => .int (g i j)) (iOp C g) := fun {x y dx dy F H S Qd Q} hs rx ry h hq => by
  unfold iOp at h; split at h
  · next i j ei ej => exact ⟨i, j, see_int rx ei, see_int ry ej, h.1, hq _ H _ S (.refl hs) (.int _) h.2⟩
  · cases h
def iCmp (g : Int → Int → Bool) : R2d := fun x y S Q => match vw S x, vw S y with
  | .int i, .int j => Q (.bl (g i j)) S
  | _, _ => False
theorem snd_iCmp {g : Int → Int → Bool} : Snd2 X.K (rI0 fun i j => .bl (g i j)) (iCmp g) := fun {x y dx dy F H S Qd Q} hs rx ry h hq => by
  unfold iCmp at h; split at h
  · next i j ei ej => exact ⟨i, j, see_int rx ei, see_int ry ej, hq _ H _ S (.refl hs) (.bl _) h⟩
  · cases h
abbrev dLt : R2d := iCmp fun i j => decide (i < j)
abbrev dLe : R2d := iCmp fun i j => decide (i ≤ j)
abbrev dGt : R2d := iCmp fun i j => decide (j < i)
abbrev dGe : R2d := iCmp fun i j => decide (j ≤ i)
abbrev dMod : R2d := iOp (fun _ j => 0 < j) fun i j => i % j
abbrev dFdiv : R2d := iOp CDivW fun i j => i / j
abbrev dMulI : R2d := iOp CMulW fun i j => i * j
abbrev dPow : R2d := iOp CPow fun i j => i ^ j.toNat
abbrev dSub : R2d := iOp (fun _ _ => True) fun i j => i - j
theorem op_subT : OpR X (binaryOp .Sub) (rI (fun _ _ => True) fun i j => .int (i - j)) := fun pins s σ H x y v u Q I rx ry h => by
  obtain ⟨i, j, e1, e2, _, q⟩ := h
  exact op_sub pins s σ H x y v u Q I rx ry ⟨i, j, e1, e2, q⟩
theorem ve_sub (ha : VE X W a ta da) (hb : VE X W b tb db) : VE X W (.BinOp a .Sub b pos) (tOp (rI (fun _ _ => True) fun i j => .int (i - j)) ta tb) (dOp dSub da db) := ve_op op_subT snd_iOp ha hb
theorem ve_mul (ha : VE X W a ta da) (hb : VE X W b tb db) : VE X W (.BinOp a .Mult b pos) (tOp (rI CMulW fun i j => .int (i * j)) ta tb) (dOp dMulI da db) := ve_op op_mulW snd_iOp ha hb
theorem ve_mod (ha : VE X W a ta da) (hb : VE X W b tb db) : VE X W (.BinOp a .Mod b pos) (tOp (rI (fun _ j => 0 < j) fun i j => .int (i % j)) ta tb) (dOp dMod da db) := ve_op op_mod snd_iOp ha hb
theorem ve_fdiv (ha : VE X W a ta da) (hb : VE X W b tb db) : VE X W (.BinOp a .FloorDiv b pos) (tOp (rI CDivW fun i j => .int (i / j)) ta tb) (dOp dFdiv da db) := ve_op op_fdivW snd_iOp ha hb
theorem ve_pow (ha : VE X W a ta da) (hb : VE X W b tb db) : VE X W (.BinOp a .Pow b pos) (tOp (rI CPow fun i j => .int (i ^ j.toNat)) ta tb) (dOp dPow da db) := ve_op op_pow snd_iOp ha hb

/-! a + b -/
theorem op_cat2 : OpR X (binaryOp .Add) (fun x y H Q => ∃ l b xs zs, x = .ref l ∧ y = .ref b ∧ SqL X.K H l xs ∧ SqL X.K H b zs ∧ xs.length + zs.length ≤ sizeLine ∧ ∀ p, H p = none → Q (.ref p) (upd H p (.lst (xs ++ zs)))) := by
  intro pins s σ H x y v u Q I rx ry h
  obtain ⟨l, b, xs, zs, rfl, rfl, hH, hB, hz, q⟩ := h
  cases rx
  cases ry
  obtain ⟨its, r, pl, hl⟩ := I.list hH
  obtain ⟨its2, r2, pl2, hl2⟩ := I.list hB
  obtain ⟨⟨oc, od, dt, sl⟩, n, ho, h1, h2, h3⟩ := pl
  obtain ⟨⟨oc2, od2, dt2, sl2⟩, n2, ho2, h4, h5, h6⟩ := pl2
  simp only at h1 h2 h3 h4 h5 h6
  subst h1 h2 h3 h4 h5 h6
  refine concat_meets ⟨_, ho, rfl⟩ ⟨_, ho2, rfl⟩ noFill_list_add seq_list_add PySem.F.slot_list_add PySem.F.entry_list_add (PySem.F.args_list_add_2 _ _)
    (PyProof.Rows.list_addW l b its.toArray its2.toArray n n2 none none sl sl2 (by simp only [List.size_toArray, ← r.length, ← r2.length]; exact hz)) ⟨ho, ho2, ?_⟩
  have ea : its.toArray ++ its2.toArray = (its ++ its2).toArray := by simp
  rw [ea]
  exact ⟨.ref _, _, I.lnew (t' := s.toks) (r.append r2) (by rw [List.length_append]; exact hz), rfl, q _ I.fresh⟩
def rAddI : R2 := rI0 fun i j => .int (i + j)
def rAddL (K : PySem.W.Frag) : R2 := fun x y H Q => ∃ l b xs zs, x = .ref l ∧ y = .ref b ∧ SqL K H l xs ∧ SqL K H b zs ∧ xs.length + zs.length ≤ sizeLine ∧ ∀ p, H p = none → Q (.ref p) (upd H p (.lst (xs ++ zs)))
def rAddAll (K : PySem.W.Frag) : R2 := o2 rAddI (o2 rAddS (rAddL K))
theorem op_addAll : OpR X (binaryOp .Add) (rAddAll X.K) := OpR.o2 op_add (OpR.o2 op_add_str op_cat2)
theorem good_new {K : PySem.W.Frag} {F H : Hp} {S : Sto} {p : Addr} {u : HO} (hs : HSt K F H S) (hp : H p = none) : Good K F H S (upd H p u) S := ⟨hst_new hs hp, same_new hs hp⟩
theorem new_lst {K : PySem.W.Frag} {F H : Hp} {S : Sto} {p : Addr} {xs : List V} {ds : List D} (hs : HSt K F H S) (hp : H p = none) (r : Reps K (mask F S H) xs ds) : Rep K (mask F S (upd H p (.lst xs))) (.ref p) (.lst ds) :=
  .lst (SqL.of (mask_new hs hp)) (r.mono (same_new hs hp))
theorem new_tup {K : PySem.W.Frag} {F H : Hp} {S : Sto} {p : Addr} {xs : List V} {ds : List D} (hs : HSt K F H S) (hp : H p = none) (r : Reps K (mask F S H) xs ds) : Rep K (mask F S (upd H p (.tup xs))) (.ref p) (.tup ds) :=
  .tup (SqT.of (mask_new hs hp)) (r.mono (same_new hs hp))
theorem new_dct {K : PySem.W.Frag} {F H : Hp} {S : Sto} {p : Addr} {xs : List (Key × V)} {ds : List (Key × D)} (hs : HSt K F H S) (hp : H p = none) (r : RepK K (mask F S H) xs ds) : Rep K (mask F S (upd H p (.dK xs))) (.ref p) (.dct ds) :=
  .dct (mask_new hs hp) (r.mono (same_new hs hp))
theorem snd_addAll : Snd2 X.K (rAddAll X.K) dAdd := fun {x y dx dy F H S Qd Q} hs rx ry h hq => by
  unfold dAdd at h; split at h
  · next i j ei ej => exact .inl ⟨i, j, see_int rx ei, see_int ry ej, hq _ H _ S (.refl hs) (.int _) h⟩
  · next i j ei ej => exact .inr (.inl ⟨i, j, see_str rx ei, see_str ry ej, h.1, hq _ H _ S (.refl hs) (.str _) h.2⟩)
  · next i j ei ej =>
    obtain ⟨a1, xs, rfl, h1, r1⟩ := see_lst hs rx ei
    obtain ⟨b1, ys, rfl, h2, r2⟩ := see_lst hs ry ej
    exact .inr (.inr ⟨a1, b1, xs, ys, rfl, rfl, h1, h2, by rw [r1.length, r2.length]; exact h.2.2.1, fun p hp => hq _ _ _ S (good_new hs hp) (new_lst hs hp (r1.append r2)) h.2.2.2⟩)
  · cases h
theorem ve_add (ha : VE X W a ta da) (hb : VE X W b tb db) : VE X W (.BinOp a .Add b pos) (tOp (rAddAll X.K) ta tb) (dOp dAdd da db) := ve_op op_addAll snd_addAll ha hb

/-! ### comparisons -/
theorem ve_lt (ha : VE X W a ta da) (hb : VE X W b tb db) : VE X W (.Compare a [.Lt] [b] pos) (tOp (rI0 fun i j => .bl (decide (i < j))) ta tb) (dOp dLt da db) := ve_cmp op_lt snd_iCmp ha hb (nomark _)
theorem ve_le (ha : VE X W a ta da) (hb : VE X W b tb db) : VE X W (.Compare a [.LtE] [b] pos) (tOp (rI0 fun i j => .bl (decide (i ≤ j))) ta tb) (dOp dLe da db) := ve_cmp op_le snd_iCmp ha hb (nomark _)
theorem ve_gt (ha : VE X W a ta da) (hb : VE X W b tb db) : VE X W (.Compare a [.Gt] [b] pos) (tOp (rI0 fun i j => .bl (decide (j < i))) ta tb) (dOp dGt da db) := ve_cmp op_gt snd_iCmp ha hb (nomark _)
theorem ve_ge (ha : VE X W a ta da) (hb : VE X W b tb db) : VE X W (.Compare a [.GtE] [b] pos) (tOp (rI0 fun i j => .bl (decide (j ≤ i))) ta tb) (dOp dGe da db) := ve_cmp op_ge snd_iCmp ha hb (nomark _)

/-! data as a whole -/
mutual
def toP : D → Option PyData
  | .non => some .none
  | .bl b => some (.bool b)
  | .int i => some (.int i)
  | .str x => some (.str x)
  | .tup ds => (toPs ds).map .tuple
  | .lst ds => (toPs ds).map .list
  | .ty _ => none
  | .ref _ => none
  | .dct _ => none
  | .exc _ _ _ _ => none
def toPs : List D → Option (List PyData)
  | [] => some []
  | d :: ds => match toP d, toPs ds with
    | some p, some ps => some (p :: ps)
    | _, _ => none
end
section
variable {K : PySem.W.Frag} {F H : Hp} {S : Sto}
mutual
theorem dp_of : ∀ {v : V} {d : D} {p : PyData}, Rep K (mask F S H) v d → toP d = some p → Dp K H v p
  | _, .non, p, r, e => by cases r; rw [toP] at e; cases e; exact .non
  | _, .bl b, p, r, e => by cases r; rw [toP] at e; cases e; exact .bl b
  | _, .int i, p, r, e => by cases r; rw [toP] at e; cases e; exact .int i
  | _, .str x, p, r, e => by cases r; rw [toP] at e; cases e; exact .str x
  | _, .tup ds, p, r, e => by
    cases r with
    | tup h r =>
      rw [toP] at e
      obtain ⟨ps, e1, e2⟩ := Option.map_eq_some_iff.mp e
      subst e2
      exact .tup (st_up h) (dps_of r e1)
  | _, .lst ds, p, r, e => by
    cases r with
    | lst h r =>
      rw [toP] at e
      obtain ⟨ps, e1, e2⟩ := Option.map_eq_some_iff.mp e
      subst e2
      exact .lst (sq_up h) (dps_of r e1)
  | _, .ty n, p, r, e => by rw [toP] at e; cases e
  | _, .ref n, p, r, e => by rw [toP] at e; cases e
  | _, .dct n, p, r, e => by rw [toP] at e; cases e
  | _, .exc _ _ _ _, p, r, e => by rw [toP] at e; cases e
theorem dps_of : ∀ {vs : List V} {ds : List D} {ps : List PyData}, Reps K (mask F S H) vs ds → toPs ds = some ps → DpAll K H vs ps
  | _, [], ps, r, e => by cases r; rw [toPs] at e; cases e; exact .nil
  | _, d :: ds, ps, r, e => by
    cases r with
    | cons h r =>
      rw [toPs] at e
      split at e
      · next p ps' e1 e2 => cases e; exact .cons (dp_of h e1) (dps_of r e2)
      · cases e
end
theorem dp_vw {v : V} {d : D} {p : PyData} (hs : HSt K F H S) (r : Rep K (mask F S H) v d) (e : toP (vw S d) = some p) : Dp K H v p := by
  cases d with
  | ref a =>
    cases r
    rcases vw_ref (S := S) (a := a) with ⟨es, h1, h2⟩ | ⟨es, h1, h2⟩ | h2
    · rw [h2] at e
      obtain ⟨xs, e1, r⟩ := hs.at_ a _ h1
      rw [toP] at e
      obtain ⟨ps, e2, e3⟩ := Option.map_eq_some_iff.mp e
      subst e3
      exact .lst (SqL.of e1) (dps_of r e2)
    · rw [h2, toP] at e; cases e
    · rw [h2, toP] at e; cases e
  | _ => exact dp_of r e
end
def dEqG (g : Bool → Bool) : R2d := fun x y S Q => match vw S x, vw S y with
  | .int i, .int j => Q (.bl (g (decide (i = j)))) S
  | .str i, .str j => Q (.bl (g (decide (i = j)))) S
  | .bl i, .bl j => Q (.bl (g (decide (i = j)))) S
  | dx, dy => match toP dx, toP dy with
    | some p, some q => SeqAt.shaped p = true ∧ SeqAt.shaped q = true ∧ Q (.bl (g (PyData.eqv p q))) S
    | _, _ => False
abbrev dEq : R2d := dEqG id
abbrev dNe : R2d := dEqG (!·)
theorem op_eqAll (hu : X.A.units + 64 < cLine) : OpR X (compareOp .Eq) (o2 rEq (rEqD X.K)) := OpR.o2 op_eq (op_eqD hu)
theorem op_neAll (hu : X.A.units + 64 < cLine) : OpR X (compareOp .NotEq) (o2 rNe (rNeD X.K)) := OpR.o2 op_ne (op_neD hu)
theorem snd_eqAll : Snd2 X.K (o2 rEq (rEqD X.K)) dEq := fun {x y dx dy F H S Qd Q} hs rx ry h hq => by
  unfold dEq dEqG at h; split at h
  · next i j ei ej =>
    obtain rfl := see_int rx ei; obtain rfl := see_int ry ej
    exact .inl ⟨rfl, hq _ H _ S (.refl hs) (by have e : decide (V.int i = V.int j) = decide (i = j) := by simp
                                               rw [e]; exact .bl _) h⟩
  · next i j ei ej =>
    obtain rfl := see_str rx ei; obtain rfl := see_str ry ej
    exact .inl ⟨rfl, hq _ H _ S (.refl hs) (by have e : decide (V.str i = V.str j) = decide (i = j) := by simp
                                               rw [e]; exact .bl _) h⟩
  · next i j ei ej =>
    obtain rfl := see_bl rx ei; obtain rfl := see_bl ry ej
    exact .inl ⟨rfl, hq _ H _ S (.refl hs) (by have e : decide (V.bl i = V.bl j) = decide (i = j) := by simp
                                               rw [e]; exact .bl _) h⟩
  · split at h
    · next p q e1 e2 => exact .inr ⟨p, q, dp_vw hs rx e1, dp_vw hs ry e2, h.1, h.2.1, hq _ H _ S (.refl hs) (.bl _) h.2.2⟩
    · cases h
theorem snd_neAll : Snd2 X.K (o2 rNe (rNeD X.K)) dNe := fun {x y dx dy F H S Qd Q} hs rx ry h hq => by
  unfold dNe dEqG at h; split at h
  · next i j ei ej =>
    obtain rfl := see_int rx ei; obtain rfl := see_int ry ej
    exact .inl ⟨rfl, hq _ H _ S (.refl hs) (by have e : decide (V.int i = V.int j) = decide (i = j) := by simp
                                               rw [e]; exact .bl _) h⟩
  · next i j ei ej =>
    obtain rfl := see_str rx ei; obtain rfl := see_str ry ej
    exact .inl ⟨rfl, hq _ H _ S (.refl hs) (by have e : decide (V.str i = V.str j) = decide (i = j) := by simp
                                               rw [e]; exact .bl _) h⟩
  · next i j ei ej =>
    obtain rfl := see_bl rx ei; obtain rfl := see_bl ry ej
    exact .inl ⟨rfl, hq _ H _ S (.refl hs) (by have e : decide (V.bl i = V.bl j) = decide (i = j) := by simp
                                               rw [e]; exact .bl _) h⟩
  · split at h
    · next p q e1 e2 => exact .inr ⟨p, q, dp_vw hs rx e1, dp_vw hs ry e2, h.1, h.2.1, hq _ H _ S (.refl hs) (.bl _) h.2.2⟩
    · cases h
theorem ve_eq (hu : X.A.units + 64 < cLine) (ha : VE X W a ta da) (hb : VE X W b tb db) : VE X W (.Compare a [.Eq] [b] pos) (tOp (o2 rEq (rEqD X.K)) ta tb) (dOp dEq da db) := ve_cmp (op_eqAll hu) snd_eqAll ha hb (nomark _)
theorem ve_ne (hu : X.A.units + 64 < cLine) (ha : VE X W a ta da) (hb : VE X W b tb db) : VE X W (.Compare a [.NotEq] [b] pos) (tOp (o2 rNe (rNeD X.K)) ta tb) (dOp dNe da db) := ve_cmp (op_neAll hu) snd_neAll ha hb (nomark _)

/-! is None, is True -/
def isNon : D → Bool
  | .non => true
  | _ => false
theorem non_iff {K : PySem.W.Frag} {M : Hp} {v : V} {d : D} (r : Rep K M v d) : decide (v = .non) = isNon d := by
  cases r <;> simp [isNon]
def dIsG (g : Bool → Bool) : R2d := fun x y S Q => match x, y with
  | d, .non => Q (.bl (g (isNon d))) S
  | .bl i, .bl j => Q (.bl (g (decide (i = j)))) S
  | _, _ => False
def rIsN : R2 := fun x y H Q => y = .non ∧ Q (.bl (decide (x = .non))) H
def rNotN : R2 := fun x y H Q => y = .non ∧ Q (.bl (!decide (x = .non))) H
def rIsB : R2 := fun x y H Q => ∃ a b, x = .bl a ∧ y = .bl b ∧ Q (.bl (decide (a = b))) H
def rNotB : R2 := fun x y H Q => ∃ a b, x = .bl a ∧ y = .bl b ∧ Q (.bl (!decide (a = b))) H
theorem snd_is : Snd2 X.K (o2 rIsN rIsB) (dIsG id) := fun {x y dx dy F H S Qd Q} hs rx ry h hq => by
  unfold dIsG at h; split at h
  · cases ry; exact .inl ⟨rfl, hq _ H _ S (.refl hs) (by rw [non_iff rx]; exact .bl _) h⟩
  · cases rx; cases ry; exact .inr ⟨_, _, rfl, rfl, hq _ H _ S (.refl hs) (.bl _) h⟩
  · cases h
theorem snd_isNot : Snd2 X.K (o2 rNotN rNotB) (dIsG (!·)) := fun {x y dx dy F H S Qd Q} hs rx ry h hq => by
  unfold dIsG at h; split at h
  · cases ry; exact .inl ⟨rfl, hq _ H _ S (.refl hs) (by rw [non_iff rx]; exact .bl _) h⟩
  · cases rx; cases ry; exact .inr ⟨_, _, rfl, rfl, hq _ H _ S (.refl hs) (.bl _) h⟩
  · cases h
theorem ve_is (ha : VE X W a ta da) (hb : VE X W b tb db) : VE X W (.Compare a [.Is] [b] pos) (tOp (o2 rIsN rIsB) ta tb) (dOp (dIsG id) da db) := ve_cmp (OpR.o2 op_isN op_is_bl) snd_is ha hb (nomark _)
theorem ve_isnot (ha : VE X W a ta da) (hb : VE X W b tb db) : VE X W (.Compare a [.IsNot] [b] pos) (tOp (o2 rNotN rNotB) ta tb) (dOp (dIsG (!·)) da db) := ve_cmp (OpR.o2 op_notN op_isnot_bl) snd_isNot ha hb (nomark _)
end
end VL

/-! VL: in, subscripts, displays, builtins, tests. -/
namespace VL
open PySem PySem.Spec PyProof.Rows L2

/-! ### flat things -/
def flatD : D → Bool
  | .non => true
  | .bl _ => true
  | .int _ => true
  | .str _ => true
  | _ => false
def eqF : D → D → Bool
  | .non, .non => true
  | .bl a, .bl b => a == b
  | .bl a, .int b => (if a then 1 else 0) == b
  | .int a, .bl b => a == (if b then 1 else 0)
  | .int a, .int b => a == b
  | .str a, .str b => a == b
  | _, _ => false
def inD (x : D) (ds : List D) : Bool := ds.any fun y => eqF y x
/-- the one sign of a text of one -/
def sign1 (x : Str) : Option Nat := match x.cps.toList with
  | [c] => some c
  | _ => none
def signD : D → Option Nat
  | .str x => sign1 x
  | _ => none
theorem sign1_of {x : Str} {c : Nat} (h : sign1 x = some c) : x = ⟨#[c]⟩ := by
  unfold sign1 at h
  split at h
  · next d e =>
    cases h
    obtain ⟨⟨l⟩⟩ := x
    have e' : l = [c] := e
    subst e'
    rfl
  · cases h
theorem sign_rep {K : PySem.W.Frag} {M : Hp} {v : V} {d : D} {c : Nat} (r : Rep K M v d) (h : signD d = some c) : v = .str ⟨#[c]⟩ := by
  cases r <;> first | (simp [signD] at h; done) | skip
  rename_i x
  exact congrArg V.str (sign1_of h)
def keyD : D → Option Key
  | .int i => some (.inl i)
  | .str x => some (.inr x)
  | _ => none
section
variable {K : PySem.W.Frag} {M : Hp}
theorem flat_of {v : V} {d : D} (r : Rep K M v d) (h : flatD d = true) : flatV v = true := by
  cases r <;> first | rfl | (simp [flatD] at h)
theorem eqF_of {v w : V} {d e : D} (r : Rep K M v d) (q : Rep K M w e) (h : flatD d = true) (h2 : flatD e = true) : eqV v w = eqF d e := by
  cases r <;> first | (simp [flatD] at h; done) | (cases q <;> first | rfl | (simp [flatD] at h2; done))
theorem flats_of : ∀ {vs : List V} {ds : List D}, Reps K M vs ds → ds.all flatD = true → vs.all flatV = true
  | _, _, .nil, _ => rfl
  | _, _, .cons r t, h => by
    rw [List.all_cons, Bool.and_eq_true] at h ⊢
    exact ⟨flat_of r h.1, flats_of t h.2⟩
theorem inV_of {v : V} {d : D} (r : Rep K M v d) (h : flatD d = true) : ∀ {vs : List V} {ds : List D}, Reps K M vs ds → ds.all flatD = true → inV v vs = inD d ds
  | _, _, .nil, _ => rfl
  | _, _, .cons (v := w) (d := e) (vs := vs) (ds := ds) q t, hh => by
    rw [List.all_cons, Bool.and_eq_true] at hh
    have ih := inV_of r h t hh.2
    unfold inV inD at ih ⊢
    rw [List.any_cons, List.any_cons, eqF_of q r hh.1 h, ih]
theorem key_of {v : V} {d : D} {k : Key} (r : Rep K M v d) (e : keyD d = some k) : v = kV k := by
  cases r <;> simp [keyD] at e <;> (subst e; rfl)
theorem repK_valV {k : Key} : ∀ {kvs : List (Key × V)} {kds : List (Key × D)}, RepK K M kvs kds →
    (∀ d, (kds.find? fun kv => decide (kv.1 = k)).map (·.2) = some d → ∃ v, valV kvs k = some v ∧ Rep K M v d) ∧ ((kds.find? fun kv => decide (kv.1 = k)).map (·.2) = none → valV kvs k = none)
  | _, _, .nil => ⟨(fun _ e => by simp at e), fun _ => rfl⟩
  | _, _, .cons (k := k') (v := v) (d := d) h r => by
    have ih := repK_valV (k := k) r
    by_cases e : k' = k
    · simp only [List.find?_cons, e, decide_true, Option.map_some, Option.some.injEq]
      refine ⟨fun d' q => ⟨v, valV_pos rfl, by subst q; exact h⟩, fun q => ?_⟩
      cases q
    · simp only [List.find?_cons, e, decide_false]
      rw [valV_neg e]
      exact ih
theorem repK_len : ∀ {kvs : List (Key × V)} {kds : List (Key × D)}, RepK K M kvs kds → kvs.length = kds.length
  | _, _, .nil => rfl
  | _, _, .cons _ r => congrArg Nat.succ (repK_len r)
end
def getK (kds : List (Key × D)) (k : Key) : Option D := (kds.find? fun kv => decide (kv.1 = k)).map (·.2)

section
variable {X : Cx} {W : WX} {a b c : Expr} {ta tb tc : TE} {da db dc : TEd} {pos : Pos}
/-! ### in -/
def dInG (g : Bool → Bool) : R2d := fun x y S Q => match vw S y with
  | .lst ds => flatD x = true ∧ ds.all flatD = true ∧ Q (.bl (g (inD x ds))) S
  | .tup ds => flatD x = true ∧ ds.all flatD = true ∧ Q (.bl (g (inD x ds))) S
  | .dct kds => match keyD x with
    | some k => Q (.bl (g (getK kds k).isSome)) S
    | none => False
  | .str z => match signD x with
    | some c => Q (.bl (g (decide (c ∈ z.cps.toList)))) S
    | none => False
  | _ => False
def rInSign : R2 := fun x y H Q => ∃ (c : Nat) (z : Str), x = .str ⟨#[c]⟩ ∧ y = .str z ∧ Q (.bl (decide (c ∈ z.cps.toList))) H
def rNotInSign : R2 := fun x y H Q => ∃ (c : Nat) (z : Str), x = .str ⟨#[c]⟩ ∧ y = .str z ∧ Q (.bl (!decide (c ∈ z.cps.toList))) H
def rInD : R2 := fun x y H Q => ∃ a o, y = .ref a ∧ DGet H a x o ∧ Q (.bl o.isSome) H
def rNotInD : R2 := fun x y H Q => ∃ a o, y = .ref a ∧ DGet H a x o ∧ Q (.bl (!o.isSome)) H
theorem op_inD (hu : X.A.units + 1 < cLine) : OpR X (compareOp .In) rInD := fun pins s σ H x y v u Q I rx ry h => by
  obtain ⟨a, o, rfl, g, q⟩ := h
  obtain rfl : u = Value.ref a := ry
  exact d_in hu I g rx fun s' I' => ⟨.bl _, H, I', rfl, q⟩
theorem op_notInD (hu : X.A.units + 1 < cLine) : OpR X (compareOp .NotIn) rNotInD := fun pins s σ H x y v u Q I rx ry h => by
  obtain ⟨a, o, rfl, g, q⟩ := h
  obtain rfl : u = Value.ref a := ry
  exact d_notIn hu I g rx fun s' I' => ⟨.bl _, H, I', rfl, q⟩
def rInAll (K : PySem.W.Frag) : R2 := o2 (rIn K false) (o2 rInSign rInD)
def rNotInAll (K : PySem.W.Frag) : R2 := o2 (rIn K true) (o2 rNotInSign rNotInD)
theorem op_inAll (hu : X.A.units + 1 < cLine) : OpR X (compareOp .In) (rInAll X.K) := OpR.o2 op_in_seq (OpR.o2 op_in_sign (op_inD hu))
theorem op_notInAll (hu : X.A.units + 1 < cLine) : OpR X (compareOp .NotIn) (rNotInAll X.K) := OpR.o2 op_notIn_seq (OpR.o2 op_notIn_sign (op_notInD hu))
theorem dget_of {K : PySem.W.Frag} {F H : Hp} {S : Sto} {a : Addr} {xs : List (Key × V)} {ds : List (Key × D)} {x : V} {k : Key} (e : H a = some (.dK xs)) (r : RepK K (mask F S H) xs ds) (ek : x = kV k) :
    ∃ o, DGet H a x o ∧ o.isSome = (getK ds k).isSome ∧ ∀ d, getK ds k = some d → ∃ v, o = some v ∧ Rep K (mask F S H) v d := by
  subst ek
  refine ⟨valV xs k, DGet.k e, ?_, fun d hd => (repK_valV r).1 d hd⟩
  cases q : getK ds k with
  | some d => obtain ⟨v, e1, _⟩ := (repK_valV r).1 d q; rw [e1]; rfl
  | none => rw [(repK_valV r).2 q]; rfl
theorem snd_inAll : Snd2 X.K (rInAll X.K) (dInG id) := fun {x y dx dy F H S Qd Q} hs rx ry h hq => by
  unfold dInG at h; split at h
  · next ds e =>
    obtain ⟨a1, xs, rfl, h1, r1⟩ := see_lst hs ry e
    exact .inl ⟨a1, xs, rfl, .inl h1, flat_of rx h.1, flats_of r1 h.2.1, hq _ H _ S (.refl hs) (by rw [inV_of rx h.1 r1 h.2.1]; exact .bl _) h.2.2⟩
  · next ds e =>
    obtain ⟨_, a1, xs, rfl, h1, _, r1⟩ := see_tup ry e
    exact .inl ⟨a1, xs, rfl, .inr h1, flat_of rx h.1, flats_of r1 h.2.1, hq _ H _ S (.refl hs) (by rw [inV_of rx h.1 r1 h.2.1]; exact .bl _) h.2.2⟩
  · next kds e =>
    obtain ⟨a1, xs, rfl, h1, r1⟩ := see_dct hs ry e
    split at h
    · next k ek =>
      obtain ⟨o, g, ei, _⟩ := dget_of h1 r1 (key_of rx ek)
      exact .inr (.inr ⟨a1, o, rfl, g, hq _ H _ S (.refl hs) (by rw [ei]; exact .bl _) h⟩)
    · cases h
  · next z e =>
    obtain rfl := see_str ry e
    split at h
    · next c ec => exact .inr (.inl ⟨c, z, sign_rep rx ec, rfl, hq _ H _ S (.refl hs) (.bl _) h⟩)
    · cases h
  · cases h
theorem snd_notInAll : Snd2 X.K (rNotInAll X.K) (dInG (!·)) := fun {x y dx dy F H S Qd Q} hs rx ry h hq => by
  unfold dInG at h; split at h
  · next ds e =>
    obtain ⟨a1, xs, rfl, h1, r1⟩ := see_lst hs ry e
    exact .inl ⟨a1, xs, rfl, .inl h1, flat_of rx h.1, flats_of r1 h.2.1, hq _ H _ S (.refl hs) (by rw [inV_of rx h.1 r1 h.2.1]; exact .bl _) h.2.2⟩
  · next ds e =>
    obtain ⟨_, a1, xs, rfl, h1, _, r1⟩ := see_tup ry e
    exact .inl ⟨a1, xs, rfl, .inr h1, flat_of rx h.1, flats_of r1 h.2.1, hq _ H _ S (.refl hs) (by rw [inV_of rx h.1 r1 h.2.1]; exact .bl _) h.2.2⟩
  · next kds e =>
    obtain ⟨a1, xs, rfl, h1, r1⟩ := see_dct hs ry e
    split at h
    · next k ek =>
      obtain ⟨o, g, ei, _⟩ := dget_of h1 r1 (key_of rx ek)
      exact .inr (.inr ⟨a1, o, rfl, g, hq _ H _ S (.refl hs) (by rw [ei]; exact .bl _) h⟩)
    · cases h
  · next z e =>
    obtain rfl := see_str ry e
    split at h
    · next c ec => exact .inr (.inl ⟨c, z, sign_rep rx ec, rfl, hq _ H _ S (.refl hs) (.bl _) h⟩)
    · cases h
  · cases h
theorem ve_in (hu : X.A.units + 1 < cLine) (ha : VE X W a ta da) (hb : VE X W b tb db) (hm : behindInMarks .In b = false := by rfl) : VE X W (.Compare a [.In] [b] pos) (tOp (rInAll X.K) ta tb) (dOp (dInG id) da db) := ve_cmp (op_inAll hu) snd_inAll ha hb hm
theorem ve_notin (hu : X.A.units + 1 < cLine) (ha : VE X W a ta da) (hb : VE X W b tb db) (hm : behindInMarks .NotIn b = false := by rfl) : VE X W (.Compare a [.NotIn] [b] pos) (tOp (rNotInAll X.K) ta tb) (dOp (dInG (!·)) da db) := ve_cmp (op_notInAll hu) snd_notInAll ha hb hm

/-! ### subscripts -/
def dIx : R2d := fun x y S Q => match vw S x with
  | .lst ds => match y with
    | .int i => match atI ds i with
      | some d => Q d S
      | none => False
    | _ => False
  | .tup ds => match y with
    | .int i => match atI ds i with
      | some d => Q d S
      | none => False
    | _ => False
  | .str z => match y with
    | .int i => z.length ≤ sizeLine ∧ match atI z.cps.toList i with
      | some c => Q (.str ⟨#[c]⟩) S
      | none => False
    | _ => False
  | .dct kds => match keyD y with
    | some k => match getK kds k with
      | some d => Q d S
      | none => False
    | none => False
  | _ => False
def rIxD : R2 := fun x y H Q => ∃ a w, x = .ref a ∧ DGet H a y (some w) ∧ Q w H
theorem tail_slot {prog : Program} {w : World} {A : Around} {E : Value → Shared → Prop} {s : Shared} {value slice : Expr} {o i : Value} {T id : String} {Q : Value → Shared → Prop} (hT : s.TypeIs o T)
    (hl : typeLookup (.type T) "__getitem__" = pure (some (.builtin id))) (h : wpAny (model prog w) A (getItem o i) Q E s) (hs : subscripted slice false o i = operate [o, i] (getItem o i)) :
    wpAny (model prog w) A (subscriptTail value slice o i) Q E s := by
  have z : wpAny (model prog w) A (subscripted slice false o i) (fun r s1 => wpAny (model prog w) A (do letTemporaryGo value o r; pure r) Q E s1) E s := by
    rw [hs]; exact wpAny_operating (wpAny_mono h (fun _ _ h1 => wpAny_bind (wpAny_letTemporaryGo (wpAny_pure h1))) fun _ _ e => e)
  unfold subscriptTail
  apply wpAny_bind
  rw [getitemInPython_of_ne hT.not_modules]
  apply wpAny_bind (wpAny_specialOf hT hl ?_)
  first | exact wpAny_pure (wpAny_bind z) | exact wpAny_bind (wpAny_pure (wpAny_bind z)) | exact wpAny_bind z
theorem ix_dct (hu : X.A.units + 1 < cLine) : IxR X rIxD := fun value slice pins s σ H x y v u Q I rx ry h hs => by
  obtain ⟨a, w, rfl, g, q⟩ := h
  obtain rfl : v = Value.ref a := rx
  exact tail_slot (dict_typeIs I g) PySem.F.slot_dict_getitem.lookup (d_getItem hu I g ry fun w' s3 I3 rw' => ⟨w, H, I3, rw', q⟩) hs
def rIxAll (K : PySem.W.Frag) : R2 := o2 (rIx K) rIxD
theorem ix_all (hu : X.A.units + 1 < cLine) : IxR X (rIxAll X.K) := IxR.o2 ix_seq (ix_dct hu)
theorem rep_at {K : PySem.W.Frag} {M : Hp} {xs : List V} {ds : List D} (r : Reps K M xs ds) {i : Int} {d : D} (e : atI ds i = some d) : ∃ v, atI xs i = some v ∧ Rep K M v d := by
  unfold atI at e ⊢
  rw [r.length]
  cases q : ixN ds.length i with
  | none => rw [q] at e; cases e
  | some j => rw [q] at e; exact r.get e
theorem snd_ixAll : Snd2 X.K (rIxAll X.K) dIx := fun {x y dx dy F H S Qd Q} hs rx ry h hq => by
  unfold dIx at h; split at h
  · next ds e =>
    obtain ⟨a1, xs, rfl, h1, r1⟩ := see_lst hs rx e
    split at h
    · split at h
      · next i _ d ed =>
        cases ry
        obtain ⟨v, e1, r2⟩ := rep_at r1 ed
        exact .inl (.inl ⟨a1, xs, _, v, rfl, rfl, h1, e1, hq _ H _ S (.refl hs) r2 h⟩)
      · cases h
    · cases h
  · next ds e =>
    obtain ⟨_, a1, xs, rfl, h1, _, r1⟩ := see_tup rx e
    split at h
    · split at h
      · next i _ d ed =>
        cases ry
        obtain ⟨v, e1, r2⟩ := rep_at r1 ed
        exact .inl (.inr (.inl ⟨a1, xs, _, v, rfl, rfl, h1, e1, hq _ H _ S (.refl hs) r2 h⟩))
      · cases h
    · cases h
  · next z e =>
    obtain rfl := see_str rx e
    split at h
    · obtain ⟨hz, h⟩ := h
      split at h
      · next i _ c ec =>
        cases ry
        exact .inl (.inr (.inr ⟨z, _, c, rfl, rfl, hz, ec, hq _ H _ S (.refl hs) (.str _) h⟩))
      · cases h
    · cases h
  · next kds e =>
    obtain ⟨a1, xs, rfl, h1, r1⟩ := see_dct hs rx e
    split at h
    · next k ek =>
      split at h
      · next d ed =>
        obtain ⟨o, g, _, gv⟩ := dget_of h1 r1 (key_of ry ek)
        obtain ⟨v, e2, r2⟩ := gv d ed
        subst e2
        exact .inr ⟨a1, v, rfl, g, hq _ H _ S (.refl hs) r2 h⟩
      · cases h
    · cases h
  · cases h
theorem ve_item (hu : X.A.units + 1 < cLine) (ha : VE X W a ta da) (hb : VE X W b tb db) (hp : PlainIx b := by exact fun _ _ => rfl) : VE X W (.Subscript a b pos) (tOp (rIxAll X.K) ta tb) (dOp dIx da db) := ve_ix (ix_all hu) snd_ixAll ha hb hp

/-! ### slices -/
abbrev TOd := Sd → Sto → (Option Int → Sto → Prop) → XD → Prop
def SndO (K : PySem.W.Frag) (W : WX) (t : TO) (td : TOd) : Prop := ∀ {σV : L2.St} {F H : Hp} {σ : Sd} {S : Sto} {Qd : Option Int → Sto → Prop} {E : XD} {Q : Option Int → Hp → Prop},
  HSt K F H S → ER K (mask F S H) σV σ → td σ S Qd E → (∀ b H' S', Good K F H S H' S' → Qd b S' → Q b H') → LX K F W σV H S E → t σV H Q
structure VO (X : Cx) (W : WX) (e : Option Expr) (t : TO) (td : TOd) : Prop where
  run : PO X e t
  snd : SndO X.K W t td
def dNoPart : TOd := fun _ S Q _ => Q none S
def dPart (td : TEd) : TOd := fun σ S Q E => td σ S (fun d S1 => match d with
  | .int i => Q (some i) S1
  | _ => False) E
theorem vo_none : VO X W none tNoPart dNoPart := ⟨po_none, fun {σV F H σ S Qd E Q} hs er h hq hx => hq none H S (.refl hs) h⟩
theorem vo_some {e : Expr} {te : TE} {de : TEd} (he : VE X W e te de) : VO X W (some e) (tPart te) (dPart de) := ⟨po_some he.run, fun {σV F H σ S Qd E Q} hs er h hq hx =>
  he.snd hs er h (fun v H' d S' g r hd => by
    split at hd
    · cases r; exact ⟨_, rfl, hq _ H' S' g hd⟩
    · cases hd) hx⟩
def cutD (ds : List D) (lo hi : Option Int) : List D := (ds.drop (HT.sIx ds.length 0 lo)).take (HT.sIx ds.length ds.length hi - HT.sIx ds.length 0 lo)
def dSlice (de : TEd) (dl dh : TOd) : TEd := fun σ S Q E => de σ S (fun x S1 => dl σ S1 (fun lo S2 => dh σ S2 (fun hi S3 => match vw S3 x with
  | .lst ds => Q (.lst (cutD ds lo hi)) S3
  | .tup ds => ¬ (HT.sIx ds.length 0 lo = 0 ∧ HT.sIx ds.length ds.length hi = ds.length) ∧ Q (.tup (cutD ds lo hi)) S3
  | .str z => z.length ≤ sizeLine ∧ Q (.str (cutS z lo hi)) S3
  | _ => False) E) E) E
def rSlAll (K : PySem.W.Frag) : V → Option Int → Option Int → Hp → VK → Prop := fun x lo hi H Q => rSlL K x lo hi H Q ∨ rSlT K x lo hi H Q ∨ rSlS x lo hi H Q
theorem sl_all : SlR X (rSlAll X.K) := SlR.or sl_list (SlR.or sl_tup sl_str)
theorem ve_slice {e : Expr} {lo hi : Option Expr} {te : TE} {tl th : TO} {de : TEd} {dl dh : TOd} {p2 : Pos} (he : VE X W e te de) (hl : VO X W lo tl dl) (hh : VO X W hi th dh) :
    VE X W (.Subscript e (.Slice lo hi none p2) pos) (tSl (rSlAll X.K) te tl th) (dSlice de dl dh) := by
  refine ⟨pe_slice sl_all he.run hl.run hh.run, fun {σV F H σ S Qd E Q} hs er h hq hx => ?_⟩
  refine he.snd (Q := fun x H1 => tl σV H1 fun l H2 => th σV H2 fun u H3 => rSlAll X.K x l u H3 Q) hs er h (fun x H1 dx S1 g1 r1 h1 => ?_) hx
  refine hl.snd (Q := fun l H2 => th σV H2 fun u H3 => rSlAll X.K x l u H3 Q) g1.hst (er.mono g1.same) h1 (fun l H2 S2 g2 h2 => ?_) (hx.next g1)
  have g12 := g1.trans g2
  refine hh.snd (Q := fun u H3 => rSlAll X.K x l u H3 Q) g2.hst (er.mono g12.same) h2 (fun u H3 S3 g3 h3 => ?_) (hx.next g12)
  have g := g12.trans g3
  have r3 := (r1.mono g2.same).mono g3.same
  split at h3
  · next ds e =>
    obtain ⟨a1, xs, rfl, k1, q1⟩ := see_lst g.hst r3 e
    exact .inl ⟨a1, xs, rfl, k1, fun p hp => hq _ _ _ S3 (g.trans (good_new g.hst hp)) (new_lst g.hst hp (q1.cut l u)) h3⟩
  · next ds e =>
    obtain ⟨_, a1, xs, rfl, k1, _, q1⟩ := see_tup r3 e
    exact .inr (.inl ⟨a1, xs, rfl, k1, by rw [q1.length]; exact h3.1, fun p hp => hq _ _ _ S3 (g.trans (good_new g.hst hp)) (new_tup g.hst hp (q1.cut l u)) h3.2⟩)
  · next z e =>
    obtain rfl := see_str r3 e
    exact .inr (.inr ⟨z, rfl, h3.1, hq _ _ _ S3 g (.str _) h3.2⟩)
  · cases h3

/-! ### argument lists, displays -/
def dNil : TAd := fun _ S Q _ => Q [] S
def dCons (de : TEd) (dr : TAd) : TAd := fun σ S Q E => de σ S (fun d S1 => dr σ S1 (fun ds S2 => Q (d :: ds) S2) E) E
theorem va_nil : VA X W [] tNil dNil := ⟨pa_nil, fun {σV F H σ S Qd E Q} hs er h hq hx => hq [] H [] S (.refl hs) .nil h⟩
theorem va_cons {e : Expr} {es : List Expr} {te : TE} {t : TA} {de : TEd} {dr : TAd} (ha : VE X W e te de) (hr : VA X W es t dr) (hs : starEach (e :: es) X.env = (false, eval e X.env) :: starEach es X.env := by rfl) :
    VA X W (e :: es) (tCons te t) (dCons de dr) := ⟨pa_cons ha.run hr.run hs, fun {σV F H σ S Qd E Q} hs er h hq hx =>
  ha.snd (Q := fun x H1 => t σV H1 fun xs H2 => Q (x :: xs) H2) hs er h (fun x H1 dx S1 g1 r1 h1 => hr.snd (Q := fun xs H2 => Q (x :: xs) H2) g1.hst (er.mono g1.same) h1 (fun xs H2 ds S2 g2 r2 h2 =>
    hq (x :: xs) H2 (dx :: ds) S2 (g1.trans g2) (.cons (r1.mono g2.same) r2) h2) (hx.next g1)) hx⟩
def dTup (da : TAd) : TEd := fun σ S Q E => da σ S (fun ds S1 => ds.length ≤ sizeLine ∧ Q (.tup ds) S1) E
def dLst (da : TAd) : TEd := fun σ S Q E => da σ S (fun ds S1 => ds.length ≤ sizeLine ∧ Q (.lst ds) S1) E
/-- .. a list that may change -/
def dLstM (da : TAd) : TEd := fun σ S Q E => da σ S (fun ds S1 => ds.length ≤ sizeLine ∧ ∀ p, S1 p = none → Q (.ref p) (put S1 p (.lst ds))) E
theorem ve_tup {es : List Expr} {x1} {t : TA} {da : TAd} (h : VA X W es t da) : VE X W (.Tuple es x1 pos) (tTup t) (dTup da) := ⟨pe_tup h.run, fun {σV F H σ S Qd E Q} hs er hh hq hx =>
  h.snd (Q := fun xs H1 => xs.length ≤ sizeLine ∧ ∀ p, H1 p = none → Q (.ref p) (upd H1 p (.tup xs))) hs er hh (fun xs H1 ds S1 g r h1 => ⟨by rw [r.length]; exact h1.1, fun p hp => hq _ _ _ S1 (g.trans (good_new g.hst hp)) (new_tup g.hst hp r) h1.2⟩) hx⟩
theorem ve_lst {es : List Expr} {t : TA} {da : TAd} (h : VA X W es t da) : VE X W (.List es pos) (tLst t) (dLst da) := ⟨pe_lst h.run, fun {σV F H σ S Qd E Q} hs er hh hq hx =>
  h.snd (Q := fun xs H1 => xs.length ≤ sizeLine ∧ ∀ p, H1 p = none → Q (.ref p) (upd H1 p (.lst xs))) hs er hh (fun xs H1 ds S1 g r h1 => ⟨by rw [r.length]; exact h1.1, fun p hp => hq _ _ _ S1 (g.trans (good_new g.hst hp)) (new_lst g.hst hp r) h1.2⟩) hx⟩
theorem ook_lst {K : PySem.W.Frag} {M : Hp} {xs : List V} {ds : List D} (r : Reps K M xs ds) : OOk K M (some (.lst xs)) (.lst ds) := ⟨xs, rfl, r⟩
theorem ook_dct {K : PySem.W.Frag} {M : Hp} {xs : List (Key × V)} {ds : List (Key × D)} (r : RepK K M xs ds) : OOk K M (some (.dK xs)) (.dct ds) := ⟨xs, rfl, r⟩
theorem ook_ins {K : PySem.W.Frag} {M : Hp} {C dx : Addr} {xs : List (Str × V)} {ds : List (Str × D)} (r : RepF K M xs ds) : OOk K M (some (.ins C dx xs)) (.ins C ds) := ⟨dx, xs, rfl, r⟩
theorem good_newM {K : PySem.W.Frag} {F H : Hp} {S : Sto} {p : Addr} {u : HO} {o : O} (hs : HSt K F H S) (hp : H p = none) (k : OOk K (mask F S H) (some u) o) : Good K F H S (upd H p u) (put S p o) := ⟨hst_newM hs hp k, same_newM hs hp⟩
theorem ve_lstM {es : List Expr} {t : TA} {da : TAd} (h : VA X W es t da) : VE X W (.List es pos) (tLst t) (dLstM da) := ⟨pe_lst h.run, fun {σV F H σ S Qd E Q} hs er hh hq hx =>
  h.snd (Q := fun xs H1 => xs.length ≤ sizeLine ∧ ∀ p, H1 p = none → Q (.ref p) (upd H1 p (.lst xs))) hs er hh (fun xs H1 ds S1 g r h1 => ⟨by rw [r.length]; exact h1.1, fun p hp =>
    hq _ _ _ _ (g.trans (good_newM g.hst hp (ook_lst r))) (.ref p) (h1.2 p (g.hst.free hp))⟩) hx⟩
/-- {}: a dict that may change -/
def dDctM : TEd := fun _ S Q _ => ∀ p, S p = none → Q (.ref p) (put S p (.dct []))
theorem ve_dctM : VE X W (.Dict [] [] pos) tDNewK dDctM := ⟨pe_dnewK, fun {σV F H σ S Qd E Q} hs er hh hq hx p hp => hq _ _ _ _ (good_newM hs hp (ook_dct .nil)) (.ref p) (hh p (hs.free hp))⟩
/-- a new thing that may change is seen as it stands from here on -/
def frz (Q : QD) : QD := fun d S => match d with
  | .ref a => match S a with
    | some (.lst ds) => Q (.lst ds) (era S a)
    | some (.dct ds) => Q (.dct ds) (era S a)
    | _ => False
  | _ => False
theorem LQ.frz {K : PySem.W.Frag} {F H : Hp} {S : Sto} {Qd : QD} {Q : VK} (h : LQ K F H S Qd Q) : LQ K F H S (frz Qd) Q := fun v H' d S' g r hd => by
  unfold VL.frz at hd
  split at hd
  · next a =>
    cases r
    split at hd
    · next ds e =>
      obtain ⟨xs, e1, r1⟩ := g.hst.at_ a _ e
      have s1 : Same (mask F S' H') (mask F (era S' a) H') := same_sub sub_era
      refine h _ H' _ _ ⟨hst_sub g.hst sub_era, g.same.trans s1⟩ (.lst (SqL.of ?_) (r1.mono s1)) hd
      rw [mask_none (by unfold era; rw [if_pos rfl]) (g.hst.apart e)]; exact e1
    · next ds e =>
      obtain ⟨xs, e1, r1⟩ := g.hst.at_ a _ e
      have s1 : Same (mask F S' H') (mask F (era S' a) H') := same_sub sub_era
      refine h _ H' _ _ ⟨hst_sub g.hst sub_era, g.same.trans s1⟩ (.dct ?_ (r1.mono s1)) hd
      rw [mask_none (by unfold era; rw [if_pos rfl]) (g.hst.apart e)]; exact e1
    · cases hd
  · cases hd
def dFrz (de : TEd) : TEd := fun σ S Q E => de σ S (frz Q) E
theorem ve_frz {e : Expr} {te : TE} {de : TEd} (h : VE X W e te de) : VE X W e te (dFrz de) := ⟨h.run, fun {σV F H σ S Qd E Q} hs er hh hq hx => h.snd hs er hh hq.frz hx⟩
end
end VL

/-! VL: builtins, and or not, tests, if-expressions, chains. -/
namespace VL
open PySem PySem.Spec PyProof.Rows L2

/-! ### lists of one kind -/
def intsD : List D → Option (List Int)
  | [] => some []
  | .int i :: r => (intsD r).map (i :: ·)
  | _ :: _ => none
def bools : List D → Option (List Bool)
  | [] => some []
  | .bl i :: r => (bools r).map (i :: ·)
  | _ :: _ => none
def strsD : List D → Option (List Str)
  | [] => some []
  | .str i :: r => (strsD r).map (i :: ·)
  | _ :: _ => none
@[simp] theorem ints_map (l : List Int) : intsD (l.map D.int) = some l := by
  induction l with
  | nil => rfl
  | cons a l ih => show (intsD (l.map D.int)).map (a :: ·) = _; rw [ih]; rfl
@[simp] theorem bools_map (l : List Bool) : bools (l.map D.bl) = some l := by
  induction l with
  | nil => rfl
  | cons a l ih => show (bools (l.map D.bl)).map (a :: ·) = _; rw [ih]; rfl
@[simp] theorem strs_map (l : List Str) : strsD (l.map D.str) = some l := by
  induction l with
  | nil => rfl
  | cons a l ih => show (strsD (l.map D.str)).map (a :: ·) = _; rw [ih]; rfl
theorem ints_of : ∀ {ds : List D} {l : List Int}, intsD ds = some l → ds = l.map D.int
  | [], l, h => by cases h; rfl
  | .int i :: r, l, h => by
    obtain ⟨l', h1, h2⟩ := Option.map_eq_some_iff.mp (show (intsD r).map (i :: ·) = some l from h)
    subst h2; rw [ints_of h1]; rfl
  | .non :: _, _, h => by cases h
  | .bl _ :: _, _, h => by cases h
  | .str _ :: _, _, h => by cases h
  | .ty _ :: _, _, h => by cases h
  | .ref _ :: _, _, h => by cases h
  | .tup _ :: _, _, h => by cases h
  | .lst _ :: _, _, h => by cases h
  | .dct _ :: _, _, h => by cases h
theorem bools_of : ∀ {ds : List D} {l : List Bool}, bools ds = some l → ds = l.map D.bl
  | [], l, h => by cases h; rfl
  | .bl i :: r, l, h => by
    obtain ⟨l', h1, h2⟩ := Option.map_eq_some_iff.mp (show (bools r).map (i :: ·) = some l from h)
    subst h2; rw [bools_of h1]; rfl
  | .non :: _, _, h => by cases h
  | .int _ :: _, _, h => by cases h
  | .str _ :: _, _, h => by cases h
  | .ty _ :: _, _, h => by cases h
  | .ref _ :: _, _, h => by cases h
  | .tup _ :: _, _, h => by cases h
  | .lst _ :: _, _, h => by cases h
  | .dct _ :: _, _, h => by cases h
theorem strs_of : ∀ {ds : List D} {l : List Str}, strsD ds = some l → ds = l.map D.str
  | [], l, h => by cases h; rfl
  | .str i :: r, l, h => by
    obtain ⟨l', h1, h2⟩ := Option.map_eq_some_iff.mp (show (strsD r).map (i :: ·) = some l from h)
    subst h2; rw [strs_of h1]; rfl
  | .non :: _, _, h => by cases h
  | .int _ :: _, _, h => by cases h
  | .bl _ :: _, _, h => by cases h
  | .ty _ :: _, _, h => by cases h
  | .ref _ :: _, _, h => by cases h
  | .tup _ :: _, _, h => by cases h
  | .lst _ :: _, _, h => by cases h
  | .dct _ :: _, _, h => by cases h
section
variable {K : PySem.W.Frag} {M : Hp}
theorem reps_ints : ∀ {l : List Int} {xs : List V}, Reps K M xs (l.map D.int) → xs = l.map V.int
  | [], _, h => by cases h; rfl
  | i :: r, _, h => by cases h with | cons h1 h2 => cases h1; rw [reps_ints h2]; rfl
theorem reps_bools : ∀ {l : List Bool} {xs : List V}, Reps K M xs (l.map D.bl) → xs = l.map V.bl
  | [], _, h => by cases h; rfl
  | i :: r, _, h => by cases h with | cons h1 h2 => cases h1; rw [reps_bools h2]; rfl
theorem reps_strs : ∀ {l : List Str} {xs : List V}, Reps K M xs (l.map D.str) → xs = l.map V.str
  | [], _, h => by cases h; rfl
  | i :: r, _, h => by cases h with | cons h1 h2 => cases h1; rw [reps_strs h2]; rfl
theorem reps_of_ints : ∀ (l : List Int), Reps K M (l.map V.int) (l.map D.int)
  | [] => .nil
  | i :: r => .cons (.int i) (reps_of_ints r)
theorem reps_of_strs : ∀ (l : List Str), Reps K M (l.map V.str) (l.map D.str)
  | [] => .nil
  | i :: r => .cons (.str i) (reps_of_strs r)
end

/-! ### a builtin called by its name -/
abbrev RCd := List D → Sto → QD → Prop
def SndC (K : PySem.W.Frag) (r : List V → Hp → VK → Prop) (rd : RCd) : Prop := ∀ {xs : List V} {ds : List D} {F H : Hp} {S : Sto} {Qd : QD} {Q : VK},
  HSt K F H S → Reps K (mask F S H) xs ds → rd ds S Qd → LQ K F H S Qd Q → r xs H Q
def dCB (rd : RCd) (da : TAd) : TEd := fun σ S Q E => da σ S (fun ds S1 => rd ds S1 Q) E
def c2 (r s : List V → Hp → VK → Prop) : List V → Hp → VK → Prop := fun xs H Q => r xs H Q ∨ s xs H Q
section
variable {X : Cx} {W : WX} {a b c : Expr} {ta tb tc : TE} {da db dc : TEd} {pos : Pos}
theorem snd_cb {r : List V → Hp → VK → Prop} {rd : RCd} {t : TA} {d : TAd} (hr : SndC X.K r rd) (ha : SndA X.K W t d) : Snd X.K W (tCB r t) (dCB rd d) := fun {σV F H σ S Qd E Q} hs er h hq hx =>
  ha (Q := fun vs H1 => r vs H1 Q) hs er h (fun vs H1 ds S1 g r1 h1 => hr g.hst r1 h1 (hq.next g)) hx
theorem ve_cb {id : String} {r : List V → Hp → VK → Prop} {rd : RCd} {x : Str} {p : Pos} {e : Expr} {es : List Expr} {t : TA} {d : TAd} (hr : SndC X.K r rd) (hc : CallR X (.builtin id) r) (hm : X.mg x = none) (ha : VA X W (e :: es) t d)
    (hg : Gl X x := by rfl) (hv : bootBuiltins x = some (.builtin id) := by decide +kernel) (hn : x ≠ "__name__" := by decide) (hdb : (x == ("__debug__" : Str)) = false := by decide)
    (he : starEach (e :: es) X.env = (false, eval e X.env) :: starEach es X.env := by rfl) (hpl : (backTo pos (starEach es X.env)).any (·.1) = false := by rfl) :
    VE X W (.Call (.Name x p) (e :: es) [] pos) (tCB r t) (dCB rd d) := ⟨pe_callB hc hg hm hv ha.run hn hdb he hpl, snd_cb hr ha.snd⟩
theorem ve_ct {T : String} {r : List V → Hp → VK → Prop} {rd : RCd} {x : Str} {p : Pos} {e : Expr} {es : List Expr} {t : TA} {d : TAd} (hr : SndC X.K r rd) (hc : CallR X (.type T) r) (hm : X.mg x = none) (ha : VA X W (e :: es) t d)
    (hg : Gl X x := by rfl) (hv : bootBuiltins x = some (.type T) := by decide +kernel) (hn : x ≠ "__name__" := by decide) (hdb : (x == ("__debug__" : Str)) = false := by decide)
    (he : starEach (e :: es) X.env = (false, eval e X.env) :: starEach es X.env := by rfl) (hpl : (backTo pos (starEach es X.env)).any (·.1) = false := by rfl) :
    VE X W (.Call (.Name x p) (e :: es) [] pos) (tCB r t) (dCB rd d) := ⟨pe_callTy hc hg hm hv ha.run hn hdb he hpl, snd_cb hr ha.snd⟩

/-! len -/
def dLen : RCd := fun ds S Q => match ds with
  | [x] => match vw S x with
    | .lst l => Q (.int l.length) S
    | .tup l => Q (.int l.length) S
    | .dct l => Q (.int l.length) S
    | .str z => z.length ≤ sizeLine ∧ Q (.int z.length) S
    | _ => False
  | _ => False
def rLen (K : PySem.W.Frag) : List V → Hp → VK → Prop := fun xs H Q => ∃ x n, xs = [x] ∧ LenV K x H n ∧ Q (.int n) H
def rLenK : List V → Hp → VK → Prop := fun xs H Q => ∃ a kvs, xs = [.ref a] ∧ H a = some (.dK kvs) ∧ Q (.int (kvs.length : Nat)) H
theorem snd_len : SndC X.K (c2 (rLen X.K) rLenK) dLen := fun {xs ds F H S Qd Q} hs r h hq => by
  unfold dLen at h; split at h
  · cases r with
    | cons r1 r2 =>
      cases r2
      split at h
      · next l e =>
        obtain ⟨a1, ys, rfl, h1, q1⟩ := see_lst hs r1 e
        exact .inl ⟨_, ys.length, rfl, .inl ⟨ys, h1, rfl⟩, hq _ H _ S (.refl hs) (by rw [q1.length]; exact .int _) h⟩
      · next l e =>
        obtain ⟨_, a1, ys, rfl, h1, _, q1⟩ := see_tup r1 e
        exact .inl ⟨_, ys.length, rfl, .inr ⟨ys, h1, rfl⟩, hq _ H _ S (.refl hs) (by rw [q1.length]; exact .int _) h⟩
      · next l e =>
        obtain ⟨a1, ys, rfl, h1, q1⟩ := see_dct hs r1 e
        exact .inr ⟨a1, ys, rfl, h1, hq _ H _ S (.refl hs) (by rw [repK_len q1]; exact .int _) h⟩
      · next z e =>
        obtain rfl := see_str r1 e
        exact .inl ⟨_, z.length, rfl, ⟨h.1, rfl⟩, hq _ H _ S (.refl hs) (.int _) h.2⟩
      · cases h
  · cases h
theorem call_lenK : CallR X (.builtin "len") rLenK := call_lenD
theorem call_lenA : CallR X (.builtin "len") (c2 (rLen X.K) rLenK) := CallR.or call_len call_lenK

/-! isinstance, of the builtin kinds -/
def tyN : D → Option String
  | .non => some "NoneType"
  | .bl _ => some "bool"
  | .int _ => some "int"
  | .str _ => some "str"
  | .tup _ => some "tuple"
  | .lst _ => some "list"
  | .dct _ => some "dict"
  | .ty _ => none
  | .ref _ => none
  | .exc _ _ _ _ => none
def kindsB : List String := ["int", "bool", "str", "tuple", "list", "dict"]
def isT (t n : String) : Bool := t == n || (t == "bool" && n == "int")
theorem kit_is {d : D} {t n : String} (ht : tyN d = some t) (hn : kindsB.contains n = true) : kitB t n = some (isT t n) := by
  have h : n = "int" ∨ n = "bool" ∨ n = "str" ∨ n = "tuple" ∨ n = "list" ∨ n = "dict" := by simpa [kindsB] using hn
  cases d <;> simp [tyN] at ht <;> (subst ht; rcases h with rfl | rfl | rfl | rfl | rfl | rfl <;> decide +kernel)
/-- is d of one of these kinds -/
def tysD : List D → Option (List String)
  | [] => some []
  | .ty n :: r => (tysD r).map (n :: ·)
  | _ :: _ => none
def dIsi : RCd := fun ds S Q => match ds with
  | [x, .ty n] => match tyN (vw S x) with
    | some t => kindsB.contains n = true ∧ Q (.bl (isT t n)) S
    | none => False
  | [x, .tup ns] => match tyN (vw S x), tysD ns with
    | some t, some l => l.all kindsB.contains = true ∧ Q (.bl (l.any (isT t))) S
    | _, _ => False
  | _ => False
theorem tyx_of {F H : Hp} {S : Sto} {v : V} {d : D} {t : String} (hs : HSt X.K F H S) (r : Rep X.K (mask F S H) v d) (ht : tyN (vw S d) = some t) : TyX X.K H v (.type t) := by
  cases e : vw S d with
  | non => obtain rfl := see_non r e; rw [e] at ht; cases ht; exact .base .non
  | bl b => obtain rfl := see_bl r e; rw [e] at ht; cases ht; exact .base (.bl b)
  | int b => obtain rfl := see_int r e; rw [e] at ht; cases ht; exact .base (.int b)
  | str b => obtain rfl := see_str r e; rw [e] at ht; cases ht; exact .base (.str b)
  | tup l =>
    obtain ⟨_, a1, ys, rfl, h1, _, _⟩ := see_tup r e
    rw [e] at ht; cases ht
    rcases h1 with (h1 | ⟨o, h1⟩) | ⟨o, its, n, h1, h2, _⟩
    · exact .base (.tup h1)
    · exact .fTuple h1
    · exact .kTuple h1 h2
  | lst l =>
    obtain ⟨a1, ys, rfl, h1, _⟩ := see_lst hs r e
    rw [e] at ht; cases ht
    rcases h1 with (h1 | ⟨o, h1⟩) | ⟨o, its, n, h1, h2, _⟩
    · exact .base (.lst h1)
    · exact .base (.frz h1)
    · exact .kList h1 h2
  | dct l =>
    obtain ⟨a1, ys, rfl, h1, _⟩ := see_dct hs r e
    rw [e] at ht; cases ht
    exact .base (.dK h1)
  | ty n => rw [e] at ht; cases ht
  | ref a => rw [e] at ht; cases ht
  | exc _ _ _ _ => rw [e] at ht; cases ht
theorem tys_of : ∀ {ds : List D} {l : List String}, tysD ds = some l → ds = l.map D.ty
  | [], l, h => by cases h; rfl
  | .ty i :: r, l, h => by
    obtain ⟨l', h1, h2⟩ := Option.map_eq_some_iff.mp (show (tysD r).map (i :: ·) = some l from h)
    subst h2; rw [tys_of h1]; rfl
  | .non :: _, _, h => by cases h
  | .int _ :: _, _, h => by cases h
  | .bl _ :: _, _, h => by cases h
  | .str _ :: _, _, h => by cases h
  | .ref _ :: _, _, h => by cases h
  | .tup _ :: _, _, h => by cases h
  | .lst _ :: _, _, h => by cases h
  | .dct _ :: _, _, h => by cases h
theorem reps_tys {M : Hp} : ∀ {l : List String} {xs : List V}, Reps X.K M xs (l.map D.ty) → xs = l.map V.ty ∧ Paired ClsV xs (l.map Value.type)
  | [], _, h => by cases h; exact ⟨rfl, .nil⟩
  | i :: r, _, h => by
    cases h with
    | cons h1 h2 =>
      cases h1
      obtain ⟨e, p⟩ := reps_tys h2
      exact ⟨by rw [e]; rfl, .cons (.ty i) p⟩
theorem kit_any {d : D} {t : String} (ht : tyN d = some t) : ∀ {l : List String}, l.all kindsB.contains = true → PySem.W.kitAny X.K (.type t) (l.map Value.type) = some (l.any (isT t))
  | [], _ => kitAny_nil
  | n :: l, h => by
    rw [List.all_cons, Bool.and_eq_true] at h
    have ih := kit_any ht h.2
    refine kitAny_cons (b := isT t n) (kit_ty (kit_is ht h.1)) (fun e => ?_) (fun e => ?_)
    · rw [List.any_cons, e, Bool.false_or]; exact ih
    · rw [List.any_cons, e, Bool.true_or]
/-- isinstance(x, (..)) of a tuple that stands -/
def rIsiG (K : PySem.W.Frag) : List V → Hp → VK → Prop := fun xs H Q => ∃ (x : V) (tp : Addr) (cs : List V) (t : Value) (us : List Value) (b : Bool), xs = [x, .ref tp] ∧ SqT K H tp cs ∧ Paired ClsV cs us ∧ TyX K H x t ∧ PySem.W.kitAny K t us = some b ∧ Q (.bl b) H
theorem call_isiG : CallR X (.builtin "isinstance") (rIsiG X.K) := fun pins s σ H xs us Q I r h => by
  obtain ⟨x, tp, cs, t, ws, b, rfl, hT, k, ty, e, q⟩ := h
  obtain ⟨u1, u2, rfl, r1, r2⟩ := vals2 r
  cases (show u2 = Value.ref tp from r2)
  obtain ⟨P, Z, p, hx⟩ := kit_of I r1 ty
  obtain ⟨its, rv, ⟨⟨oc, od, dt, sl⟩, h1, h2, n, h3⟩, _⟩ := I.tuple hT
  obtain rfl := ClsV.all k rv
  simp only at h2 h3
  subst h2 h3
  exact PySem.W.kia_tup Z I.kIn p h1 e hx fun tk => ⟨.bl b, H, I.tok tk, rfl, q⟩
theorem snd_isi : SndC X.K (c2 (rIsi X.K) (rIsiG X.K)) dIsi := fun {xs ds F H S Qd Q} hs r h hq => by
  unfold dIsi at h; split at h
  · next x n =>
    cases r with
    | cons r1 r2 =>
      cases r2 with
      | cons r2 r3 =>
        cases r3; cases r2
        split at h
        · next t et =>
          exact .inl ⟨_, _, .type t, .type n, isT t n, rfl, .ty n, tyx_of hs r1 et, kit_ty (kit_is et h.1), hq _ H _ S (.refl hs) (.bl _) h.2⟩
        · cases h
  · next x ns =>
    cases r with
    | cons r1 r2 =>
      cases r2 with
      | cons r2 r3 =>
        cases r3
        split at h
        · next t l et el =>
          obtain rfl := tys_of el
          obtain ⟨_, a1, ys, rfl, _, hm, q1⟩ := see_tup (d := .tup (l.map D.ty)) r2 rfl
          obtain ⟨e1, p1⟩ := reps_tys q1
          subst e1
          exact .inr ⟨_, a1, _, .type t, l.map Value.type, l.any (isT t), rfl, st_up hm, p1, tyx_of hs r1 et, kit_any et h.1, hq _ H _ S (.refl hs) (.bl _) h.2⟩
        · cases h
  · cases h
theorem call_isA : CallR X (.builtin "isinstance") (c2 (rIsi X.K) (rIsiG X.K)) := CallR.or call_isi call_isiG

/-! all, any, sum; max, min of two; abs -/
def dAll : RCd := fun ds S Q => match ds with
  | [x] => match vw S x with
    | .lst l => match bools l with
      | some bs => Q (.bl (bs.all id)) S
      | none => False
    | _ => False
  | _ => False
def dAny : RCd := fun ds S Q => match ds with
  | [x] => match vw S x with
    | .lst l => match bools l with
      | some bs => Q (.bl (bs.any id)) S
      | none => False
    | _ => False
  | _ => False
def dSum : RCd := fun ds S Q => match ds with
  | [x] => match vw S x with
    | .lst l => match intsD l with
      | some bs => Q (.int bs.sum) S
      | none => False
    | _ => False
  | _ => False
theorem snd_all : SndC X.K (rAll X.K) dAll := fun {xs ds F H S Qd Q} hs r h hq => by
  unfold dAll at h; split at h
  · cases r with
    | cons r1 r2 =>
      cases r2
      split at h
      · next l e =>
        split at h
        · next bs eb =>
          obtain rfl := bools_of eb
          obtain ⟨a1, ys, rfl, h1, q1⟩ := see_lst hs r1 e
          obtain rfl := reps_bools q1
          exact ⟨a1, bs, rfl, h1, hq _ H _ S (.refl hs) (.bl _) h⟩
        · cases h
      · cases h
  · cases h
theorem snd_any : SndC X.K (rAny X.K) dAny := fun {xs ds F H S Qd Q} hs r h hq => by
  unfold dAny at h; split at h
  · cases r with
    | cons r1 r2 =>
      cases r2
      split at h
      · next l e =>
        split at h
        · next bs eb =>
          obtain rfl := bools_of eb
          obtain ⟨a1, ys, rfl, h1, q1⟩ := see_lst hs r1 e
          obtain rfl := reps_bools q1
          exact ⟨a1, bs, rfl, h1, hq _ H _ S (.refl hs) (.bl _) h⟩
        · cases h
      · cases h
  · cases h
theorem snd_sum : SndC X.K (rSum X.K) dSum := fun {xs ds F H S Qd Q} hs r h hq => by
  unfold dSum at h; split at h
  · cases r with
    | cons r1 r2 =>
      cases r2
      split at h
      · next l e =>
        split at h
        · next bs eb =>
          obtain rfl := ints_of eb
          obtain ⟨a1, ys, rfl, h1, q1⟩ := see_lst hs r1 e
          obtain rfl := reps_ints q1
          exact ⟨a1, bs, rfl, h1, hq _ H _ S (.refl hs) (.int _) h⟩
        · cases h
      · cases h
  · cases h
def dMM (g : Int → Int → Int) : RCd := fun ds S Q => match ds with
  | [.int i, .int j] => Q (.int (g i j)) S
  | _ => False
theorem snd_mm {g : Int → Int → Int} : SndC X.K (fun xs H Q => ∃ i j, xs = [.int i, .int j] ∧ Q (.int (g i j)) H) (dMM g) := fun {xs ds F H S Qd Q} hs r h hq => by
  unfold dMM at h; split at h
  · next i j =>
    cases r with
    | cons r1 r2 => cases r2 with
      | cons r2 r3 => cases r3; cases r1; cases r2; exact ⟨i, j, rfl, hq _ H _ S (.refl hs) (.int _) h⟩
  · cases h
def dAbs : RCd := fun ds S Q => match ds with
  | [.int i] => Q (.int (if i < 0 then -i else i)) S
  | _ => False
theorem snd_abs : SndC X.K (fun xs H Q => ∃ i, xs = [.int i] ∧ Q (.int (if i < 0 then -i else i)) H) dAbs := fun {xs ds F H S Qd Q} hs r h hq => by
  unfold dAbs at h; split at h
  · next i => cases r with
    | cons r1 r2 => cases r2; cases r1; exact ⟨i, rfl, hq _ H _ S (.refl hs) (.int _) h⟩
  · cases h

/-! str(n), int(text | flag), list(..), tuple(..) -/
def dStr : RCd := fun ds S Q => match ds with
  | [.int i] => i.natAbs.log2 < 1920 ∧ Q (.str (toString i)) S
  | _ => False
theorem snd_str : SndC X.K (fun xs H Q => ∃ i, xs = [.int i] ∧ i.natAbs.log2 < 1920 ∧ Q (.str (toString i)) H) dStr := fun {xs ds F H S Qd Q} hs r h hq => by
  unfold dStr at h; split at h
  · next i => cases r with
    | cons r1 r2 => cases r2; cases r1; exact ⟨i, rfl, h.1, hq _ H _ S (.refl hs) (.str _) h.2⟩
  · cases h
def dInt : RCd := fun ds S Q => match ds with
  | [.int i] => Q (.int i) S
  | [.bl k] => Q (.int (if k then 1 else 0)) S
  | [.str a] => match PySem.intText? a with
    | some n => a.length ≤ 640 ∧ Q (.int n) S
    | none => False
  | _ => False
def rInt1 : List V → Hp → VK → Prop := fun xs H Q => (∃ i, xs = [.int i] ∧ Q (.int i) H) ∨ ∃ k, xs = [.bl k] ∧ Q (.int (if k then 1 else 0)) H
def rIntS : List V → Hp → VK → Prop := fun xs H Q => ∃ a n, xs = [.str a] ∧ PySem.intText? a = some n ∧ a.length ≤ 640 ∧ Q (.int n) H
theorem snd_int : SndC X.K (c2 rInt1 rIntS) dInt := fun {xs ds F H S Qd Q} hs r h hq => by
  unfold dInt at h; split at h
  · next i => cases r with
    | cons r1 r2 => cases r2; cases r1; exact .inl (.inl ⟨i, rfl, hq _ H _ S (.refl hs) (.int _) h⟩)
  · next i => cases r with
    | cons r1 r2 => cases r2; cases r1; exact .inl (.inr ⟨i, rfl, hq _ H _ S (.refl hs) (.int _) h⟩)
  · next a =>
    split at h
    · next n en => cases r with
      | cons r1 r2 => cases r2; cases r1; exact .inr ⟨a, n, rfl, en, h.1, hq _ H _ S (.refl hs) (.int _) h.2⟩
    · cases h
  · cases h
theorem call_intA : CallR X (.type "int") (c2 rInt1 rIntS) := CallR.or call_int1 call_int_str
def rListOf (K : PySem.W.Frag) : List V → Hp → VK → Prop := fun xs H Q => ∃ p ys, xs = [.ref p] ∧ (SqL K H p ys ∨ SqT K H p ys) ∧ ∀ l, H l = none → Q (.ref l) (upd H l (.lst ys))
def dListOf : RCd := fun ds S Q => match ds with
  | [x] => match vw S x with
    | .lst l => Q (.lst l) S
    | .tup l => Q (.lst l) S
    | _ => False
  | _ => False
/-- .. a list that may change -/
def dListOfM : RCd := fun ds S Q => match ds with
  | [x] => match vw S x with
    | .lst l => ∀ p, S p = none → Q (.ref p) (put S p (.lst l))
    | .tup l => ∀ p, S p = none → Q (.ref p) (put S p (.lst l))
    | _ => False
  | _ => False
theorem snd_listOf : SndC X.K (rListOf X.K) dListOf := fun {xs ds F H S Qd Q} hs r h hq => by
  unfold dListOf at h; split at h
  · cases r with
    | cons r1 r2 =>
      cases r2
      split at h
      · next l e =>
        obtain ⟨a1, ys, rfl, h1, q1⟩ := see_lst hs r1 e
        exact ⟨a1, ys, rfl, .inl h1, fun p hp => hq _ _ _ S (good_new hs hp) (new_lst hs hp q1) h⟩
      · next l e =>
        obtain ⟨_, a1, ys, rfl, h1, _, q1⟩ := see_tup r1 e
        exact ⟨a1, ys, rfl, .inr h1, fun p hp => hq _ _ _ S (good_new hs hp) (new_lst hs hp q1) h⟩
      · cases h
  · cases h
theorem snd_listOfM : SndC X.K (rListOf X.K) dListOfM := fun {xs ds F H S Qd Q} hs r h hq => by
  unfold dListOfM at h; split at h
  · cases r with
    | cons r1 r2 =>
      cases r2
      split at h
      · next l e =>
        obtain ⟨a1, ys, rfl, h1, q1⟩ := see_lst hs r1 e
        exact ⟨a1, ys, rfl, .inl h1, fun p hp => hq _ _ _ _ (good_newM hs hp (ook_lst q1)) (.ref p) (h p (hs.free hp))⟩
      · next l e =>
        obtain ⟨_, a1, ys, rfl, h1, _, q1⟩ := see_tup r1 e
        exact ⟨a1, ys, rfl, .inr h1, fun p hp => hq _ _ _ _ (good_newM hs hp (ook_lst q1)) (.ref p) (h p (hs.free hp))⟩
      · cases h
  · cases h
def rTupOf (K : PySem.W.Frag) : List V → Hp → VK → Prop := fun xs H Q => ∃ p ys, xs = [.ref p] ∧ ((SqL K H p ys ∧ ∀ l, H l = none → Q (.ref l) (upd H l (.tup ys))) ∨ (SqT K H p ys ∧ Q (.ref p) H))
def dTupOf : RCd := fun ds S Q => match ds with
  | [x] => match vw S x with
    | .lst l => Q (.tup l) S
    | .tup l => Q (.tup l) S
    | _ => False
  | _ => False
theorem snd_tupOf : SndC X.K (rTupOf X.K) dTupOf := fun {xs ds F H S Qd Q} hs r h hq => by
  unfold dTupOf at h; split at h
  · cases r with
    | cons r1 r2 =>
      cases r2
      split at h
      · next l e =>
        obtain ⟨a1, ys, rfl, h1, q1⟩ := see_lst hs r1 e
        exact ⟨a1, ys, rfl, .inl ⟨h1, fun p hp => hq _ _ _ S (good_new hs hp) (new_tup hs hp q1) h⟩⟩
      · next l e =>
        obtain ⟨_, a1, ys, rfl, h1, hm, q1⟩ := see_tup r1 e
        exact ⟨a1, ys, rfl, .inr ⟨h1, hq _ H _ S (.refl hs) (.tup hm q1) h⟩⟩
      · cases h
  · cases h

/-! ### and, or, not, if-else, chains, as values -/
def dAndV (da db : TEd) : TEd := fun σ S Q E => da σ S (fun x S1 => match x with
  | .bl c => if c = true then db σ S1 Q E else Q (.bl false) S1
  | _ => False) E
def dOrV (da db : TEd) : TEd := fun σ S Q E => da σ S (fun x S1 => match x with
  | .bl c => if c = true then Q (.bl true) S1 else db σ S1 Q E
  | _ => False) E
def dNotV (da : TEd) : TEd := fun σ S Q E => da σ S (fun x S1 => match x with
  | .bl c => Q (.bl (!c)) S1
  | _ => False) E
theorem ve_one {op : BoolOp} (h : VE X W a ta da) : VE X W (.BoolOp op [a] pos) ta da := ⟨pe_one h.run, h.snd⟩
theorem ve_and {rest : List Expr} (ha : VE X W a ta da) (hb : VE X W (.BoolOp .And (b :: rest) pos) tb db) : VE X W (.BoolOp .And (a :: b :: rest) pos) (tAndV ta tb) (dAndV da db) := by
  refine ⟨pe_and ha.run hb.run, fun {σV F H σ S Qd E Q} hs er h hq hx => ?_⟩
  refine ha.snd (Q := fun x H1 => ∃ c, x = .bl c ∧ if c = true then tb σV H1 Q else Q (.bl false) H1) hs er h (fun x H1 dx S1 g r h1 => ?_) hx
  split at h1
  · next c =>
    cases r
    refine ⟨c, rfl, ?_⟩
    cases c with
    | true => exact hb.snd g.hst (er.mono g.same) h1 (hq.next g) (hx.next g)
    | false => exact hq _ H1 _ S1 g (.bl _) h1
  · cases h1
theorem ve_or {rest : List Expr} (ha : VE X W a ta da) (hb : VE X W (.BoolOp .Or (b :: rest) pos) tb db) : VE X W (.BoolOp .Or (a :: b :: rest) pos) (tOrV ta tb) (dOrV da db) := by
  refine ⟨pe_or ha.run hb.run, fun {σV F H σ S Qd E Q} hs er h hq hx => ?_⟩
  refine ha.snd (Q := fun x H1 => ∃ c, x = .bl c ∧ if c = true then Q (.bl true) H1 else tb σV H1 Q) hs er h (fun x H1 dx S1 g r h1 => ?_) hx
  split at h1
  · next c =>
    cases r
    refine ⟨c, rfl, ?_⟩
    cases c with
    | true => exact hq _ H1 _ S1 g (.bl _) h1
    | false => exact hb.snd g.hst (er.mono g.same) h1 (hq.next g) (hx.next g)
  · cases h1
theorem ve_not (ha : VE X W a ta da) : VE X W (.UnaryOp .Not a pos) (tNotV ta) (dNotV da) := by
  refine ⟨pe_not ha.run, fun {σV F H σ S Qd E Q} hs er h hq hx => ?_⟩
  refine ha.snd (Q := fun x H1 => ∃ c, x = .bl c ∧ Q (.bl (!c)) H1) hs er h (fun x H1 dx S1 g r h1 => ?_) hx
  split at h1
  · next c => cases r; exact ⟨c, rfl, hq _ H1 _ S1 g (.bl _) h1⟩
  · cases h1
def dNeg : TEd → TEd := fun da σ S Q E => da σ S (fun x S1 => match x with
  | .int i => Q (.int (-i)) S1
  | _ => False) E
theorem ve_neg (ha : VE X W a ta da) : VE X W (.UnaryOp .USub a pos) (tUn (rU fun i => .int (-i)) ta) (dNeg da) := by
  refine ⟨pe_un un_neg ha.run, fun {σV F H σ S Qd E Q} hs er h hq hx => ?_⟩
  refine ha.snd (Q := fun x H1 => ∃ i, x = .int i ∧ Q (.int (-i)) H1) hs er h (fun x H1 dx S1 g r h1 => ?_) hx
  split at h1
  · next i => cases r; exact ⟨i, rfl, hq _ H1 _ S1 g (.int _) h1⟩
  · cases h1
def dIfE (dt : TTd) (da db : TEd) : TEd := fun σ S Q E => dt σ S (fun c S1 => if c = true then da σ S1 Q E else db σ S1 Q E) E
theorem ve_ifE {t : Expr} {tt : TT} {dt : TTd} (ht : VT X W t tt dt) (ha : VE X W a ta da) (hb : VE X W b tb db) : VE X W (.IfExp t a b pos) (tIf tt ta tb) (dIfE dt da db) := by
  refine ⟨pe_ifExp ht.run ha.run hb.run, fun {σV F H σ S Qd E Q} hs er h hq hx => ?_⟩
  refine ht.snd (Q := fun c H1 => if c = true then ta σV H1 Q else tb σV H1 Q) hs er h (fun c H1 S1 g h1 => ?_) hx
  cases c with
  | true => exact ha.snd g.hst (er.mono g.same) h1 (hq.next g) (hx.next g)
  | false => exact hb.snd g.hst (er.mono g.same) h1 (hq.next g) (hx.next g)
def dChain (rd rd' : R2d) (da db dc : TEd) : TEd := fun σ S Q E => da σ S (fun x S1 => db σ S1 (fun y S2 => rd x y S2 (fun z S3 => match z with
  | .bl k => if k = true then dc σ S3 (fun u S4 => rd' y u S4 Q) E else Q (.bl false) S3
  | _ => False)) E) E
theorem snd_chain {r r' : R2} {rd rd' : R2d} (hr : Snd2 X.K r rd) (hr' : Snd2 X.K r' rd') (ha : Snd X.K W ta da) (hb : Snd X.K W tb db) (hc : Snd X.K W tc dc) : Snd X.K W (tChain r r' ta tb tc) (dChain rd rd' da db dc) := fun {σV F H σ S Qd E Q} hs er h hq hx => by
  refine ha hs er h (fun x H1 dx S1 g1 r1 h1 => ?_) hx
  refine hb g1.hst (er.mono g1.same) h1 (fun y H2 dy S2 g2 r2 h2 => ?_) (hx.next g1)
  have g12 := g1.trans g2
  refine hr g2.hst (r1.mono g2.same) r2 h2 (fun z H3 dz S3 g3 r3 h3 => ?_)
  have g13 := g12.trans g3
  split at h3
  · next k =>
    cases r3
    refine ⟨k, rfl, ?_⟩
    cases k with
    | true => exact hc g3.hst (er.mono g13.same) h3 (fun u H4 du S4 g4 r4 h4 => hr' g4.hst ((r2.mono g3.same).mono g4.same) r4 h4 (hq.next (g13.trans g4))) (hx.next g13)
    | false => exact hq _ H3 _ S3 g13 (.bl _) h3
  · cases h3
theorem ve_chain {op op' : CmpOp} {r r' : R2} {rd rd' : R2d} (ho : OpR X (compareOp op) r) (hr : Snd2 X.K r rd) (ho' : OpR X (compareOp op') r') (hr' : Snd2 X.K r' rd') (ha : VE X W a ta da) (hb : VE X W b tb db) (hc : VE X W c tc dc)
    (hm : lastMarks [op, op'] [b, c] = false := by with_unfolding_all rfl) : VE X W (.Compare a [op, op'] [b, c] pos) (tChain r r' ta tb tc) (dChain rd rd' da db dc) := ⟨pe_chain ho ho' ha.run hb.run hc.run hm, snd_chain hr hr' ha.snd hb.snd hc.snd⟩

/-! ### tests -/
def dTest (de : TEd) : TTd := fun σ S Q E => de σ S (fun x S1 => match x with
  | .bl k => Q k S1
  | _ => False) E
theorem snd_test {te : TE} {de : TEd} (h : Snd X.K W te de) : SndT X.K W (tTest te) (dTest de) := fun {σV F H σ S Qd E Q} hs er hh hq hx =>
  h hs er hh (fun x H1 dx S1 g r h1 => by
    split at h1
    · next k => cases r; exact ⟨k, rfl, hq k H1 S1 g h1⟩
    · cases h1) hx
theorem snd_tB {te : TE} {de : TEd} (h : Snd X.K W te de) : SndT X.K W (tB te) (dTest de) := fun {σV F H σ S Qd E Q} hs er hh hq hx =>
  h hs er hh (fun x H1 dx S1 g r h1 => by
    split at h1
    · next k => cases r; exact ⟨k, rfl, hq k H1 S1 g h1⟩
    · cases h1) hx
/-- a call, a name, that gives a truth -/
theorem vt_val {e : Expr} {te : TE} {de : TEd} (h : VE X W e te de) (he : ∀ whole, isTrue e X.env whole = (do let v ← whole; standAt e.pos; holding [v] (truthy v)) := by intro _; rfl) : VT X W e (tB te) (dTest de) := ⟨pt_val h.run he, snd_tB h.snd⟩
theorem vt_cmp {op : CmpOp} {r : R2} {rd : R2d} (ho : OpR X (compareOp op) r) (hr : Snd2 X.K r rd) (ha : VE X W a ta da) (hb : VE X W b tb db) (hm : behindInMarks op b = false) : VT X W (.Compare a [op] [b] pos) (tTest (tOp r ta tb)) (dTest (dOp rd da db)) :=
  ⟨pt_cmpR ho ha.run hb.run hm, snd_test (snd_op hr ha.snd hb.snd)⟩
theorem vt_lt (ha : VE X W a ta da) (hb : VE X W b tb db) : VT X W (.Compare a [.Lt] [b] pos) (tTest (tOp (rI0 fun i j => .bl (decide (i < j))) ta tb)) (dTest (dOp dLt da db)) := vt_cmp op_lt snd_iCmp ha hb (nomark _)
theorem vt_le (ha : VE X W a ta da) (hb : VE X W b tb db) : VT X W (.Compare a [.LtE] [b] pos) (tTest (tOp (rI0 fun i j => .bl (decide (i ≤ j))) ta tb)) (dTest (dOp dLe da db)) := vt_cmp op_le snd_iCmp ha hb (nomark _)
theorem vt_gt (ha : VE X W a ta da) (hb : VE X W b tb db) : VT X W (.Compare a [.Gt] [b] pos) (tTest (tOp (rI0 fun i j => .bl (decide (j < i))) ta tb)) (dTest (dOp dGt da db)) := vt_cmp op_gt snd_iCmp ha hb (nomark _)
theorem vt_ge (ha : VE X W a ta da) (hb : VE X W b tb db) : VT X W (.Compare a [.GtE] [b] pos) (tTest (tOp (rI0 fun i j => .bl (decide (j ≤ i))) ta tb)) (dTest (dOp dGe da db)) := vt_cmp op_ge snd_iCmp ha hb (nomark _)
theorem vt_eq (hu : X.A.units + 64 < cLine) (ha : VE X W a ta da) (hb : VE X W b tb db) : VT X W (.Compare a [.Eq] [b] pos) (tTest (tOp (o2 rEq (rEqD X.K)) ta tb)) (dTest (dOp dEq da db)) := vt_cmp (op_eqAll hu) snd_eqAll ha hb (nomark _)
theorem vt_ne (hu : X.A.units + 64 < cLine) (ha : VE X W a ta da) (hb : VE X W b tb db) : VT X W (.Compare a [.NotEq] [b] pos) (tTest (tOp (o2 rNe (rNeD X.K)) ta tb)) (dTest (dOp dNe da db)) := vt_cmp (op_neAll hu) snd_neAll ha hb (nomark _)
theorem vt_is (ha : VE X W a ta da) (hb : VE X W b tb db) : VT X W (.Compare a [.Is] [b] pos) (tTest (tOp (o2 rIsN rIsB) ta tb)) (dTest (dOp (dIsG id) da db)) := vt_cmp (OpR.o2 op_isN op_is_bl) snd_is ha hb (nomark _)
theorem vt_isnot (ha : VE X W a ta da) (hb : VE X W b tb db) : VT X W (.Compare a [.IsNot] [b] pos) (tTest (tOp (o2 rNotN rNotB) ta tb)) (dTest (dOp (dIsG (!·)) da db)) := vt_cmp (OpR.o2 op_notN op_isnot_bl) snd_isNot ha hb (nomark _)
theorem vt_in (hu : X.A.units + 1 < cLine) (ha : VE X W a ta da) (hb : VE X W b tb db) (hm : behindInMarks .In b = false := by rfl) : VT X W (.Compare a [.In] [b] pos) (tTest (tOp (rInAll X.K) ta tb)) (dTest (dOp (dInG id) da db)) := vt_cmp (op_inAll hu) snd_inAll ha hb hm
theorem vt_notin (hu : X.A.units + 1 < cLine) (ha : VE X W a ta da) (hb : VE X W b tb db) (hm : behindInMarks .NotIn b = false := by rfl) : VT X W (.Compare a [.NotIn] [b] pos) (tTest (tOp (rNotInAll X.K) ta tb)) (dTest (dOp (dInG (!·)) da db)) := vt_cmp (op_notInAll hu) snd_notInAll ha hb hm
theorem vt_chain {op op' : CmpOp} {r r' : R2} {rd rd' : R2d} (ho : OpR X (compareOp op) r) (hr : Snd2 X.K r rd) (ho' : OpR X (compareOp op') r') (hr' : Snd2 X.K r' rd') (ha : VE X W a ta da) (hb : VE X W b tb db) (hc : VE X W c tc dc)
    (hm : lastMarks [op, op'] [b, c] = false := by with_unfolding_all rfl) : VT X W (.Compare a [op, op'] [b, c] pos) (tTest (tChain r r' ta tb tc)) (dTest (dChain rd rd' da db dc)) := ⟨pt_chain ho ho' ha.run hb.run hc.run hm, snd_test (snd_chain hr hr' ha.snd hb.snd hc.snd)⟩
def dAndT (t u : TTd) : TTd := fun σ S Q E => t σ S (fun c S1 => if c = true then u σ S1 Q E else Q false S1) E
def dOrT (t u : TTd) : TTd := fun σ S Q E => t σ S (fun c S1 => if c = true then Q true S1 else u σ S1 Q E) E
def dNotT (t : TTd) : TTd := fun σ S Q E => t σ S (fun c S1 => Q (!c) S1) E
variable {tA tB' : TT} {dA dB : TTd} {rest : List Expr}
theorem vw_and1 (h : VT X W a tA dA) : VW X W (.BoolOp .And [a] pos) tA dA := ⟨pw_and1 h.run, h.snd⟩
theorem vw_or1 (h : VT X W a tA dA) : VW X W (.BoolOp .Or [a] pos) tA dA := ⟨pw_or1 h.run, h.snd⟩
theorem vw_and (ha : VT X W a tA dA) (hb : VW X W (.BoolOp .And (b :: rest) pos) tB' dB) : VW X W (.BoolOp .And (a :: b :: rest) pos) (tAnd tA tB') (dAndT dA dB) := by
  refine ⟨pw_and ha.run hb.run, fun {σV F H σ S Qd E Q} hs er h hq hx => ?_⟩
  refine ha.snd (Q := fun c H1 => if c = true then tB' σV H1 Q else Q false H1) hs er h (fun c H1 S1 g h1 => ?_) hx
  cases c with
  | true => exact hb.snd g.hst (er.mono g.same) h1 (fun b H2 S2 g2 h2 => hq b H2 S2 (g.trans g2) h2) (hx.next g)
  | false => exact hq _ H1 S1 g h1
theorem vw_or (ha : VT X W a tA dA) (hb : VW X W (.BoolOp .Or (b :: rest) pos) tB' dB) : VW X W (.BoolOp .Or (a :: b :: rest) pos) (tOr tA tB') (dOrT dA dB) := by
  refine ⟨pw_or ha.run hb.run, fun {σV F H σ S Qd E Q} hs er h hq hx => ?_⟩
  refine ha.snd (Q := fun c H1 => if c = true then Q true H1 else tB' σV H1 Q) hs er h (fun c H1 S1 g h1 => ?_) hx
  cases c with
  | true => exact hq _ H1 S1 g h1
  | false => exact hb.snd g.hst (er.mono g.same) h1 (fun b H2 S2 g2 h2 => hq b H2 S2 (g.trans g2) h2) (hx.next g)
theorem vt_w (h : VW X W a tA dA) : VT X W a tA dA := ⟨h.run.pt, h.snd⟩
theorem vt_not (h : VT X W a tA dA) : VT X W (.UnaryOp .Not a pos) (tNot tA) (dNotT dA) := ⟨pt_not h.run, fun {σV F H σ S Qd E Q} hs er hh hq hx => h.snd (Q := fun c H1 => Q (!c) H1) hs er hh (fun c H1 S1 g h1 => hq _ H1 S1 g h1) hx⟩
end
end VL

/-! VL: targets, what is walked, comprehensions. -/
namespace VL
open PySem PySem.Spec PyProof.Rows L2 RZ

/-! ### targets -/
abbrev TGd := D → Sd → Sto → (Sd → Sto → Prop) → Prop
abbrev TGsd := List D → Sd → Sto → (Sd → Sto → Prop) → Prop
def SndG (K : PySem.W.Frag) (vs : List Nat) (g : TG) (gd : TGd) : Prop := ∀ {v : V} {d : D} {σV : L2.St} {F H : Hp} {σ : Sd} {S : Sto} {Qd : Sd → Sto → Prop} {Q : L2.St → Hp → Prop},
  HSt K F H S → ER K (mask F S H) σV σ → Rep K (mask F S H) v d → gd d σ S Qd →
  (∀ σV' H' σ' S', Good K F H S H' S' → ER K (mask F S' H') σV' σ' → σV'.length = σV.length → (∀ i, i ∉ vs → σV'[i]? = σV[i]?) → Qd σ' S' → Q σV' H') → g v σV H Q
def SndGs (K : PySem.W.Frag) (vs : List Nat) (g : TGs) (gd : TGsd) : Prop := ∀ {xs : List V} {ds : List D} {σV : L2.St} {F H : Hp} {σ : Sd} {S : Sto} {Qd : Sd → Sto → Prop} {Q : L2.St → Hp → Prop},
  HSt K F H S → ER K (mask F S H) σV σ → Reps K (mask F S H) xs ds → gd ds σ S Qd →
  (∀ σV' H' σ' S', Good K F H S H' S' → ER K (mask F S' H') σV' σ' → σV'.length = σV.length → (∀ i, i ∉ vs → σV'[i]? = σV[i]?) → Qd σ' S' → Q σV' H') → g xs σV H Q
structure VG (X : Cx) (vs : List Nat) (e : Expr) (g : TG) (gd : TGd) : Prop where
  run : PG X e g
  snd : SndG X.K vs g gd
structure VGs (X : Cx) (vs : List Nat) (es : List Expr) (g : TGs) (gd : TGsd) : Prop where
  run : PGs X es g
  snd : SndGs X.K vs g gd
section
variable {X : Cx} {W : WX} {pos : Pos} {vs : List Nat}
def hName (i : Nat) : TGd := fun d σ S Q => Q (σ.set i (some d)) S
theorem vg_name {i : Nat} {x : Str} (hv : i ∈ vs) (h : PG X (.Name x pos) (gName i)) : VG X vs (.Name x pos) (gName i) (hName i) := ⟨h, fun {v d σV F H σ S Qd Q} hs er r hh hq =>
  hq _ H _ S (.refl hs) (er.set r) (List.length_set ..) (fun j hj => List.getElem?_set_ne (fun (z : i = j) => hj (by rw [← z]; exact hv))) hh⟩
def hNil : TGsd := fun ds σ S Q => match ds with
  | [] => Q σ S
  | _ => False
def hCons (t : TGd) (u : TGsd) : TGsd := fun ds σ S Q => match ds with
  | d :: r => t d σ S fun σ' S' => u r σ' S' Q
  | _ => False
theorem vgs_nil : VGs X vs [] gNil hNil := ⟨pgs_nil, fun {xs ds σV F H σ S Qd Q} hs er r hh hq => by
  unfold hNil at hh
  split at hh
  · cases r; exact ⟨rfl, hq _ H _ S (.refl hs) er rfl (fun _ _ => rfl) hh⟩
  · cases hh⟩
theorem vgs_cons {e : Expr} {es : List Expr} {t : TG} {u : TGs} {td : TGd} {ud : TGsd} (h1 : VG X vs e t td) (h2 : VGs X vs es u ud) (hs : (assignEach (e :: es) X.env).map (·.2) = assign e X.env :: (assignEach es X.env).map (·.2) := by rfl) :
    VGs X vs (e :: es) (gCons t u) (hCons td ud) := ⟨pgs_cons h1.run h2.run hs, fun {xs ds σV F H σ S Qd Q} hs er r hh hq => by
  unfold hCons at hh
  split at hh
  · cases r with
    | cons r1 r2 =>
      exact ⟨_, _, rfl, h1.snd hs er r1 hh fun σV1 H1 σ1 S1 g1 er1 l1 o1 hh1 => h2.snd g1.hst er1 (r2.mono g1.same) hh1 fun σV2 H2 σ2 S2 g2 er2 l2 o2 hh2 =>
        hq σV2 H2 σ2 S2 (g1.trans g2) er2 (l2.trans l1) (fun i hi => (o2 i hi).trans (o1 i hi)) hh2⟩
  · cases hh⟩
/-- a tuple, or a list, taken apart -/
def hTup (n : Nat) (t : TGsd) : TGd := fun d σ S Q => match vw S d with
  | .tup ds => ds.length = n ∧ t ds σ S Q
  | .lst ds => ds.length = n ∧ t ds σ S Q
  | _ => False
def gSeq (K : PySem.W.Frag) (n : Nat) (t : TGs) : TG := fun v σ H Q => gTup K n t v σ H Q ∨ gLst K n t v σ H Q
theorem pg_seq {es : List Expr} {k : Nat} {t : TGs} {n : Nat} (hc : X.calm = true) (h : PGs X es t)
    (hn : (assignEach es X.env).length = n := by rfl) (hst : (assignEach es X.env).findIdx? (·.1) = none := by rfl) : PG X (.Tuple es k pos) (gSeq X.K n t) :=
  ⟨fun pins s σ H v u Q I r hw => hw.elim ((pg_tup hc h hn hst).run pins s σ H v u Q I r) ((pg_lst hc h hn hst).run pins s σ H v u Q I r)⟩
theorem vg_tup {es : List Expr} {k : Nat} {t : TGs} {td : TGsd} {n : Nat} (hc : X.calm = true) (h : VGs X vs es t td)
    (hn : (assignEach es X.env).length = n := by rfl) (hst : (assignEach es X.env).findIdx? (·.1) = none := by rfl) : VG X vs (.Tuple es k pos) (gSeq X.K n t) (hTup n td) := ⟨pg_seq hc h.run hn hst, fun {v d σV F H σ S Qd Q} hs er r hh hq => by
  unfold hTup at hh
  split at hh
  · next ds e =>
    obtain ⟨_, a1, xs, rfl, h1, _, q1⟩ := see_tup r e
    exact .inl ⟨a1, xs, rfl, h1, by rw [q1.length]; exact hh.1, h.snd hs er q1 hh.2 hq⟩
  · next ds e =>
    obtain ⟨a1, xs, rfl, h1, q1⟩ := see_lst hs r e
    exact .inr ⟨a1, xs, rfl, h1, by rw [q1.length]; exact hh.1, h.snd hs er q1 hh.2 hq⟩
  · cases hh⟩
end

/-! ### what is walked -/
abbrev TId := Sd → Sto → (List D → Sto → Prop) → XD → Prop
/-- J yields the things ds, whatever else happens, as long as M stays -/
structure JR (K : PySem.W.Frag) (J : It) (ds : List D) (M : Hp) : Prop where
  go : ∀ (i : Nat) (F H : Hp) (S : Sto), HSt K F H S → Same M (mask F S H) → i < ds.length → J.go i H
  stop : ∀ (i : Nat) (F H : Hp) (S : Sto), HSt K F H S → Same M (mask F S H) → ds.length ≤ i → J.stop i H
  yld : ∀ (i : Nat) (F H : Hp) (S : Sto) (x : V) (H' : Hp) (d : D), HSt K F H S → Same M (mask F S H) → ds[i]? = some d → J.yld i H x H' → Good K F H S H' S ∧ Rep K (mask F S H') x d
def SndI (K : PySem.W.Frag) (W : WX) (wi : TI) (id : TId) : Prop := ∀ {σV : L2.St} {F H : Hp} {σ : Sd} {S : Sto} {Rd : List D → Sto → Prop} {E : XD} {R : It → Hp → Prop},
  HSt K F H S → ER K (mask F S H) σV σ → id σ S Rd E → (∀ J H' ds S', Good K F H S H' S' → JR K J ds (mask F S' H') → Rd ds S' → R J H') → LX K F W σV H S E → wi σV H R
structure VI (X : Cx) (W : WX) (tg iter : Expr) (wi : TI) (id : TId) : Prop where
  run : PI X tg iter wi
  snd : SndI X.K W wi id
section
variable {K : PySem.W.Frag} {M : Hp} {a b : Addr} {xs ys : List V} {ds es : List D}
theorem jr_list (h : SqL K M a xs) (r : Reps K M xs ds) : JR K (Itl K a) ds M where
  go := fun i F H S hs sm hi => by
    have hl := r.length
    exact ⟨xs, xs[i]'(by omega), mask_le.seq (sm.seq h), List.getElem?_eq_getElem _⟩
  stop := fun i F H S hs sm hi => ⟨xs, mask_le.seq (sm.seq h), by rw [r.length]; exact hi⟩
  yld := fun i F H S x H' d hs sm hd y => by
    obtain ⟨e, y⟩ := y
    subst e
    obtain ⟨v, hv, rv⟩ := r.get hd
    have e := y xs (mask_le.seq (sm.seq h))
    rw [hv] at e; cases e
    exact ⟨.refl hs, rv.mono sm⟩
theorem jr_tup (h : SqT K M a xs) (r : Reps K M xs ds) : JR K (Itt K a) ds M where
  go := fun i F H S hs sm hi => by
    have hl := r.length
    exact ⟨xs, xs[i]'(by omega), same_t mask_le (same_t sm h), List.getElem?_eq_getElem _⟩
  stop := fun i F H S hs sm hi => ⟨xs, same_t mask_le (same_t sm h), by rw [r.length]; exact hi⟩
  yld := fun i F H S x H' d hs sm hd y => by
    obtain ⟨e, y⟩ := y
    subst e
    obtain ⟨v, hv, rv⟩ := r.get hd
    have e := y xs (same_t mask_le (same_t sm h))
    rw [hv] at e; cases e
    exact ⟨.refl hs, rv.mono sm⟩
def signs (x : Str) : List D := x.cps.toList.map fun c => .str ⟨#[c]⟩
theorem jr_str (x : Str) : JR K (Its x) (signs x) M where
  go := fun i F H S hs sm hi => show i < x.cps.size by simpa [signs] using hi
  stop := fun i F H S hs sm hi => show x.cps.size ≤ i by simpa [signs] using hi
  yld := fun i F H S v H' d hs sm hd y => by
    obtain ⟨e, c, hc, ev⟩ := y
    subst e ev
    have z : (signs x)[i]? = some (.str ⟨#[c]⟩) := by
      unfold signs
      rw [List.getElem?_map, Array.getElem?_toList, hc]; rfl
    rw [hd] at z; cases z
    exact ⟨.refl hs, .str _⟩
def rangeD (lo : Int) (n : Nat) : List D := (List.range n).map fun (i : Nat) => .int (lo + (i : Int))
theorem jr_range (lo : Int) (n : Nat) : JR K (Itr lo n) (rangeD lo n) M where
  go := fun i F H S hs sm hi => show i < n by simpa [rangeD] using hi
  stop := fun i F H S hs sm hi => show n ≤ i by simpa [rangeD] using hi
  yld := fun i F H S v H' d hs sm hd y => by
    obtain ⟨e, ev⟩ := y
    subst e ev
    unfold rangeD at hd
    rw [List.getElem?_map] at hd
    obtain ⟨j, h1, h2⟩ := Option.map_eq_some_iff.mp hd
    have h3 := (List.getElem?_eq_some_iff.mp h1)
    obtain ⟨h4, h5⟩ := h3
    rw [List.getElem_range] at h5
    subst h5 h2
    exact ⟨.refl hs, .int _⟩
def zipD : List D → List D → List D
  | d :: ds, e :: es => .tup [d, e] :: zipD ds es
  | _, _ => []
theorem zipD_len : ∀ ds es : List D, (zipD ds es).length = min ds.length es.length
  | [], es => by simp [zipD]
  | d :: ds, [] => by simp [zipD]
  | d :: ds, e :: es => by simp [zipD, zipD_len ds es]
theorem zipD_get : ∀ {ds es : List D} {i : Nat} {d : D}, (zipD ds es)[i]? = some d → ∃ x y, ds[i]? = some x ∧ es[i]? = some y ∧ d = .tup [x, y]
  | [], es, i, d, h => by simp [zipD] at h
  | d :: ds, [], i, _, h => by simp [zipD] at h
  | d :: ds, e :: es, 0, _, h => by simp [zipD] at h; subst h; exact ⟨d, e, rfl, rfl, rfl⟩
  | d :: ds, e :: es, i + 1, f, h => by
    obtain ⟨x, y, h1, h2, h3⟩ := zipD_get (ds := ds) (es := es) (i := i) (d := f) (by simpa [zipD] using h)
    exact ⟨x, y, by simpa using h1, by simpa using h2, h3⟩
theorem rep_pair {F H : Hp} {S : Sto} {T : Addr} {x y : V} {d e : D} (hs : HSt K F H S) (hT : H T = none) (r1 : Rep K (mask F S H) x d) (r2 : Rep K (mask F S H) y e) :
    Good K F H S (upd H T (.tup [x, y])) S ∧ Rep K (mask F S (upd H T (.tup [x, y]))) (.ref T) (.tup [d, e]) := ⟨good_new hs hT, new_tup hs hT (.cons r1 (.cons r2 .nil))⟩
theorem jr_zip (h : SqL K M a xs) (r : Reps K M xs ds) (h' : SqL K M b ys) (r' : Reps K M ys es) : JR K (Itz K a b) (zipD ds es) M where
  go := fun i F H S hs sm hi => by
    have hl := r.length
    have hl' := r'.length
    rw [zipD_len] at hi
    exact ⟨xs, ys, xs[i]'(by omega), ys[i]'(by omega), mask_le.seq (sm.seq h), mask_le.seq (sm.seq h'), List.getElem?_eq_getElem _, List.getElem?_eq_getElem _⟩
  stop := fun i F H S hs sm hi => ⟨xs, ys, mask_le.seq (sm.seq h), mask_le.seq (sm.seq h'), by rw [r.length, r'.length]; rw [zipD_len] at hi; omega⟩
  yld := fun i F H S x H' d hs sm hd y => by
    obtain ⟨T, x1, y1, e1, e2, e3, y1', y2'⟩ := y
    subst e1 e3
    obtain ⟨d1, d2, k1, k2, k3⟩ := zipD_get hd
    subst k3
    obtain ⟨v, hv, rv⟩ := r.get k1
    obtain ⟨u, hu, ru⟩ := r'.get k2
    have q1 := y1' xs (mask_le.seq (sm.seq h))
    have q2 := y2' ys (mask_le.seq (sm.seq h'))
    rw [hv] at q1; cases q1
    rw [hu] at q2; cases q2
    exact rep_pair hs e2 (rv.mono sm) (ru.mono sm)
theorem jr_zipT (h : SqT K M a xs) (r : Reps K M xs ds) (h' : SqT K M b ys) (r' : Reps K M ys es) : JR K (ItzT K a b) (zipD ds es) M where
  go := fun i F H S hs sm hi => by
    have hl := r.length
    have hl' := r'.length
    rw [zipD_len] at hi
    exact ⟨xs, ys, xs[i]'(by omega), ys[i]'(by omega), same_t mask_le (same_t sm h), same_t mask_le (same_t sm h'), List.getElem?_eq_getElem _, List.getElem?_eq_getElem _⟩
  stop := fun i F H S hs sm hi => ⟨xs, ys, same_t mask_le (same_t sm h), same_t mask_le (same_t sm h'), by rw [r.length, r'.length]; rw [zipD_len] at hi; omega⟩
  yld := fun i F H S x H' d hs sm hd y => by
    obtain ⟨T, x1, y1, e1, e2, e3, y1', y2'⟩ := y
    subst e1 e3
    obtain ⟨d1, d2, k1, k2, k3⟩ := zipD_get hd
    subst k3
    obtain ⟨v, hv, rv⟩ := r.get k1
    obtain ⟨u, hu, ru⟩ := r'.get k2
    have q1 := y1' xs (same_t mask_le (same_t sm h))
    have q2 := y2' ys (same_t mask_le (same_t sm h'))
    rw [hv] at q1; cases q1
    rw [hu] at q2; cases q2
    exact rep_pair hs e2 (rv.mono sm) (ru.mono sm)
def enumD : Nat → List D → List D
  | _, [] => []
  | n, d :: ds => .tup [.int (n : Int), d] :: enumD (n + 1) ds
theorem enumD_len : ∀ (n : Nat) (ds : List D), (enumD n ds).length = ds.length
  | _, [] => rfl
  | n, d :: ds => congrArg Nat.succ (enumD_len (n + 1) ds)
theorem enumD_get : ∀ {n : Nat} {ds : List D} {i : Nat} {d : D}, (enumD n ds)[i]? = some d → ∃ x, ds[i]? = some x ∧ d = .tup [.int ((n + i : Nat) : Int), x]
  | n, [], i, d, h => by simp [enumD] at h
  | n, d :: ds, 0, _, h => by simp [enumD] at h; subst h; exact ⟨d, rfl, rfl⟩
  | n, d :: ds, i + 1, f, h => by
    obtain ⟨x, h1, h2⟩ := enumD_get (n := n + 1) (ds := ds) (i := i) (d := f) (by simpa [enumD] using h)
    exact ⟨x, by simpa using h1, by rw [h2, show n + 1 + i = n + (i + 1) by omega]⟩
theorem jr_enum (h : SqL K M a xs) (r : Reps K M xs ds) : JR K (Ite K a) (enumD 0 ds) M where
  go := fun i F H S hs sm hi => by
    have hl := r.length
    rw [enumD_len] at hi
    exact ⟨xs, xs[i]'(by omega), mask_le.seq (sm.seq h), List.getElem?_eq_getElem _⟩
  stop := fun i F H S hs sm hi => ⟨xs, mask_le.seq (sm.seq h), by rw [r.length]; rw [enumD_len] at hi; exact hi⟩
  yld := fun i F H S x H' d hs sm hd y => by
    obtain ⟨T, x1, e1, e2, e3, y1'⟩ := y
    subst e1 e3
    obtain ⟨d1, k1, k2⟩ := enumD_get hd
    rw [Nat.zero_add] at k2
    subst k2
    obtain ⟨v, hv, rv⟩ := r.get k1
    have q1 := y1' xs (mask_le.seq (sm.seq h))
    rw [hv] at q1; cases q1
    exact rep_pair hs e2 (.int _) (rv.mono sm)
end
section
variable {X : Cx} {W : WX} {tg e e2 : Expr} {te : TE} {de : TEd} {pos : Pos}
def iAny (K : PySem.W.Frag) (te : TE) : TI := fun σ H R => te σ H fun v H1 => (∃ a, v = .ref a ∧ (∃ xs, SqL K H1 a xs) ∧ R (Itl K a) H1) ∨ (∃ a, v = .ref a ∧ (∃ xs, SqT K H1 a xs) ∧ R (Itt K a) H1) ∨ ∃ x, v = .str x ∧ R (Its x) H1
theorem pi_any (he : PE X e te) : PI X tg e (iAny X.K te) := by
  refine ⟨fun pins s σ H R I h => thn (he.run pins s σ H _ I h) fun v s1 ⟨y, H1, I1, r1, q⟩ => ?_⟩
  rcases q with ⟨a, ey, ⟨xs, hq⟩, q⟩ | ⟨a, ey, ⟨xs, hq⟩, q⟩ | ⟨x, ey, q⟩
  · subst ey; cases r1
    obtain ⟨its, rv, p, hz⟩ := I1.list hq
    exact wpAny_pyIter_list p.isList (pi_one (tk := s1.toks) I1 _ (turn_list a _) ⟨_, Heap.get?_push_size _ rfl, rfl, rfl⟩ q)
  · subst ey; cases r1
    obtain ⟨its, rv, p, hz⟩ := I1.tuple hq
    exact wpAny_pyIter_tuple (show s1.heap.IsTuple a its.toArray from p) (pi_one (tk := s1.toks) I1 _ (turn_tuple a _) ⟨_, Heap.get?_push_size _ rfl, rfl, rfl⟩ q)
  · subst ey
    obtain ⟨t, rfl⟩ := r1
    cases ha : x.cps.all (· < 128)
    · exact wpAny_pyIter_wide ha (pi_one (tk := s1.toks) I1 _ (turn_str _ x t "str_iterator" (.inr rfl)) ⟨_, Heap.get?_push_size _ rfl, rfl, rfl⟩ q)
    · exact wpAny_pyIter_ascii ha (pi_one (tk := s1.toks) I1 _ (turn_str _ x t "str_ascii_iterator" (.inl rfl)) ⟨_, Heap.get?_push_size _ rfl, rfl, rfl⟩ q)
def nAny (de : TEd) : TId := fun σ S R E => de σ S (fun d S1 => match d with
  | .lst ds => R ds S1
  | .tup ds => R ds S1
  | .str x => R (signs x) S1
  | _ => False) E
theorem vi_any (he : VE X W e te de) : VI X W tg e (iAny X.K te) (nAny de) := ⟨pi_any he.run, fun {σV F H σ S Rd E R} hs er h hr hx =>
  he.snd hs er h (fun v H1 d S1 g r h1 => by
    split at h1
    · cases r with
      | lst k q => exact .inl ⟨_, rfl, ⟨_, sq_up k⟩, hr _ _ _ S1 g (jr_list k q) h1⟩
    · cases r with
      | tup k q => exact .inr (.inl ⟨_, rfl, ⟨_, st_up k⟩, hr _ _ _ S1 g (jr_tup k q) h1⟩)
    · cases r; exact .inr (.inr ⟨_, rfl, hr _ _ _ S1 g (jr_str _) h1⟩)
    · cases h1) hx⟩
def nRng1 (da : TAd) : TId := fun σ S R E => da σ S (fun ds S1 => match ds with
  | [.int j] => (-(2 ^ 62) ≤ j ∧ j < 2 ^ 62) ∧ R (rangeD 0 j.toNat) S1
  | _ => False) E
def nRng2 (da : TAd) : TId := fun σ S R E => da σ S (fun ds S1 => match ds with
  | [.int i, .int j] => (-(2 ^ 62) ≤ i ∧ i < 2 ^ 62 ∧ -(2 ^ 62) ≤ j ∧ j < 2 ^ 62) ∧ R (rangeD i (j - i).toNat) S1
  | _ => False) E
theorem vi_range1 {a : Expr} {ta : TA} {da : TAd} {p : Pos} (hm : X.mg "range" = none) (ha : VA X W [a] ta da) (hg : Gl X "range" := by rfl) (hs : starEach [a] X.env = [(false, eval a X.env)] := by rfl) :
    VI X W tg (.Call (.Name "range" p) [a] [] pos) (iRng1 ta) (nRng1 da) := ⟨pi_range1 hg hm ha.run hs, fun {σV F H σ S Rd E R} hs er h hr hx =>
  ha.snd hs er h (fun vs H1 ds S1 g r h1 => by
    split at h1
    · cases r with
      | cons r1 r2 => cases r1; cases r2; exact ⟨_, rfl, h1.1.1, h1.1.2, hr _ _ _ S1 g (jr_range _ _) h1.2⟩
    · cases h1) hx⟩
theorem vi_range2 {a b : Expr} {ta : TA} {da : TAd} {p : Pos} (hm : X.mg "range" = none) (ha : VA X W [a, b] ta da) (hg : Gl X "range" := by rfl) (hs : starEach [a, b] X.env = [(false, eval a X.env), (false, eval b X.env)] := by rfl) (hs2 : starEach [b] X.env = [(false, eval b X.env)] := by rfl) :
    VI X W tg (.Call (.Name "range" p) [a, b] [] pos) (iRng2 ta) (nRng2 da) := ⟨pi_range2 hg hm ha.run hs hs2, fun {σV F H σ S Rd E R} hs er h hr hx =>
  ha.snd hs er h (fun vs H1 ds S1 g r h1 => by
    split at h1
    · cases r with
      | cons r1 r2 => cases r2 with
        | cons r2 r3 => cases r1; cases r2; cases r3; exact ⟨_, _, rfl, h1.1, hr _ _ _ S1 g (jr_range _ _) h1.2⟩
    · cases h1) hx⟩
def nZip (da : TAd) : TId := fun σ S R E => da σ S (fun ds S1 => match ds with
  | [.lst xs, .lst ys] => R (zipD xs ys) S1
  | [.tup xs, .tup ys] => R (zipD xs ys) S1
  | _ => False) E
theorem vi_zip {elts : List Expr} {kk : Nat} {tpos p : Pos} {ta : TA} {da : TAd} (hm : X.mg "zip" = none) (ha : VA X W [e, e2] ta da) (hg : Gl X "zip" := by rfl)
    (hs : starEach [e, e2] X.env = (false, eval e X.env) :: starEach [e2] X.env := by rfl) (hpl : (backTo pos (starEach [e2] X.env)).any (·.1) = false := by rfl) :
    VI X W (.Tuple elts kk tpos) (.Call (.Name "zip" p) [e, e2] [] pos) (iZipA X.K ta) (nZip da) := ⟨pi_zipA hg hm ha.run hs hpl, fun {σV F H σ S Rd E R} hs er h hr hx =>
  ha.snd hs er h (fun vs H1 ds S1 g r h1 => by
    split at h1
    · cases r with
      | cons r1 r2 => cases r2 with
        | cons r2 r3 =>
          cases r3
          cases r1 with
          | lst k q => cases r2 with
            | lst k' q' => exact ⟨_, _, _, _, rfl, .inl ⟨sq_up k, sq_up k', hr _ _ _ S1 g (jr_zip k q k' q') h1⟩⟩
    · cases r with
      | cons r1 r2 => cases r2 with
        | cons r2 r3 =>
          cases r3
          cases r1 with
          | tup k q => cases r2 with
            | tup k' q' => exact ⟨_, _, _, _, rfl, .inr ⟨st_up k, st_up k', hr _ _ _ S1 g (jr_zipT k q k' q') h1⟩⟩
    · cases h1) hx⟩
def nEnum (da : TAd) : TId := fun σ S R E => da σ S (fun ds S1 => match ds with
  | [.lst xs] => R (enumD 0 xs) S1
  | _ => False) E
theorem vi_enum {elts : List Expr} {kk : Nat} {tpos p : Pos} {ta : TA} {da : TAd} (hm : X.mg "enumerate" = none) (ha : VA X W [e] ta da) (hg : Gl X "enumerate" := by rfl) (hs : starEach [e] X.env = [(false, eval e X.env)] := by rfl) :
    VI X W (.Tuple elts kk tpos) (.Call (.Name "enumerate" p) [e] [] pos) (iEnum X.K ta) (nEnum da) := ⟨pi_enum hg hm ha.run hs, fun {σV F H σ S Rd E R} hs er h hr hx =>
  ha.snd hs er h (fun vs H1 ds S1 g r h1 => by
    split at h1
    · cases r with
      | cons r1 r2 =>
        cases r2
        cases r1 with
        | lst k q => exact ⟨_, _, rfl, sq_up k, hr _ _ _ S1 g (jr_enum k q) h1⟩
    · cases h1) hx⟩
end
end VL

/-! VL: comprehensions. -/
namespace VL
open PySem PySem.Spec PyProof.Rows L2

def XF : XD := fun _ _ _ => False
def WF : WX := fun _ _ _ _ => False
theorem lxF {K : PySem.W.Frag} {F H : Hp} {σV : L2.St} {S : Sto} : LX K F WF σV H S XF := fun _ _ _ _ _ _ _ h => h
structure VTs (X : Cx) (W : WX) (ifs : List Expr) (t : TT) (td : TTd) : Prop where
  run : PTs X ifs t
  snd : SndT X.K W t td
section
variable {X : Cx} {W : WX} {pos : Pos}
def dYes : TTd := fun _ S Q _ => Q true S
theorem vts_nil : VTs X W [] tYes dYes := ⟨pts_nil, fun {σV F H σ S Qd E Q} hs er h hq hx => hq true H S (.refl hs) h⟩
theorem vts_one {c : Expr} {t : TT} {td : TTd} (h : VT X W c t td) : VTs X W [c] t td := ⟨pts_one h.run, h.snd⟩
end

/-! ### the block's names are wiped -/
def wipeD (σ : Sd) : List Nat → Sd
  | [] => σ
  | i :: r => (wipeD σ r).set i none
theorem wipe_get (σ : L2.St) : ∀ (vs : List Nat) (i : Nat), (wipe σ vs)[i]? = if i ∈ vs then (σ[i]?).map (fun _ => none) else σ[i]?
  | [], i => by simp [wipe]
  | j :: r, i => by
    show ((wipe σ r).set j none)[i]? = _
    have ih := wipe_get σ r i
    by_cases e : j = i
    · subst e
      rw [if_pos List.mem_cons_self]
      by_cases hl : j < σ.length
      · rw [List.getElem?_set_self (by rw [wipe_length]; exact hl), List.getElem?_eq_getElem hl]; rfl
      · rw [List.getElem?_eq_none_iff.mpr (by rw [List.length_set, wipe_length]; omega), List.getElem?_eq_none_iff.mpr (by omega)]; rfl
    · rw [List.getElem?_set_ne e, ih]
      by_cases h : i ∈ r
      · rw [if_pos h, if_pos (List.mem_cons_of_mem _ h)]
      · rw [if_neg h, if_neg (by rw [List.mem_cons]; exact fun z => z.elim (fun q => e q.symm) h)]
theorem wipe_eq {σ τ : L2.St} {vs : List Nat} (hl : τ.length = σ.length) (h : ∀ i, i ∉ vs → τ[i]? = (wipe σ vs)[i]?) : wipe τ vs = wipe σ vs := by
  refine List.ext_getElem? fun i => ?_
  by_cases e : i ∈ vs
  · rw [wipe_get, wipe_get, if_pos e, if_pos e]
    by_cases hi : i < σ.length
    · rw [List.getElem?_eq_getElem hi, List.getElem?_eq_getElem (by omega)]; rfl
    · rw [List.getElem?_eq_none_iff.mpr (by omega), List.getElem?_eq_none_iff.mpr (by omega)]
  · rw [wipe_get τ, if_neg e, h i e]
theorem er_wipe {K : PySem.W.Frag} {M : Hp} {σV : L2.St} {σ : Sd} (h : ER K M σV σ) : ∀ vs : List Nat, ER K M (wipe σV vs) (wipeD σ vs)
  | [] => h
  | i :: r => (er_wipe h r).setNone

/-! ### the side -/
section
variable {K : PySem.W.Frag} {F H : Hp} {S : Sto} {a : Addr} {u u' : HO}
theorem mask_side_chg : mask (upd F a u') S (upd H a u') = mask (upd F a u) S H := by
  funext b
  unfold mask
  by_cases e : b = a
  · subst e; rw [if_pos (.inr (by rw [upd_same]; rfl)), if_pos (.inr (by rw [upd_same]; rfl))]
  · rw [upd_ne e, upd_ne e, upd_ne e]
theorem hst_side_chg (h : HSt K (upd F a u) H S) : HSt K (upd F a u') (upd H a u') S := ⟨fun b o q => by
  have hb : b ≠ a := fun z => by
    subst z
    obtain ⟨_, e⟩ := h.side b u upd_same
    rw [q] at e; cases e
  rw [mask_side_chg (u := u), upd_ne hb]
  exact h.at_ b o q, fun b v q => by
  by_cases hb : b = a
  · subst hb
    rw [upd_same] at q ⊢
    exact ⟨q, (h.side b u upd_same).2⟩
  · rw [upd_ne hb] at q ⊢
    exact h.side b v (by rw [upd_ne hb]; exact q)⟩
theorem same_unside (h : F a = none) : Same (mask (upd F a u) S H) (mask F S H) := fun b v q => by
  obtain ⟨q1, q0, q2⟩ := mask_free q
  have hb : b ≠ a := fun z => by subst z; rw [upd_same] at q0; cases q0
  rw [upd_ne hb] at q0
  rw [mask_none q1 q0]; exact q2
theorem hst_unside (h : HSt K (upd F a u) H S) (hF : F a = none) : HSt K F H S := ⟨fun b o q => (h.at_ b o q).mono (same_unside hF), fun b v q => by
  have hb : b ≠ a := fun z => by subst z; rw [hF] at q; cases q
  exact h.side b v (by rw [upd_ne hb]; exact q)⟩
end

/-! ### one clause -/
def dLcL (gd : TGd) (dt : TTd) (de : TEd) (σ0 : Sd) (Q : List D → Sto → Prop) : List D → List D → Sto → Prop
  | [], acc, S => Q acc S
  | d :: ds, acc, S => gd d σ0 S fun σ1 S1 => dt σ1 S1 (fun b S2 => if b = true then de σ1 S2 (fun y S3 => dLcL gd dt de σ0 Q ds (acc ++ [y]) S3) XF else dLcL gd dt de σ0 Q ds acc S2) XF
def dLc (id : TId) (gd : TGd) (dt : TTd) (de : TEd) (vs : List Nat) : TEd := fun σ S Q E => id σ S (fun ds S1 => ds.length ≤ sizeLine ∧ dLcL gd dt de (wipeD σ vs) (fun acc S2 => Q (.lst acc) S2) ds [] S1) E
/-- .. a list that may change -/
def dLcM (id : TId) (gd : TGd) (dt : TTd) (de : TEd) (vs : List Nat) : TEd := fun σ S Q E => id σ S (fun ds S1 => ds.length ≤ sizeLine ∧ dLcL gd dt de (wipeD σ vs) (fun acc S2 => ∀ p, S2 p = none → Q (.ref p) (put S2 p (.lst acc))) ds [] S1) E
section
variable {X : Cx} {W : WX} {pos : Pos} {K : PySem.W.Frag} {wi : TI} {id : TId} {g : TG} {gd : TGd} {tt : TT} {dt : TTd} {te : TE} {de : TEd} {vs : List Nat}
/-- the loop's core: Qf is what the done list means -/
theorem lc_run {σV : L2.St} {F H1 : Hp} {σ : Sd} {S1 : Sto} {J : It} {ds : List D} {Q : VK} {Qf : List D → Sto → Prop} (hg : SndG K vs g gd) (ht : SndT K WF tt dt) (he : Snd K WF te de)
    (hs : HSt K F H1 S1) (er : ER K (mask F S1 H1) σV σ) (jr : JR K J ds (mask F S1 H1)) (hz : ds.length ≤ sizeLine) (h : dLcL gd dt de (wipeD σ vs) Qf ds [] S1)
    (fin : ∀ (Dp : Addr) (H : Hp) (S : Sto) (accV : List V) (acc : List D), H1 Dp = none → F Dp = none → S1 Dp = none → HSt K (upd F Dp (.lst accV)) H S → Same (mask F S1 H1) (mask (upd F Dp (.lst accV)) S H) → Reps K (mask (upd F Dp (.lst accV)) S H) accV acc → Qf acc S → Q (.ref Dp) H) :
    ∀ Dp, H1 Dp = none → ∃ Wv : Nat → Nat → Hp → Prop, (∃ m, Wv 0 m (upd H1 Dp (.lst []))) ∧ ∀ i m H, Wv i m H →
      (J.stop i H ∧ Q (.ref Dp) H) ∨ (J.go i H ∧ ∃ Nx : Hp → Prop, (∀ H', Nx H' → ∃ m', m' < m ∧ Wv (i + 1) m' H') ∧ ∀ x H', J.yld i H x H' → g x (wipe σV vs) H' fun σ2 H2 => wipe σ2 vs = wipe σV vs ∧ tt σ2 H2 fun b H3 =>
        if b = true then te σ2 H3 fun y H4 => ∃ acc, H4 Dp = some (.lst acc) ∧ acc.length < sizeLine ∧ Nx (upd H4 Dp (.lst (acc ++ [y]))) else Nx H3) := by
  intro Dp hD
  have fD := hs.freeF hD
  have sD := hs.free hD
  -- what holds ahead of the i-th turn
  let Iv : Nat → Hp → Prop := fun i H => ∃ (S : Sto) (accV : List V) (acc : List D), HSt K (upd F Dp (.lst accV)) H S ∧ Same (mask F S1 H1) (mask (upd F Dp (.lst accV)) S H) ∧ Reps K (mask (upd F Dp (.lst accV)) S H) accV acc ∧ acc.length ≤ i ∧ dLcL gd dt de (wipeD σ vs) Qf (ds.drop i) acc S
  refine ⟨fun i m H => m = ds.length - i ∧ i ≤ ds.length ∧ Iv i H, ⟨ds.length, by simp, Nat.zero_le _, S1, [], [], hst_beside hs hD, mask_beside hs hD, .nil, Nat.le_refl _, by simpa using h⟩, ?_⟩
  rintro i m H ⟨rfl, hi, S, accV, acc, hh, sm, ra, la, hl⟩
  by_cases hlt : i < ds.length
  · have ed : ds.drop i = ds[i] :: ds.drop (i + 1) := List.drop_eq_getElem_cons hlt
    rw [ed] at hl
    refine .inr ⟨jr.go i _ H S hh sm hlt, Iv (i + 1), fun H' p' => ⟨ds.length - (i + 1), by omega, rfl, hlt, p'⟩, fun x H' y => ?_⟩
    obtain ⟨g1, rx⟩ := jr.yld i _ H S x H' ds[i] hh sm (List.getElem?_eq_getElem hlt) y
    refine hg g1.hst (((er_wipe er vs).mono sm).mono g1.same) rx hl fun σ2 H2 σd2 S2 g2 er2 l2 o2 h2 => ⟨wipe_eq (by rw [l2, wipe_length]) o2, ?_⟩
    have g12 := g1.trans g2
    refine ht g2.hst er2 h2 (fun b H3 S3 g3 h3 => ?_) lxF
    have g13 := g12.trans g3
    cases b with
    | false => exact ⟨S3, accV, acc, g3.hst, sm.trans g13.same, ra.mono g13.same, Nat.le_succ_of_le la, h3⟩
    | true =>
      refine he g3.hst (er2.mono g3.same) h3 (fun yv H4 yd S4 g4 r4 h4 => ?_) lxF
      have g14 := g13.trans g4
      have e4 := (g4.hst.side Dp _ upd_same).1
      have la' : accV.length < sizeLine := by rw [ra.length]; omega
      refine ⟨accV, e4, la', S4, accV ++ [yv], acc ++ [yd], hst_side_chg g4.hst, ?_, ?_, by rw [List.length_append, List.length_singleton]; omega, h4⟩
      · rw [mask_side_chg (u := .lst accV)]; exact sm.trans g14.same
      · rw [mask_side_chg (u := .lst accV)]; exact (ra.mono g14.same).append (.cons r4 .nil)
  · have e : i = ds.length := by omega
    subst e
    rw [List.drop_of_length_le (Nat.le_refl _)] at hl
    exact .inl ⟨jr.stop _ _ H S hh sm (Nat.le_refl _), fin Dp H S accV acc hD fD sD hh sm ra hl⟩
theorem snd_lc (hi : SndI K W wi id) (hg : SndG K vs g gd) (ht : SndT K WF tt dt) (he : Snd K WF te de) : Snd K W (tLc wi g tt te vs) (dLc id gd dt de vs) := fun {σV F H σ S Qd E Q} hs er h hq hx => by
  refine hi hs er h (fun J H1 ds S1 g1 jr ⟨hz, h1⟩ => ?_) hx
  refine lc_run hg ht he g1.hst (er.mono g1.same) jr hz h1 fun Dp H2 S2 accV acc hD fD sD hh sm ra h2 => ?_
  have e2 := (hh.side Dp _ upd_same).1
  have s2 := (hh.side Dp _ upd_same).2
  have g2 : Good K F H S H2 S2 := ⟨hst_unside hh fD, g1.same.trans (sm.trans (same_unside fD))⟩
  exact hq _ H2 _ S2 g2 (.lst (SqL.of (by rw [mask_none s2 fD]; exact e2)) (ra.mono (same_unside fD))) h2
theorem snd_lcM (hi : SndI K W wi id) (hg : SndG K vs g gd) (ht : SndT K WF tt dt) (he : Snd K WF te de) : Snd K W (tLc wi g tt te vs) (dLcM id gd dt de vs) := fun {σV F H σ S Qd E Q} hs er h hq hx => by
  refine hi hs er h (fun J H1 ds S1 g1 jr ⟨hz, h1⟩ => ?_) hx
  refine lc_run hg ht he g1.hst (er.mono g1.same) jr hz h1 fun Dp H2 S2 accV acc hD fD sD hh sm ra h2 => ?_
  have e2 := (hh.side Dp _ upd_same).1
  have s2 := (hh.side Dp _ upd_same).2
  have em : mask F (put S2 Dp (.lst acc)) H2 = mask (upd F Dp (.lst accV)) S2 H2 := by
    funext b
    unfold mask
    by_cases e : b = Dp
    · subst e; rw [if_pos (.inl (by rw [put_same]; rfl)), if_pos (.inr (by rw [upd_same]; rfl))]
    · rw [put_ne e, upd_ne e]
  have hh2 : HSt K F H2 (put S2 Dp (.lst acc)) := ⟨fun b o q => by
    rw [em]
    by_cases hb : b = Dp
    · subst hb
      rw [put_same] at q; cases q
      rw [e2]; exact ook_lst ra
    · rw [put_ne hb] at q
      exact hh.at_ b o q, fun b v q => by
    have hb : b ≠ Dp := fun z => by subst z; rw [fD] at q; cases q
    rw [put_ne hb]
    exact hh.side b v (by rw [upd_ne hb]; exact q)⟩
  exact hq _ H2 _ _ ⟨hh2, g1.same.trans (by rw [em]; exact sm)⟩ (.ref Dp) (h2 Dp s2)
abbrev noH : Hp := fun _ => none
theorem ve_lc {tg iter elt : Expr} {ifs : List Expr} {scope : Scope} {own : List (Str × Nat)} (hc : X.calm = true) (hN : X.N.Nodup) (hi : VI X W tg iter wi id) (ok : BlkOk X.N X.env.scope scope own)
    (hg : ∀ (s : Shared) (H : Hp) (C : Addr) (cl : List (Str × Addr)) (fp : List Addr), VG (X.blk s H scope (compEnvC scope cl C X.env) fp) (own.map (·.2)) tg g gd)
    (ht : ∀ (s : Shared) (H : Hp) (C : Addr) (cl : List (Str × Addr)) (fp : List Addr), VTs (X.blk s H scope (compEnvC scope cl C X.env) fp) WF ifs tt dt)
    (he : ∀ (s : Shared) (H : Hp) (C : Addr) (cl : List (Str × Addr)) (fp : List Addr), VE (X.blk s H scope (compEnvC scope cl C X.env) fp) WF elt te de) (hs : ∀ x, foldedSetIterable iter X.env x = pure x := by intro _; rfl) :
    VE X W (.ListComp elt [⟨tg, iter, ifs, 0⟩] scope pos) (tLc wi g tt te (own.map (·.2))) (dLc id gd dt de (own.map (·.2))) :=
  ⟨pe_lc hc hN hi.run ok (fun s H C cl fp => (hg s H C cl fp).run) (fun s H C cl fp => (ht s H C cl fp).run) (fun s H C cl fp => (he s H C cl fp).run) hs,
    snd_lc hi.snd (hg {} noH 0 [] []).snd (ht {} noH 0 [] []).snd (he {} noH 0 [] []).snd⟩
theorem ve_lcM {tg iter elt : Expr} {ifs : List Expr} {scope : Scope} {own : List (Str × Nat)} (hc : X.calm = true) (hN : X.N.Nodup) (hi : VI X W tg iter wi id) (ok : BlkOk X.N X.env.scope scope own)
    (hg : ∀ (s : Shared) (H : Hp) (C : Addr) (cl : List (Str × Addr)) (fp : List Addr), VG (X.blk s H scope (compEnvC scope cl C X.env) fp) (own.map (·.2)) tg g gd)
    (ht : ∀ (s : Shared) (H : Hp) (C : Addr) (cl : List (Str × Addr)) (fp : List Addr), VTs (X.blk s H scope (compEnvC scope cl C X.env) fp) WF ifs tt dt)
    (he : ∀ (s : Shared) (H : Hp) (C : Addr) (cl : List (Str × Addr)) (fp : List Addr), VE (X.blk s H scope (compEnvC scope cl C X.env) fp) WF elt te de) (hs : ∀ x, foldedSetIterable iter X.env x = pure x := by intro _; rfl) :
    VE X W (.ListComp elt [⟨tg, iter, ifs, 0⟩] scope pos) (tLc wi g tt te (own.map (·.2))) (dLcM id gd dt de (own.map (·.2))) :=
  ⟨pe_lc hc hN hi.run ok (fun s H C cl fp => (hg s H C cl fp).run) (fun s H C cl fp => (ht s H C cl fp).run) (fun s H C cl fp => (he s H C cl fp).run) hs,
    snd_lcM hi.snd (hg {} noH 0 [] []).snd (ht {} noH 0 [] []).snd (he {} noH 0 [] []).snd⟩

/-! ### two clauses -/
def dLcC (gd : TGd) (dt : TTd) (de : TEd) (σ0 : Sd) (Q : List D → Sto → Prop) : List D → List D → Sto → Prop
  | [], acc, S => Q acc S
  | d :: ds, acc, S => gd d σ0 S fun σ1 S1 => dt σ1 S1 (fun b S2 => if b = true then de σ1 S2 (fun y S3 => acc.length < sizeLine ∧ dLcC gd dt de σ0 Q ds (acc ++ [y]) S3) XF else dLcC gd dt de σ0 Q ds acc S2) XF
def dLc2L (gd : TGd) (dt : TTd) (id1 : TId) (gd1 : TGd) (dt1 : TTd) (de : TEd) (vs1 : List Nat) (σ0 : Sd) (Q : List D → Sto → Prop) : List D → List D → Sto → Prop
  | [], acc, S => Q acc S
  | d :: ds, acc, S => gd d σ0 S fun σ1 S1 => dt σ1 S1 (fun b S2 => if b = true then id1 σ1 S2 (fun es S3 => dLcC gd1 dt1 de (wipeD σ1 vs1) (fun acc' S4 => dLc2L gd dt id1 gd1 dt1 de vs1 σ0 Q ds acc' S4) es acc S3) XF
      else dLc2L gd dt id1 gd1 dt1 de vs1 σ0 Q ds acc S2) XF
def dLc2 (id : TId) (gd : TGd) (dt : TTd) (id1 : TId) (gd1 : TGd) (dt1 : TTd) (de : TEd) (vs vs1 : List Nat) : TEd := fun σ S Q E => id σ S (fun ds S1 => dLc2L gd dt id1 gd1 dt1 de vs1 (wipeD σ vs) (fun acc S2 => Q (.lst acc) S2) ds [] S1) E
variable {wi1 : TI} {id1 : TId} {g1 : TG} {gd1 : TGd} {tt1 : TT} {dt1 : TTd} {vs1 : List Nat}
theorem snd_lc2 (hi : SndI K W wi id) (hg : SndG K vs g gd) (ht : SndT K WF tt dt) (hi1 : SndI K WF wi1 id1) (hg1 : SndG K vs1 g1 gd1) (ht1 : SndT K WF tt1 dt1) (he : Snd K WF te de) :
    Snd K W (tLc2 wi g tt wi1 g1 tt1 te vs vs1) (dLc2 id gd dt id1 gd1 dt1 de vs vs1) := fun {σV F H0 σ S0 Qd E Q} hs0 er0 h0 hq hx => by
  refine hi hs0 er0 h0 (fun J H1 ds S1 g1' jr h => ?_) hx
  intro Dp hD
  have hs := g1'.hst
  have er := er0.mono g1'.same
  have fD := hs.freeF hD
  have sD := hs.free hD
  let Iv : Nat → Hp → Prop := fun i H => ∃ (S : Sto) (accV : List V) (acc : List D), HSt K (upd F Dp (.lst accV)) H S ∧ Same (mask F S1 H1) (mask (upd F Dp (.lst accV)) S H) ∧ Reps K (mask (upd F Dp (.lst accV)) S H) accV acc ∧
    dLc2L gd dt id1 gd1 dt1 de vs1 (wipeD σ vs) (fun acc S2 => Qd (.lst acc) S2) (ds.drop i) acc S
  refine ⟨fun i m H => m = ds.length - i ∧ i ≤ ds.length ∧ Iv i H, ⟨ds.length, by simp, Nat.zero_le _, S1, [], [], hst_beside hs hD, mask_beside hs hD, .nil, by simpa using h⟩, ?_⟩
  rintro i m H ⟨rfl, hi', S, accV, acc, hh, sm, ra, hl⟩
  by_cases hlt : i < ds.length
  · have ed : ds.drop i = ds[i] :: ds.drop (i + 1) := List.drop_eq_getElem_cons hlt
    rw [ed] at hl
    refine .inr ⟨jr.go i _ H S hh sm hlt, Iv (i + 1), fun H' p' => ⟨ds.length - (i + 1), by omega, rfl, hlt, p'⟩, fun x H' y => ?_⟩
    obtain ⟨g1, rx⟩ := jr.yld i _ H S x H' ds[i] hh sm (List.getElem?_eq_getElem hlt) y
    refine hg g1.hst (((er_wipe er vs).mono sm).mono g1.same) rx hl fun σ2 H2 σd2 S2 g2 er2 l2 o2 h2 => ⟨wipe_eq (by rw [l2, wipe_length]) o2, ?_⟩
    have g12 := g1.trans g2
    refine ht g2.hst er2 h2 (fun b H3 S3 g3 h3 => ?_) lxF
    have g13 := g12.trans g3
    cases b with
    | false => exact ⟨S3, accV, acc, g3.hst, sm.trans g13.same, ra.mono g13.same, h3⟩
    | true =>
      have er3 := er2.mono g3.same
      refine hi1 g3.hst er3 h3 (fun J1 H4 es S4 g4 jr1 h4 => ?_) lxF
      have g14 := g13.trans g4
      have er4 := er3.mono g4.same
      -- the second source's own loop
      let Iw : Nat → Hp → Prop := fun j H5 => ∃ (S5 : Sto) (acc5V : List V) (acc5 : List D), HSt K (upd F Dp (.lst acc5V)) H5 S5 ∧ Same (mask (upd F Dp (.lst accV)) S4 H4) (mask (upd F Dp (.lst acc5V)) S5 H5) ∧ Reps K (mask (upd F Dp (.lst acc5V)) S5 H5) acc5V acc5 ∧
        dLcC gd1 dt1 de (wipeD σd2 vs1) (fun acc' S6 => dLc2L gd dt id1 gd1 dt1 de vs1 (wipeD σ vs) (fun acc S2 => Qd (.lst acc) S2) (ds.drop (i + 1)) acc' S6) (es.drop j) acc5 S5
      refine ⟨fun j m H5 => m = es.length - j ∧ j ≤ es.length ∧ Iw j H5, ⟨es.length, by simp, Nat.zero_le _, S4, accV, acc, g4.hst, Same.refl _, ra.mono g14.same, by simpa using h4⟩, ?_⟩
      rintro j m H5 ⟨rfl, hj, S5, acc5V, acc5, hh5, sm5, ra5, hl5⟩
      by_cases hjt : j < es.length
      · have ee : es.drop j = es[j] :: es.drop (j + 1) := List.drop_eq_getElem_cons hjt
        rw [ee] at hl5
        have hh5' : HSt K (upd F Dp (.lst acc5V)) H5 S5 := hh5
        refine .inr ⟨jr1.go j _ H5 S5 hh5 sm5 hjt, Iw (j + 1), fun H' p' => ⟨es.length - (j + 1), by omega, rfl, hjt, p'⟩, fun x5 H6 y5 => ?_⟩
        obtain ⟨k1, rx5⟩ := jr1.yld j _ H5 S5 x5 H6 es[j] hh5 sm5 (List.getElem?_eq_getElem hjt) y5
        refine hg1 k1.hst (((er_wipe er4 vs1).mono sm5).mono k1.same) rx5 hl5 fun σ7 H7 σd7 S7 k2 er7 l7 o7 h7 => ⟨wipe_eq (by rw [l7, wipe_length]) o7, ?_⟩
        have k12 := k1.trans k2
        refine ht1 k2.hst er7 h7 (fun b H8 S8 k3 h8 => ?_) lxF
        have k13 := k12.trans k3
        cases b with
        | false => exact ⟨S8, acc5V, acc5, k3.hst, sm5.trans k13.same, ra5.mono k13.same, h8⟩
        | true =>
          refine he k3.hst (er7.mono k3.same) h8 (fun yv H9 yd S9 k4 r9 h9 => ?_) lxF
          have k14 := k13.trans k4
          have e9 := (k4.hst.side Dp _ upd_same).1
          refine ⟨acc5V, e9, by rw [ra5.length]; exact h9.1, S9, acc5V ++ [yv], acc5 ++ [yd], hst_side_chg k4.hst, ?_, ?_, h9.2⟩
          · rw [mask_side_chg (u := .lst acc5V)]; exact sm5.trans k14.same
          · rw [mask_side_chg (u := .lst acc5V)]; exact (ra5.mono k14.same).append (.cons r9 .nil)
      · have e : j = es.length := by omega
        subst e
        rw [List.drop_of_length_le (Nat.le_refl _)] at hl5
        exact .inl ⟨jr1.stop _ _ H5 S5 hh5 sm5 (Nat.le_refl _), S5, acc5V, acc5, hh5, (sm.trans g14.same).trans sm5, ra5, hl5⟩
  · have e : i = ds.length := by omega
    subst e
    rw [List.drop_of_length_le (Nat.le_refl _)] at hl
    have e2 := (hh.side Dp _ upd_same).1
    have s2 := (hh.side Dp _ upd_same).2
    have g2 : Good K F H0 S0 H S := ⟨hst_unside hh fD, g1'.same.trans (sm.trans (same_unside fD))⟩
    exact .inl ⟨jr.stop _ _ H S hh sm (Nat.le_refl _), hq _ H _ S g2 (.lst (SqL.of (by rw [mask_none s2 fD]; exact e2)) (ra.mono (same_unside fD))) hl⟩
end
end VL

/-! VL: statements. -/
namespace VL
open PySem PySem.Spec PyProof.Rows L2

section
variable {X : Cx} {W : WX} {pos : Pos} {wi wi1 : TI} {id id1 : TId} {g g1 : TG} {gd gd1 : TGd} {tt tt1 : TT} {dt dt1 : TTd} {te : TE} {de : TEd} {vs1 : List Nat}
theorem ve_lc2 {tg iter elt tg1 iter1 : Expr} {ifs ifs1 : List Expr} {scope : Scope} {own : List (Str × Nat)} (hc : X.calm = true) (hN : X.N.Nodup) (hi : VI X W tg iter wi id) (ok : BlkOk X.N X.env.scope scope own) (hv : ∀ i ∈ vs1, i ∈ own.map (·.2))
    (hg : ∀ (s : Shared) (H : Hp) (C : Addr) (cl : List (Str × Addr)) (fp : List Addr), VG (X.blk s H scope (compEnvC scope cl C X.env) fp) (own.map (·.2)) tg g gd)
    (ht : ∀ (s : Shared) (H : Hp) (C : Addr) (cl : List (Str × Addr)) (fp : List Addr), VTs (X.blk s H scope (compEnvC scope cl C X.env) fp) WF ifs tt dt)
    (hi1 : ∀ (s : Shared) (H : Hp) (C : Addr) (cl : List (Str × Addr)) (fp : List Addr), VI (X.blk s H scope (compEnvC scope cl C X.env) fp) WF tg1 iter1 wi1 id1)
    (hg1 : ∀ (s : Shared) (H : Hp) (C : Addr) (cl : List (Str × Addr)) (fp : List Addr), VG (X.blk s H scope (compEnvC scope cl C X.env) fp) vs1 tg1 g1 gd1)
    (ht1 : ∀ (s : Shared) (H : Hp) (C : Addr) (cl : List (Str × Addr)) (fp : List Addr), VTs (X.blk s H scope (compEnvC scope cl C X.env) fp) WF ifs1 tt1 dt1)
    (he : ∀ (s : Shared) (H : Hp) (C : Addr) (cl : List (Str × Addr)) (fp : List Addr), VE (X.blk s H scope (compEnvC scope cl C X.env) fp) WF elt te de) (hs : ∀ x, foldedSetIterable iter X.env x = pure x := by intro _; rfl) (hs1 : ∀ env x, foldedSetIterable iter1 env x = pure x := by intro _ _; rfl) :
    VE X W (.ListComp elt [⟨tg, iter, ifs, 0⟩, ⟨tg1, iter1, ifs1, 0⟩] scope pos) (tLc2 wi g tt wi1 g1 tt1 te (own.map (·.2)) vs1) (dLc2 id gd dt id1 gd1 dt1 de (own.map (·.2)) vs1) :=
  ⟨pe_lc2 hc hN hi.run ok hv (fun s H C cl fp => (hg s H C cl fp).run) (fun s H C cl fp => (ht s H C cl fp).run) (fun s H C cl fp => (hi1 s H C cl fp).run) (fun s H C cl fp => (hg1 s H C cl fp).run) (fun s H C cl fp => (ht1 s H C cl fp).run) (fun s H C cl fp => (he s H C cl fp).run) hs hs1,
    snd_lc2 hi.snd (hg {} noH 0 [] []).snd (ht {} noH 0 [] []).snd (hi1 {} noH 0 [] []).snd (hg1 {} noH 0 [] []).snd (ht1 {} noH 0 [] []).snd (he {} noH 0 [] []).snd⟩
end

/-! ### the judgement -/
structure EndsD where
  nx : Sd → Sto → Prop
  rt : QD
  bk : Sd → Sto → Prop := fun _ _ => False
  ct : Sd → Sto → Prop := fun _ _ => False
  ex : Sd → XD := fun _ _ _ _ => False
abbrev TSd := EndsD → Sd → Sto → Prop
abbrev LN (K : PySem.W.Frag) (F H : Hp) (S : Sto) (nd : Sd → Sto → Prop) (n : L2.St → Hp → Prop) : Prop := ∀ σV' H' σ' S', Good K F H S H' S' → ER K (mask F S' H') σV' σ' → nd σ' S' → n σV' H'
structure LS (K : PySem.W.Frag) (F : Hp) (W : WX) (H : Hp) (S : Sto) (Dd : EndsD) (D : Ends) : Prop where
  nx : LN K F H S Dd.nx D.nx
  rt : LQ K F H S Dd.rt D.rt
  bk : LN K F H S Dd.bk D.bk
  ct : LN K F H S Dd.ct D.ct
  ex : ∀ σV' H' σ' S', Good K F H S H' S' → ER K (mask F S' H') σV' σ' → LX K F W σV' H' S' (Dd.ex σ')
theorem LN.next {K : PySem.W.Frag} {F H H1 : Hp} {S S1 : Sto} {nd : Sd → Sto → Prop} {n : L2.St → Hp → Prop} (h : LN K F H S nd n) (g : Good K F H S H1 S1) : LN K F H1 S1 nd n := fun a b c d g' => h a b c d (g.trans g')
theorem LS.next {K : PySem.W.Frag} {F H H1 : Hp} {W : WX} {S S1 : Sto} {Dd : EndsD} {D : Ends} (h : LS K F W H S Dd D) (g : Good K F H S H1 S1) : LS K F W H1 S1 Dd D :=
  ⟨LN.next h.nx g, h.rt.next g, LN.next h.bk g, LN.next h.ct g, fun a b c d g' => h.ex a b c d (g.trans g')⟩
theorem LS.exs {K : PySem.W.Frag} {F H : Hp} {W : WX} {σV : L2.St} {σ : Sd} {S : Sto} {Dd : EndsD} {D : Ends} (h : LS K F W H S Dd D) (hs : HSt K F H S) (er : ER K (mask F S H) σV σ) : LX K F W σV H S (Dd.ex σ) := h.ex σV H σ S (.refl hs) er
def SndS (K : PySem.W.Frag) (W : WX) (t : TS) (td : TSd) : Prop := ∀ {σV : L2.St} {F H : Hp} {σ : Sd} {S : Sto} {Dd : EndsD} {D : Ends},
  HSt K F H S → ER K (mask F S H) σV σ → td Dd σ S → LS K F W H S Dd D → t D σV H
structure VS (X : Cx) (W : WX) (st : Stmt) (t : TS) (td : TSd) : Prop where
  run : PS X st t
  snd : SndS X.K W t td
structure VSs (X : Cx) (W : WX) (st : List Stmt) (t : TS) (td : TSd) : Prop where
  run : PSs X st t
  snd : SndS X.K W t td
section
variable {X : Cx} {W : WX} {pos : Pos} {st : Stmt} {sts : List Stmt} {t u : TS} {td ud : TSd} {e a b o i : Expr} {te ta tb to ti : TE} {de da db d0 di : TEd} {g : TG} {gd : TGd}
def dNext : TSd := fun D σ S => D.nx σ S
def dSeq (t u : TSd) : TSd := fun D σ S => t { D with nx := u D } σ S
def dNever : TSd := fun _ _ _ => False
theorem snd_next : SndS X.K W tNext dNext := fun {σV F H σ S Dd D} hs er h l => l.nx _ H _ S (.refl hs) er h
theorem vss_nil : VSs X W [] tNext dNext := ⟨pss_nil, snd_next⟩
theorem vss_cons (h1 : VS X W st t td) (h2 : VSs X W sts u ud) : VSs X W (st :: sts) (tSeq t u) (dSeq td ud) := ⟨pss_cons h1.run h2.run, fun {σV F H σ S Dd D} hs er h l =>
  h1.snd (D := { D with nx := u D }) hs er h ⟨fun σV' H' σ' S' g er' h' => h2.snd g.hst er' h' (l.next g), l.rt, l.bk, l.ct, l.ex⟩⟩
theorem vss_one (h : VS X W st t td) : VSs X W [st] t td := ⟨pss_one h.run, h.snd⟩
theorem vs_pass : VS X W (.Pass pos) tNext dNext := ⟨ps_pass, snd_next⟩
theorem vs_doc {x j p p'} : VS X W (.Expr (.Constant (.str x) j p) p') tNext dNext := ⟨ps_doc, snd_next⟩
theorem vs_never : VS X W st tNever dNever := ⟨ps_never, fun {σV F H σ S Dd D} hs er h l => h.elim⟩
theorem vss_never : VSs X W sts tNever dNever := ⟨pss_never, fun {σV F H σ S Dd D} hs er h l => h.elim⟩
def dBreak : TSd := fun D σ S => D.bk σ S
def dCont : TSd := fun D σ S => D.ct σ S
theorem vs_break : VS X W (.Break pos) tBreak dBreak := ⟨ps_break, fun {σV F H σ S Dd D} hs er h l => l.bk _ H _ S (.refl hs) er h⟩
theorem vs_continue : VS X W (.Continue pos) tCont dCont := ⟨ps_continue, fun {σV F H σ S Dd D} hs er h l => l.ct _ H _ S (.refl hs) er h⟩
def dDrop (de : TEd) : TSd := fun D σ S => de σ S (fun _ S1 => D.nx σ S1) (D.ex σ)
theorem vs_expr (he : VE X W e te de) (hs : swapsWith e none pos.line X.env = pure false := by rfl) : VS X W (.Expr e pos) (tDrop te) (dDrop de) := ⟨ps_expr he.run hs, fun {σV F H σ S Dd D} hs er h l =>
  he.snd hs er h (fun v H1 d S1 g r h1 => l.nx _ H1 _ S1 g (er.mono g.same) h1) (l.exs hs er)⟩
def dRet (de : TEd) : TSd := fun D σ S => de σ S D.rt (D.ex σ)
theorem vs_ret (he : VE X W e te de) : VS X W (.Return (some e) pos) (tRet te) (dRet de) := ⟨ps_ret he.run, fun {σV F H σ S Dd D} hs er h l => he.snd hs er h l.rt (l.exs hs er)⟩
def dRetN : TSd := fun D _ S => D.rt .non S
theorem vs_retN : VS X W (.Return none pos) tRetN dRetN := ⟨ps_retN, fun {σV F H σ S Dd D} hs er h l => l.rt _ H _ S (.refl hs) .non h⟩
def dIf (c : TTd) (t u : TSd) : TSd := fun D σ S => c σ S (fun b S1 => if b = true then t D σ S1 else u D σ S1) (D.ex σ)
theorem vs_if {c : Expr} {A B : List Stmt} {tc : TT} {dc : TTd} (hc : VT X W c tc dc) (ha : VSs X W A t td) (hb : VSs X W B u ud) : VS X W (.If c A B pos) (tIfS tc t u) (dIf dc td ud) := ⟨ps_if hc.run ha.run hb.run, fun {σV F H σ S Dd D} hs er h l =>
  hc.snd (Q := fun b H1 => if b = true then t D σV H1 else u D σV H1) hs er h (fun b H1 S1 g h1 => by
    cases b with
    | true => exact ha.snd g.hst (er.mono g.same) h1 (l.next g)
    | false => exact hb.snd g.hst (er.mono g.same) h1 (l.next g)) (l.exs hs er)⟩
/-- target = e -/
def dAsg (de : TEd) (gd : TGd) : TSd := fun D σ S => de σ S (fun d S1 => gd d σ S1 D.nx) (D.ex σ)
theorem snd_asg {vs : List Nat} (he : Snd X.K W te de) (hg : SndG X.K vs g gd) : SndS X.K W (tAsg te g) (dAsg de gd) := fun {σV F H σ S Dd D} hs er h l =>
  he hs er h (fun v H1 d S1 g1 r h1 => hg g1.hst (er.mono g1.same) r h1 fun σV' H' σ' S' g2 er' _ _ h2 => l.nx _ H' _ S' (g1.trans g2) er' h2) (l.exs hs er)
theorem vs_asg {tg : Expr} {vs : List Nat} (he : VE X W e te de) (hg : VG X vs tg g gd) (hs : swapsWithSole [tg] e pos.line X.env = pure false := by rfl) (hw : swappedStores [tg] e X.env = pure none := by rfl)
    (h1 : (assignEach [tg] X.env).map (·.2) = [assign tg X.env] := by rfl) : VS X W (.Assign [tg] e pos) (tAsg te g) (dAsg de gd) := ⟨ps_asg he.run hg.run hs hw h1, snd_asg he.snd hg.snd⟩
theorem snd_name {j : Nat} : SndG X.K [j] (gName j) (hName j) := fun {v d σV F H σ S Qd Q} hs er r hh hq =>
  hq _ H _ S (.refl hs) (er.set r) (List.length_set ..) (fun k hk => List.getElem?_set_ne (fun (z : j = k) => hk (by rw [← z]; exact List.mem_singleton.mpr rfl))) hh
/-- x = e, by the rule that fits (ps_set, ps_setLc) -/
theorem vs_set {j : Nat} (h : PS X st (tAsg te (gName j))) (he : Snd X.K W te de) : VS X W st (tAsg te (gName j)) (dAsg de (hName j)) := ⟨h, snd_asg he snd_name⟩
/-- a, b = x, y -/
def dPar (j k : Nat) (da : TAd) : TSd := fun D σ S => da σ S (fun ds S1 => match ds with
  | [x, y] => D.nx ((σ.set j (some x)).set k (some y)) S1
  | _ => False) (D.ex σ)
theorem vs_par {j k : Nat} {ta : TA} {da : TAd} (h : PS X st (tPar j k ta)) (ha : SndA X.K W ta da) : VS X W st (tPar j k ta) (dPar j k da) := ⟨h, fun {σV F H σ S Dd D} hs er h l =>
  ha hs er h (fun vs H1 ds S1 g r h1 => by
    split at h1
    · cases r with
      | cons r1 r2 => cases r2 with
        | cons r2 r3 => cases r3; exact ⟨_, _, rfl, l.nx _ H1 _ S1 g (((er.mono g.same).set r1).set r2) h1⟩
    · cases h1) (l.exs hs er)⟩
/-- x += e (whole numbers) -/
def dAug (j : Nat) (f : Int → Int → Int) (de : TEd) : TSd := fun D σ S => match σ[j]? with
  | some (some (.int i)) => de σ S (fun d S1 => match d with
    | .int k => D.nx (σ.set j (some (.int (f i k)))) S1
    | _ => False) (D.ex σ)
  | _ => False
theorem vs_aug {j : Nat} {f : Int → Int → Int} (h : PS X st (tAug j te (ipI f))) (he : Snd X.K W te de) : VS X W st (tAug j te (ipI f)) (dAug j f de) := ⟨h, fun {σV F H σ S Dd D} hs er h l => by
  unfold dAug at h
  split at h
  · next i ei =>
    obtain ⟨v, e1, r1⟩ := er.at_ j _ ei
    cases r1
    refine ⟨_, e1, he hs er h (fun v H1 d S1 g r h1 => ?_) (l.exs hs er)⟩
    split at h1
    · cases r; exact ⟨_, _, rfl, rfl, l.nx _ H1 _ S1 g ((er.mono g.same).set (.int _)) h1⟩
    · cases h1
  · cases h⟩

/-! ### stores into a list, a dict -/
def putKD (kds : List (Key × D)) (k : Key) (d : D) : List (Key × D) := if (kds.any fun kv => decide (kv.1 = k)) = true then kds.map (fun kv => if kv.1 = k then (kv.1, d) else kv) else kds ++ [(k, d)]
section
variable {K : PySem.W.Frag} {M : Hp}
theorem repK_any {k : Key} : ∀ {kvs : List (Key × V)} {kds : List (Key × D)}, RepK K M kvs kds → (kvs.any fun kv => decide (kv.1 = k)) = (kds.any fun kv => decide (kv.1 = k))
  | _, _, .nil => rfl
  | _, _, .cons h r => by rw [List.any_cons, List.any_cons, repK_any r]
theorem repK_map {k : Key} {v : V} {d : D} (h : Rep K M v d) : ∀ {kvs : List (Key × V)} {kds : List (Key × D)}, RepK K M kvs kds → RepK K M (kvs.map fun kv => if kv.1 = k then (kv.1, v) else kv) (kds.map fun kv => if kv.1 = k then (kv.1, d) else kv)
  | _, _, .nil => .nil
  | _, _, .cons (k := k') q r => by
    rw [List.map_cons, List.map_cons]
    by_cases e : k' = k
    · simp only [e, if_true]; exact .cons h (repK_map h r)
    · simp only [e, if_false]; exact .cons q (repK_map h r)
theorem repK_app {k : Key} {v : V} {d : D} (h : Rep K M v d) : ∀ {kvs : List (Key × V)} {kds : List (Key × D)}, RepK K M kvs kds → RepK K M (kvs ++ [(k, v)]) (kds ++ [(k, d)])
  | _, _, .nil => .cons h .nil
  | _, _, .cons q r => .cons q (repK_app h r)
theorem repK_put {k : Key} {v : V} {d : D} (h : Rep K M v d) {kvs : List (Key × V)} {kds : List (Key × D)} (r : RepK K M kvs kds) : RepK K M (putK kvs k v) (putKD kds k d) := by
  unfold putK putKD
  rw [repK_any r]
  split
  · exact repK_map h r
  · exact repK_app h r
end
def dSetI (de d0 di : TEd) : TSd := fun D σ S => de σ S (fun v S1 => d0 σ S1 (fun x S2 => di σ S2 (fun y S3 => match x with
  | .ref p => match S3 p with
    | some (.lst ds) => match y with
      | .int k => match ixN ds.length k with
        | some j => D.nx σ (put S3 p (.lst (ds.set j v)))
        | none => False
      | _ => False
    | some (.dct kds) => match keyD y with
      | some k => kds.length < sizeLine ∧ D.nx σ (put S3 p (.dct (putKD kds k v)))
      | none => False
    | _ => False
  | _ => False) (D.ex σ)) (D.ex σ)) (D.ex σ)
def rSetD : V → V → V → Hp → (Hp → Prop) → Prop := fun x y v H Q => ∃ p H', x = .ref p ∧ DPut H p y v H' ∧ Q H'
def rSetA : V → V → V → Hp → (Hp → Prop) → Prop := fun x y v H Q => rSetL x y v H Q ∨ rSetD x y v H Q
theorem set_all (hu : X.A.units + 1 < cLine) : PSet X rSetA := fun pins s σ H o i v ov iv u Q I ro ri rv h => by
  rcases h with h | ⟨p, H', rfl, g, q⟩
  · exact set_list pins s σ H o i v ov iv u Q I ro ri rv h
  · obtain rfl : ov = Value.ref p := ro
    exact d_setItem hu I g ri rv fun s' I' => ⟨H', I', q⟩
theorem vs_setI {p1 : Pos} (hu : X.A.units + 1 < cLine) (he : VE X W e te de) (ho : VE X W o to d0) (hi : VE X W i ti di) (hs : swapsWithSole [.Subscript o i p1] e pos.line X.env = pure false := by rfl) (hw : swappedStores [.Subscript o i p1] e X.env = pure none := by rfl)
    (h1 : (assignEach [.Subscript o i p1] X.env).map (·.2) = [assign (.Subscript o i p1) X.env] := by rfl)
    (ha : ∀ v, assign (.Subscript o i p1) X.env v = (do
      let ov ← holding [v] (eval o X.env)
      let iv ← holding [v, ov] (eval i X.env)
      standAt p1
      holding [v, ov, iv] (setItem ov iv v)
      release [v, ov, iv] []) := by intro _; rfl) : VS X W (.Assign [.Subscript o i p1] e pos) (tAsg te (gSub to ti rSetA)) (dSetI de d0 di) := ⟨ps_asg he.run (pg_sub ho.run hi.run (set_all hu) ha) hs hw h1, fun {σV F H σ S Dd D} hs er h l => by
  refine he.snd hs er h (fun v H1 d S1 g1 r1 h1 => ?_) (l.exs hs er)
  refine ho.snd g1.hst (er.mono g1.same) h1 (fun x H2 dx S2 g2 r2 h2 => ?_) ((l.exs hs er).next g1)
  have g12 := g1.trans g2
  refine hi.snd g2.hst (er.mono g12.same) h2 (fun y H3 dy S3 g3 r3 h3 => ?_) ((l.exs hs er).next g12)
  have g13 := g12.trans g3
  have r1' := (r1.mono g2.same).mono g3.same
  split at h3
  · next p =>
    cases r2
    split at h3
    · next ds es =>
      obtain ⟨xs, e1, q1⟩ := g3.hst.at_ p _ es
      split at h3
      · next k =>
        cases r3
        split at h3
        · next j ej =>
          have gc : Good X.K F H3 S3 (upd H3 p (.lst (xs.set j v))) (put S3 p (.lst (ds.set j d))) := ⟨hst_chg g3.hst es (ook_lst (q1.set r1' j)), by rw [mask_chg es]; exact Same.refl _⟩
          exact .inl ⟨p, xs, k, j, rfl, rfl, e1, by rw [q1.length]; exact ej, l.nx _ _ _ _ (g13.trans gc) ((er.mono g13.same).mono gc.same) h3⟩
        · cases h3
      · cases h3
    · next kds es =>
      obtain ⟨xs, e1, q1⟩ := g3.hst.at_ p _ es
      split at h3
      · next k ek =>
        have gc : Good X.K F H3 S3 (upd H3 p (.dK (putK xs k v))) (put S3 p (.dct (putKD kds k d))) := ⟨hst_chg g3.hst es (ook_dct (repK_put r1' q1)), by rw [mask_chg es]; exact Same.refl _⟩
        have ey := key_of r3 ek
        subst ey
        exact .inr ⟨p, _, rfl, DPut.k e1 (by rw [repK_len q1]; exact h3.1), l.nx _ _ _ _ (g13.trans gc) ((er.mono g13.same).mono gc.same) h3.2⟩
      · cases h3
    · cases h3
  · cases h3⟩

/-! ### loops -/
def dForL (gd : TGd) (tb : TSd) (Z : EndsD) : List D → Sd → Sto → Prop
  | [], σ, S => Z.nx σ S
  | d :: ds, σ, S => gd d σ S fun σ1 S1 => tb { Z with nx := dForL gd tb Z ds, ct := dForL gd tb Z ds, bk := Z.nx } σ1 S1
def dFor (id : TId) (gd : TGd) (tb : TSd) : TSd := fun D σ S => id σ S (fun ds S1 => dForL gd tb D ds σ S1) (D.ex σ)
theorem snd_for {wi : TI} {id : TId} {vs : List Nat} (hi : SndI X.K W wi id) (hg : SndG X.K vs g gd) (hb : SndS X.K W t td) : SndS X.K W (tFor wi g t) (dFor id gd td) := fun {σV F H0 σ S0 Dd D} hs er h l => by
  refine hi hs er h (fun J H1 ds S1 g1 jr h1 => ?_) (l.exs hs er)
  let Iv : Nat → L2.St → Hp → Prop := fun i σV' H => ∃ (σ' : Sd) (S : Sto), Good X.K F H1 S1 H S ∧ ER X.K (mask F S H) σV' σ' ∧ dForL gd td Dd (ds.drop i) σ' S
  refine ⟨fun i m σV' H => m = ds.length - i ∧ i ≤ ds.length ∧ Iv i σV' H, ⟨ds.length, by simp, Nat.zero_le _, σ, S1, .refl g1.hst, er.mono g1.same, by simpa using h1⟩, ?_⟩
  rintro i m σV' H ⟨rfl, hi', σ', S, gg, er', hl⟩
  by_cases hlt : i < ds.length
  · have ed : ds.drop i = ds[i] :: ds.drop (i + 1) := List.drop_eq_getElem_cons hlt
    rw [ed] at hl
    refine .inr ⟨jr.go i _ H S gg.hst gg.same hlt, Iv (i + 1), fun σ2 H' p' => ⟨ds.length - (i + 1), by omega, rfl, hlt, p'⟩, fun x H' y => ?_⟩
    obtain ⟨g2, rx⟩ := jr.yld i _ H S x H' ds[i] gg.hst gg.same (List.getElem?_eq_getElem hlt) y
    have gg2 := gg.trans g2
    refine hg g2.hst (er'.mono g2.same) rx hl fun σ3 H3 σd3 S3 g3 er3 _ _ h3 => ?_
    have gg3 := gg2.trans g3
    have ll := l.next (g1.trans gg3)
    exact hb g3.hst er3 h3 ⟨fun a b c d g4 er4 h4 => ⟨c, d, gg3.trans g4, er4, h4⟩, ll.rt, ll.nx, fun a b c d g4 er4 h4 => ⟨c, d, gg3.trans g4, er4, h4⟩, ll.ex⟩
  · have e : i = ds.length := by omega
    subst e
    rw [List.drop_of_length_le (Nat.le_refl _)] at hl
    exact .inl ⟨jr.stop _ _ H S gg.hst gg.same (Nat.le_refl _), l.nx _ H _ S (g1.trans gg) er' hl⟩
theorem vs_for {tg iter : Expr} {body : List Stmt} {wi : TI} {id : TId} {vs : List Nat} (hp : PassesOwn (model X.prog X.w) X.A X.env X.xe) (hc : X.calm = true) (hi : VI X W tg iter wi id) (hg : VG X vs tg g gd) (hb : VSs X W body t td)
    (hs : ∀ x, foldedSetIterable iter X.env x = pure x := by intro _; rfl) : VS X W (.For tg iter body [] pos) (tFor wi g t) (dFor id gd td) := ⟨ps_for hp hc hi.run hg.run hb.run hs, snd_for hi.snd hg.snd hb.snd⟩
/-- while: Iv what holds ahead of each turn, by a number that falls -/
def dWhile (dc : TTd) (td : TSd) : TSd := fun D σ S => ∃ Iv : Nat → Sd → Sto → Prop, (∃ m, Iv m σ S) ∧ ∀ m σ S, Iv m σ S → dc σ S (fun b S1 => if b = true then td { D with nx := fun σ' S' => ∃ m', m' < m ∧ Iv m' σ' S', ct := fun σ' S' => ∃ m', m' < m ∧ Iv m' σ' S', bk := D.nx } σ S1 else D.nx σ S1) (D.ex σ)
theorem snd_while {c : TT} {dc : TTd} (hc : SndT X.K W c dc) (hb : SndS X.K W t td) : SndS X.K W (tWhile c t) (dWhile dc td) := fun {σV F H0 σ S0 Dd D} hs er h l => by
  obtain ⟨Iv, ⟨m0, h0⟩, step⟩ := h
  refine ⟨fun m σV' H => ∃ σ' S', Good X.K F H0 S0 H S' ∧ ER X.K (mask F S' H) σV' σ' ∧ Iv m σ' S', ⟨m0, σ, S0, .refl hs, er, h0⟩, ?_⟩
  rintro m σV' H ⟨σ', S', gg, er', hI⟩
  refine hc gg.hst er' (step m σ' S' hI) (fun b H1 S1 g1 h1 => ?_) ((l.next gg).exs gg.hst er')
  have gg1 := gg.trans g1
  cases b with
  | false => exact l.nx _ H1 _ S1 gg1 (er'.mono g1.same) h1
  | true =>
    have ll := l.next gg1
    refine ⟨fun a b => ∃ m', m' < m ∧ ∃ c d, Good X.K F H0 S0 b d ∧ ER X.K (mask F d b) a c ∧ Iv m' c d, fun a b q => q, ?_⟩
    exact hb g1.hst (er'.mono g1.same) h1 ⟨fun a b c d g4 er4 ⟨m', hm, h4⟩ => ⟨m', hm, c, d, gg1.trans g4, er4, h4⟩, ll.rt, ll.nx, fun a b c d g4 er4 ⟨m', hm, h4⟩ => ⟨m', hm, c, d, gg1.trans g4, er4, h4⟩, ll.ex⟩
theorem vs_while {c : Expr} {body : List Stmt} {tc : TT} {dc : TTd} (hp : PassesOwn (model X.prog X.w) X.A X.env X.xe) (hc : VT X W c tc dc) (hb : VSs X W body t td) : VS X W (.While c body [] pos) (tWhile tc t) (dWhile dc td) := ⟨ps_while hp hc.run hb.run, snd_while hc.snd hb.snd⟩

/-! ### a slot's object is seen as it stands, from here on -/
def dSee (j : Nat) (td : TSd) : TSd := fun D σ S => match σ[j]? with
  | some (some (.ref a)) => match S a with
    | some (.lst ds) => td D (σ.set j (some (.lst ds))) (era S a)
    | some (.dct ds) => td D (σ.set j (some (.dct ds))) (era S a)
    | _ => False
  | _ => False
theorem snd_see {j : Nat} (h : SndS X.K W t td) : SndS X.K W t (dSee j td) := fun {σV F H σ S Dd D} hs er hh l => by
  unfold dSee at hh
  split at hh
  · next a ea =>
    split at hh
    · next ds es =>
      obtain ⟨xs, e1, q1⟩ := hs.at_ a _ es
      have s1 : Same (mask F S H) (mask F (era S a) H) := same_sub sub_era
      have g1 : Good X.K F H S H (era S a) := ⟨hst_sub hs sub_era, s1⟩
      refine h g1.hst ((er.mono s1).see (fun v hv => ?_) ⟨_, ea⟩) hh (l.next g1)
      obtain ⟨w, ew, rw'⟩ := er.at_ j _ ea
      rw [ew] at hv; cases hv
      cases rw'
      exact .lst (SqL.of (by rw [mask_none (by unfold era; rw [if_pos rfl]) (hs.apart es)]; exact e1)) (q1.mono s1)
    · next ds es =>
      obtain ⟨xs, e1, q1⟩ := hs.at_ a _ es
      have s1 : Same (mask F S H) (mask F (era S a) H) := same_sub sub_era
      have g1 : Good X.K F H S H (era S a) := ⟨hst_sub hs sub_era, s1⟩
      refine h g1.hst ((er.mono s1).see (fun v hv => ?_) ⟨_, ea⟩) hh (l.next g1)
      obtain ⟨w, ew, rw'⟩ := er.at_ j _ ea
      rw [ew] at hv; cases hv
      cases rw'
      exact .dct (by rw [mask_none (by unfold era; rw [if_pos rfl]) (hs.apart es)]; exact e1) (q1.mono s1)
    · cases hh
  · cases hh
theorem vss_see {j : Nat} (h : VSs X W sts t td) : VSs X W sts t (dSee j td) := ⟨h.run, snd_see h.snd⟩
theorem vs_see {j : Nat} (h : VS X W st t td) : VS X W st t (dSee j td) := ⟨h.run, snd_see h.snd⟩

/-! ### xs.append(e) -/
def dAppend (d0 : TEd) (da : TAd) : TEd := fun σ S Q E => d0 σ S (fun x S1 => match x with
  | .ref p => (∃ es, S1 p = some (.lst es)) ∧ da σ S1 (fun vs S2 => match vs with
    | [v] => match S2 p with
      | some (.lst ds) => ds.length < sizeLine ∧ Q .non (put S2 p (.lst (ds ++ [v])))
      | _ => False
    | _ => False) E
  | _ => False) E
theorem snd_append {ta1 : TA} {da1 : TAd} (ho : Snd X.K W to d0) (ha : SndA X.K W ta1 da1) : Snd X.K W (tBM X.K "list" rAppend to ta1) (dAppend d0 da1) := fun {σV F H σ S Qd E Q} hs er h hq hx =>
  ho hs er h (fun x H1 dx S1 g1 r1 h1 => by
    split at h1
    · next p =>
      cases r1
      obtain ⟨⟨es, he⟩, h1⟩ := h1
      obtain ⟨xs1, e1, _⟩ := g1.hst.at_ p _ he
      refine ⟨.inl ⟨rfl, xs1, SqL.of e1⟩, ha g1.hst (er.mono g1.same) h1 (fun vs H2 ds2 S2 g2 r2 h2 => ?_) (hx.next g1)⟩
      split at h2
      · next v =>
        cases r2 with
        | cons r2 r3 =>
          cases r3
          split at h2
          · next ds e2 =>
            obtain ⟨xs, e3, q1⟩ := g2.hst.at_ p _ e2
            refine ⟨p, xs, _, rfl, rfl, e3, by rw [q1.length]; exact h2.1, hq _ _ _ _ ((g1.trans g2).trans ⟨hst_chg g2.hst e2 (ook_lst (q1.append (.cons r2 .nil))), by rw [mask_chg e2]; exact Same.refl _⟩) .non h2.2⟩
          · cases h2
      · cases h2
    · cases h1) hx
theorem ve_append {e1 : Expr} {apos : Pos} {ta1 : TA} {da1 : TAd} (ho : VE X W o to d0) (ha : VA X W [e1] ta1 da1) (hp : PE X (.Call (.Attribute o "append" apos) [e1] [] pos) (tBM X.K "list" rAppend to ta1)) :
    VE X W (.Call (.Attribute o "append" apos) [e1] [] pos) (tBM X.K "list" rAppend to ta1) (dAppend d0 da1) := ⟨hp, snd_append ho.snd ha.snd⟩
end
end VL

/-! VL: defs and their calls, repr, the law's end. What is called never runs within a repr (guards = some []). -/
namespace VL
open PySem PySem.Spec PyProof.Rows L2

/-- a def's promise where no repr is under way; it may raise -/
structure FnG (P : Program) (w : World) (K : PySem.W.Frag) (mg : Str → Option Value) (base : Heap) (k : Nat) (f : Addr) (fd : FuncData) (ps : List Str) (sp : Sp) : Prop where
  len : ∀ vs H Q E, sp vs H Q E → vs.length = ps.length
  run : ∀ (A : Around) (outer : List Env) (s : Shared) (H : Hp) (args : Args) (us : List Value) (vs : List V) (Q : VK) (E : XK), A.guards = some [] → Room k A → Env0 P w K mg base A outer s H → BindsTo s fd args (ps.zip us) → Vals vs us →
    sp vs H Q E → codeAny (model P w) A (.call (.ref f) args) (CR (L2.CX P w) outer P w H s Q E) s
theorem FnG.mono {P : Program} {w : World} {K : PySem.W.Frag} {mg : Str → Option Value} {base : Heap} {j k : Nat} {f : Addr} {fd : FuncData} {ps : List Str} {sp : Sp} (h : FnG P w K mg base j f fd ps sp) (le : j ≤ k) : FnG P w K mg base k f fd ps sp :=
  ⟨h.len, fun A outer s H args us vs Q E g r => h.run A outer s H args us vs Q E g (r.mono le)⟩
section
variable {P : Program} {w : World} {K : PySem.W.Frag} {mg : Str → Option Value} {base : Heap}
theorem fnG_of {k : Nat} {f : Addr} {name qual : Str} {params : Arguments} {body : List Stmt} {scope : Scope} {dV kV doc pm cdv ct oc : Value} {an od : Option Addr} {osl : Array (Option Value)} {N ps : List Str} {sp : Sp}
    (lk : K.lookup f = some ⟨oc, od, .func (PySem.W.fnOf name qual params body scope dV kV doc pm an cdv ct), osl⟩) (hcd : PySem.W.codeIn K cdv qual = true) (T : FnScope N ps scope) (len : ∀ vs H Q E, sp vs H Q E → vs.length = ps.length)
    (hb : ∀ (A : Around) (outer : List Env) (s : Shared) (H : Hp) (vs : List V) (Q : VK) (E : XK), A.guards = some [] → Room k (A.deeper (envOfC qual scope s.heap.objs.size f cdv)) → sp vs H Q E →
      ∃ t, PSs (cxOf (L2.CX P w) P w K mg base N qual scope f cdv A outer s H E) body t ∧ t { nx := fun _ H' => Q .non H', rt := Q } (start N vs) H) :
    FnG P w K mg base (k + 1) f (PySem.W.fnOf name qual params body scope dV kV doc pm an cdv ct) ps sp where
  len := len
  run A outer s H args us vs Q E hgd hr e0 bnd rel hsp := by
    have ll := len _ _ _ _ hsp
    have kin : K.In s.heap := e0.mod.kin.keeps fun b o z => (e0.bs b o z).1
    have lim : s.heap.NoLimit := e0.mod.nolimit.keeps fun b o z => (e0.bs b o z).1
    obtain ⟨t, ht, hq⟩ := hb A outer s H vs Q E hgd (hr.deeper _) hsp
    have kinds : ∀ y ∈ ps.zip us, scope.names.lookup y.1 = some .local ∨ (scope.names.lookup y.1 = some .cell ∧ ((cellsFrom (s.heap.objs.size + 1) scope.names []).lookup y.1).isSome = true) := by
      rintro ⟨n, v⟩ hy
      have hn : n ∈ ps := (List.of_mem_zip hy).1
      cases T.par n hn with
      | inl q => exact .inl q
      | inr q => exact .inr ⟨q, PySem.W.cellsFrom_some _ _ _ (.inl q)⟩
    apply codeAny_call_function hr.depth (kin _ _ lk) rfl T.co T.gen rfl (PySem.W.codeRec_of kin hcd) (bnd _ _ _ _ ?_)
    apply wpAny_newFunctionEnv_cells T.kind kinds
    intro env he s1 x
    subst he
    refine ⟨lim.keeps x.toInCall.keep, codeAny_func (wpAny_mono (ht.run [] s1 (start N vs) H _ (inv_start T hr.hd e0 ll rel x) hq) ?_ fun _ _ z => z)⟩
    intro fl s' z
    cases fl with
    | ret u =>
      obtain ⟨v, σ', H', J, rv, q⟩ := z
      exact ⟨v, H', J.os, J.bare, J.base, J.hok, rv, q⟩
    | next =>
      obtain ⟨σ', H', J, q⟩ := z
      exact ⟨.non, H', J.os, J.bare, J.base, J.hok, rfl, q⟩
    | brk => exact z.elim fun _ z => z.elim fun _ z => z.2.elim
    | cont => exact z.elim fun _ z => z.elim fun _ z => z.2.elim
end

/-! ### promises over data -/
abbrev Spd := List D → Sto → QD → XD → Prop
def LXE (K : PySem.W.Frag) (F H : Hp) (S : Sto) (Ed : XD) (E : XK) : Prop := ∀ cls a H' fs S', Good K F H S H' S' → XRep K (mask F S' H') a fs → Ed cls fs S' → E cls a H'
def lift (K : PySem.W.Frag) (spd : Spd) : Sp := fun vs H Q E => ∃ (F : Hp) (ds : List D) (S : Sto) (Qd : QD) (Ed : XD), HSt K F H S ∧ Reps K (mask F S H) vs ds ∧ spd ds S Qd Ed ∧ LQ K F H S Qd Q ∧ LXE K F H S Ed E
/-- what is made on the way and left is forgotten -/
def fin (Q : QD) : QD := fun d S => ∃ S', Sub S' S ∧ Q d S'
def finX (E : XD) : XD := fun c fs S => ∃ S', Sub S' S ∧ E c fs S'
theorem fin_now {Q : QD} {d : D} {S : Sto} (h : Q d S) : fin Q d S := ⟨S, Sub.refl S, h⟩
theorem finX_now {E : XD} {c : Value} {fs : List (Str × D)} {S : Sto} (h : E c fs S) : finX E c fs S := ⟨S, Sub.refl S, h⟩
theorem LQ.fin {K : PySem.W.Frag} {F H : Hp} {S : Sto} {Qd : QD} {Q : VK} (h : LQ K F H S Qd Q) : LQ K F H S (fin Qd) Q := fun v H' d S' g r ⟨S2, sb, q⟩ =>
  h v H' d S2 ⟨hst_sub g.hst sb, g.same.trans (same_sub sb)⟩ (r.mono (same_sub sb)) q
theorem XRep.mono {K : PySem.W.Frag} {M M' : Hp} {a : Option Addr} {fs : List (Str × D)} (h : XRep K M a fs) (e : Same M M') : XRep K M' a fs := by
  cases a with
  | none => exact h
  | some d => obtain ⟨fv, h1, h2⟩ := h; exact ⟨fv, e _ _ h1, h2.mono e⟩
def startD (N : List Str) (ds : List D) : Sd := ds.map some ++ List.replicate (N.length - ds.length) none
theorem er_start {K : PySem.W.Frag} {M : Hp} {N : List Str} {vs : List V} {ds : List D} (r : Reps K M vs ds) : ER K M (L2.start N vs) (startD N ds) := by
  refine ⟨by unfold L2.start startD; rw [List.length_append, List.length_append, List.length_map, List.length_map, List.length_replicate, List.length_replicate, r.length], fun i d h => ?_⟩
  unfold startD at h
  unfold L2.start
  by_cases hi : i < ds.length
  · rw [List.getElem?_append_left (by simpa using hi), List.getElem?_map] at h
    obtain ⟨e, h1, h2⟩ := Option.map_eq_some_iff.mp h
    cases h2
    obtain ⟨v, h3, h4⟩ := r.get h1
    exact ⟨v, by rw [List.getElem?_append_left (by rw [List.length_map, r.length]; exact hi), List.getElem?_map, h3]; rfl, h4⟩
  · rw [List.getElem?_append_right (by simpa using hi), List.getElem?_replicate] at h
    split at h <;> cases h
/-- the wish of a def's own body -/
abbrev wDef (E : XK) : WX := fun cls d _ H => E cls d H
section
variable {P : Program} {w : World} {K : PySem.W.Frag} {mg : Str → Option Value} {base : Heap}
/-- what a body must do -/
def BodyOk (td : TSd) (N : List Str) (spd : Spd) : Prop := ∀ (ds : List D) (S : Sto) (Qd : QD) (Ed : XD), spd ds S Qd Ed → td { nx := fun _ S' => fin Qd .non S', rt := fin Qd, ex := fun _ => finX Ed } (startD N ds) S
/-- THE RULE of a def -/
theorem def_ok {x qual : Str} {params : Arguments} {body : List Stmt} {scope : Scope} {dvs : List V} {kws : List (Str × V)} {f : Addr} {fd : FuncData} {N ps : List Str} {k : Nat} {spd : Spd} (Fd : FunD K x qual params body scope dvs kws f fd) (T : FnScope N ps scope)
    (len : ∀ ds S Q E, spd ds S Q E → ds.length = ps.length)
    (hb : ∀ (cdv : Value) (A : Around) (outer : List Env) (s : Shared) (H : Hp) (E : XK), A.guards = some [] → Room k (A.deeper (envOfC qual scope s.heap.objs.size f cdv)) →
      ∃ t td, VSs (cxOf (L2.CX P w) P w K mg base N qual scope f cdv A outer s H E) (wDef E) body t td ∧ BodyOk td N spd) : FnG P w K mg base (k + 1) f fd ps (lift K spd) := by
  obtain ⟨oc, od, dV, kV, doc, pm, an, cdv, ct, osl, rfl, lk, hcd, _, _⟩ := Fd.ex
  refine fnG_of lk hcd T (fun vs H Q E ⟨_, ds, S, Qd, Ed, hs, r, h, _⟩ => by rw [r.length]; exact len _ _ _ _ h) fun A outer s H vs Q E hgd hr h => ?_
  obtain ⟨F, ds, S, Qd, Ed, hs, r, hsp, lq, lx⟩ := h
  obtain ⟨t, td, V, ok⟩ := hb cdv A outer s H E hgd hr
  exact ⟨t, V.run, V.snd hs (er_start r) (ok ds S Qd Ed hsp) ⟨fun σV' H' σ' S' g _ h => LQ.fin lq _ H' _ S' g .non h, LQ.fin lq, fun _ _ _ _ _ _ h => h.elim, fun _ _ _ _ _ _ h => h.elim, fun σV H1 σ' S1 g1 _ cls a H' fs S' g xr ⟨S2, sb, q⟩ =>
    lx cls a H' fs S2 ⟨hst_sub g.hst sb, (g1.trans g).same.trans (same_sub sb)⟩ (xr.mono (same_sub sb)) q⟩⟩
end

/-! ### calls -/
section
variable {X : Cx} {W : WX} {k n : Nat} {f C : Addr} {fd : FuncData} {ps ks : List Str} {sp : Sp} {spd : Spd} {dvs : List V} {dds : List D} {ds0 : List Value} {x m : Str} {p pos apos : Pos} {e o : Expr} {es : List Expr} {kws : List Keyword} {ta : TE} {t tk' : TA} {da dk : TAd} {d0 : TEd}
theorem run_G {pins : List (Addr × Obj)} {σ : L2.St} {H : Hp} {s : Shared} {Q : VK} {us : List Value} {vs : List V} {args : Args} (Fn : FnG X.prog X.w X.K X.mg X.base k f fd ps sp) (hgd : X.A.guards = some []) (hr : Room k X.A) (tk : Takes X W)
    (I : Inv X pins σ H s) (hb : BindsTo s fd args (ps.zip us)) (r : Vals vs us) (h : sp vs H Q (WE W σ)) : codeAny (model X.prog X.w) X.A (.call (.ref f) args) (wants (EP X pins σ Q) X.xe) s := by
  refine codeAny_mono (Fn.run X.A X.stack s H args us vs Q (WE W σ) hgd hr I.env0 hb r h) fun r s' hq => ?_
  rcases r with e | (_ | _ | _ | u)
  · exact passAt tk σ pins H s e s' I hq
  · exact hq.elim
  · exact hq.elim
  · exact hq.elim
  · exact I.after hq
def tCallG (sp : Sp) (dvs : List V) (W : WX) (t : TA) : TE := fun σ H Q => t σ H fun vs H1 => sp (vs ++ dvs) H1 Q (WE W σ)
theorem pe_callG (Fn : FnG X.prog X.w X.K X.mg X.base k f fd ps sp) (hgd : X.A.guards = some []) (hr : Room k X.A) (tk : Takes X W) (hm : X.mg x = some (.ref f)) (hk : PySem.W.keepIn X.K (.ref f) = true) (hb : Binds X.K fd ps ds0) (hd : Vals dvs ds0) (ha : PA X (e :: es) t)
    (hg : Gl X x := by rfl) (hdb : (x == ("__debug__" : Str)) = false := by decide) (he : starEach (e :: es) X.env = (false, eval e X.env) :: starEach es X.env := by rfl) (hpl : (backTo pos (starEach es X.env)).any (·.1) = false := by rfl) :
    PE X (.Call (.Name x p) (e :: es) [] pos) (tCallG sp dvs W t) := by
  refine ⟨fun pins s σ H Q I h => wpAny_Call_Name_kw (ld_glob I hg hm ?_ hdb)⟩
  refine PySem.W.callWith_K (h₀ := X.base) I.ok.mod.kin hk (thn (ha.run pos pins s σ H _ I h) fun us s1 ⟨vs, H1, I1, r, q⟩ => ⟨I1.kIn, ?_⟩) he hpl
  have r2 := r.append hd
  exact wpAny_call (run_G Fn hgd hr tk I1 (hb s1 us I1.kIn (by rw [← r2.length]; exact Fn.len _ _ _ _ q)) r2 q)
theorem pe_callG0 (Fn : FnG X.prog X.w X.K X.mg X.base k f fd ps sp) (hgd : X.A.guards = some []) (hr : Room k X.A) (tk : Takes X W) (hm : X.mg x = some (.ref f)) (hk : PySem.W.keepIn X.K (.ref f) = true) (hb : Binds X.K fd ps ds0) (hd : Vals dvs ds0)
    (hg : Gl X x := by rfl) (hdb : (x == ("__debug__" : Str)) = false := by decide) : PE X (.Call (.Name x p) [] [] pos) (tCallG sp dvs W tNil) := by
  refine ⟨fun pins s σ H Q I h => wpAny_Call_Name_kw (ld_glob I hg hm ?_ hdb)⟩
  refine PySem.W.callWith_K0 I.kIn hk ?_
  exact wpAny_call (run_G Fn hgd hr tk I (hb s [] I.kIn (by rw [List.nil_append, ← hd.length]; exact Fn.len _ _ _ _ h)) hd h)
/-- f(e, .., k = v, ..) -/
def tCallGK (n m : Nat) (sp : Sp) (gV : List V → List V → List V) (W : WX) (t tk : TA) : TE := fun σ H Q => t σ H fun vs H1 => tk σ H1 fun zs H2 => vs.length = n ∧ zs.length = m ∧ sp (gV vs zs) H2 Q (WE W σ)
theorem pe_callGK {g : List Value → List Value → List Value} {gV : List V → List V → List V} (Fn : FnG X.prog X.w X.K X.mg X.base k f fd ps sp) (hgd : X.A.guards = some []) (hr : Room k X.A) (tk : Takes X W) (hm : X.mg x = some (.ref f)) (hk : PySem.W.keepIn X.K (.ref f) = true)
    (hb : KBn X.K fd ps n ks g gV) (ha : PA X (e :: es) t) (hkw : PK X kws tk') (hg : Gl X x := by rfl) (hall : (backToKw pos (keywordEach kws X.env)).all (·.1.isSome) = true := by rfl) (hks : (backToKw pos (keywordEach kws X.env)).filterMap (·.1) = ks := by rfl)
    (hdb : (x == ("__debug__" : Str)) = false := by decide) (he : starEach (e :: es) X.env = (false, eval e X.env) :: starEach es X.env := by rfl)
    (hpl : ((backTo pos (starEach (e :: es) X.env)).any (·.1) || (backToKw pos (keywordEach kws X.env)).any (·.1.isNone)) = false := by rfl) : PE X (.Call (.Name x p) (e :: es) kws pos) (tCallGK n ks.length sp gV W t tk') := by
  refine ⟨fun pins s σ H Q I h => wpAny_Call_Name_kw (ld_glob I hg hm ?_ hdb)⟩
  refine PySem.W.callWith_KW (h₀ := X.base) I.ok.mod.kin hk hall (thn (ha.run pos pins s σ H _ I h) fun us s1 ⟨vs, H1, I1, r, q⟩ => ?_) hpl he
  refine thn (hkw.run pos pins s1 σ H1 _ I1 q) fun ws s2 ⟨zs, H2, I2, rz, l1, l2, q2⟩ => ⟨I2.kIn, ?_⟩
  rw [hks]
  exact wpAny_call (run_G Fn hgd hr tk I2 (hb.to s2 us ws I2.kIn (r.length.symm.trans l1) (rz.length.symm.trans l2)) (hb.rel r rz) q2)

/-! over data -/
def dCall (spd : Spd) (dds : List D) (da : TAd) : TEd := fun σ S Q E => da σ S (fun ds S1 => spd (ds ++ dds) S1 Q E) E
theorem snd_call (hds : ∀ M : Hp, Reps X.K M dvs dds) (ha : SndA X.K W t da) : Snd X.K W (tCallG (lift X.K spd) dvs W t) (dCall spd dds da) := fun {σV F H σ S Qd E Q} hs er h hq hx =>
  ha (Q := fun vs H1 => lift X.K spd (vs ++ dvs) H1 Q (WE W σV)) hs er h (fun vs H1 ds S1 g r h1 => ⟨F, ds ++ dds, S1, Qd, E, g.hst, r.append (hds _), h1, hq.next g, fun cls a H' fs S' g' xr q => hx cls a H' fs S' (g.trans g') xr q⟩) hx
theorem ve_call (Fn : FnG X.prog X.w X.K X.mg X.base k f fd ps (lift X.K spd)) (hgd : X.A.guards = some []) (hr : Room k X.A) (tk : Takes X W) (hm : X.mg x = some (.ref f)) (hk : PySem.W.keepIn X.K (.ref f) = true) (hb : Binds X.K fd ps ds0) (hd : Vals dvs ds0) (hds : ∀ M : Hp, Reps X.K M dvs dds)
    (ha : VA X W (e :: es) t da) (hg : Gl X x := by rfl) (hdb : (x == ("__debug__" : Str)) = false := by decide) (he : starEach (e :: es) X.env = (false, eval e X.env) :: starEach es X.env := by rfl) (hpl : (backTo pos (starEach es X.env)).any (·.1) = false := by rfl) :
    VE X W (.Call (.Name x p) (e :: es) [] pos) (tCallG (lift X.K spd) dvs W t) (dCall spd dds da) := ⟨pe_callG Fn hgd hr tk hm hk hb hd ha.run hg hdb he hpl, snd_call hds ha.snd⟩
theorem ve_call0 (Fn : FnG X.prog X.w X.K X.mg X.base k f fd ps (lift X.K spd)) (hgd : X.A.guards = some []) (hr : Room k X.A) (tk : Takes X W) (hm : X.mg x = some (.ref f)) (hk : PySem.W.keepIn X.K (.ref f) = true) (hb : Binds X.K fd ps ds0) (hd : Vals dvs ds0) (hds : ∀ M : Hp, Reps X.K M dvs dds)
    (hg : Gl X x := by rfl) (hdb : (x == ("__debug__" : Str)) = false := by decide) : VE X W (.Call (.Name x p) [] [] pos) (tCallG (lift X.K spd) dvs W tNil) (dCall spd dds dNil) := ⟨pe_callG0 Fn hgd hr tk hm hk hb hd hg hdb, snd_call hds (va_nil (X := X) (W := W)).snd⟩
structure VK' (X : Cx) (W : WX) (kws : List Keyword) (t : TA) (td : TAd) : Prop where
  run : PK X kws t
  snd : SndA X.K W t td
theorem vk_nil : VK' X W [] tNil dNil := ⟨pk_nil, (va_nil (X := X) (W := W)).snd⟩
theorem vk_cons {e : Expr} {te : TE} {t : TA} {de : TEd} {dr : TAd} {nm : Option Str} {kpos : Pos} (ha : VE X W e te de) (hr : VK' X W kws t dr) : VK' X W (⟨nm, e, kpos⟩ :: kws) (tCons te t) (dCons de dr) := ⟨pk_cons ha.run hr.run, fun {σV F H σ S Qd E Q} hs er h hq hx =>
  ha.snd (Q := fun x H1 => t σV H1 fun xs H2 => Q (x :: xs) H2) hs er h (fun x H1 dx S1 g1 r1 h1 => hr.snd (Q := fun xs H2 => Q (x :: xs) H2) g1.hst (er.mono g1.same) h1 (fun xs H2 ds S2 g2 r2 h2 =>
    hq (x :: xs) H2 (dx :: ds) S2 (g1.trans g2) (.cons (r1.mono g2.same) r2) h2) (hx.next g1)) hx⟩
/-- gD puts the positional things and the keywords' things in the parameters' order -/
def dCallK (n m : Nat) (spd : Spd) (gD : List D → List D → List D) (da dk : TAd) : TEd := fun σ S Q E => da σ S (fun ds S1 => dk σ S1 (fun zs S2 => ds.length = n ∧ zs.length = m ∧ spd (gD ds zs) S2 Q E) E) E
theorem ve_callK {g : List Value → List Value → List Value} {gV : List V → List V → List V} {gD : List D → List D → List D} (Fn : FnG X.prog X.w X.K X.mg X.base k f fd ps (lift X.K spd)) (hgd : X.A.guards = some []) (hr : Room k X.A) (tk : Takes X W) (hm : X.mg x = some (.ref f)) (hk : PySem.W.keepIn X.K (.ref f) = true)
    (hb : KBn X.K fd ps n ks g gV) (hrel : ∀ (M : Hp) (vs zs : List V) (ds es : List D), Reps X.K M vs ds → Reps X.K M zs es → Reps X.K M (gV vs zs) (gD ds es)) (ha : VA X W (e :: es) t da) (hkw : VK' X W kws tk' dk) (hg : Gl X x := by rfl)
    (hall : (backToKw pos (keywordEach kws X.env)).all (·.1.isSome) = true := by rfl) (hks : (backToKw pos (keywordEach kws X.env)).filterMap (·.1) = ks := by rfl)
    (hdb : (x == ("__debug__" : Str)) = false := by decide) (he : starEach (e :: es) X.env = (false, eval e X.env) :: starEach es X.env := by rfl)
    (hpl : ((backTo pos (starEach (e :: es) X.env)).any (·.1) || (backToKw pos (keywordEach kws X.env)).any (·.1.isNone)) = false := by rfl) :
    VE X W (.Call (.Name x p) (e :: es) kws pos) (tCallGK n ks.length (lift X.K spd) gV W t tk') (dCallK n ks.length spd gD da dk) := ⟨pe_callGK Fn hgd hr tk hm hk hb ha.run hkw.run hg hall hks hdb he hpl, fun {σV F H σ S Qd E Q} hs er h hq hx => by
  refine ha.snd hs er h (fun vs H1 ds S1 g1 r1 h1 => ?_) hx
  refine hkw.snd g1.hst (er.mono g1.same) h1 (fun zs H2 es S2 g2 r2 h2 => ?_) (hx.next g1)
  have g12 := g1.trans g2
  have r1' := r1.mono g2.same
  exact ⟨r1'.length.trans h2.1, r2.length.trans h2.2.1, F, gD ds es, S2, Qd, E, g2.hst, hrel _ _ _ _ _ r1' r2, h2.2.2, hq.next g12, fun cls a H' fs S' g' xr q => hx cls a H' fs S' (g12.trans g') xr q⟩⟩
end

/-! ### repr -/
def rRepr (K : PySem.W.Frag) : List V → Hp → VK → Prop := fun xs H Q => ∃ x d, xs = [x] ∧ Dp K H x d ∧ d.showable = true ∧ d.depth ≤ 64 ∧ d.shown.length ≤ sizeLine ∧ Q (.str d.shown) H
section
variable {X : Cx} {W : WX}
theorem dp_nodict {K : PySem.W.Frag} {H : Hp} : (∀ {v : V} {d : PyData}, Dp K H v d → d.hasDict = false) ∧ (∀ {vs : List V} {ds : List PyData}, DpAll K H vs ds → PyData.hasDictAll ds = false) := by
  refine ⟨fun {v d} => one d, fun {vs ds} => all ds⟩
where
  one : ∀ (d : PyData) {v : V}, Dp K H v d → d.hasDict = false
    | .none, _, _ => by simp [PyData.hasDict]
    | .bool _, _, _ => by simp [PyData.hasDict]
    | .int _, _, _ => by simp [PyData.hasDict]
    | .str _, _, _ => by simp [PyData.hasDict]
    | .list ds, _, .lst _ r => by simp [PyData.hasDict, all ds r]
    | .tuple ds, _, .tup _ r => by simp [PyData.hasDict, all ds r]
  all : ∀ (ds : List PyData) {vs : List V}, DpAll K H vs ds → PyData.hasDictAll ds = false
    | [], _, _ => by simp [PyData.hasDictAll]
    | d :: ds, _, .cons h r => by simp [PyData.hasDictAll, one d h, all ds r]
theorem call_reprD (hgd : X.A.guards = some []) (hu : X.A.units + 66 < cLine) : CallR X (.builtin "repr") (rRepr X.K) := fun pins s σ H xs us Q I r h => by
  obtain ⟨x, d, rfl, hd, hsh, hdep, hsz, q⟩ := h
  obtain ⟨u, rfl, ru⟩ := vals1 r
  obtain ⟨as, rd⟩ := Dp.reads I d x u hd ru
  cases hd with
  | non => cases ru; rw [PyData.shown] at q; exact PySem.P.repr_of_none ⟨.str _, H, I.tok _, ⟨_, rfl⟩, q⟩
  | bl b => cases ru; rw [PyData.shown] at q; exact PySem.P.repr_of_bool ⟨.str _, H, I.tok _, ⟨_, rfl⟩, q⟩
  | int i =>
    obtain ⟨t, rfl⟩ := ru
    rw [PyData.shown] at q
    rw [PyData.showable] at hsh
    exact PySem.P.repr_of_int (of_decide_eq_true hsh) ⟨.str _, H, I.tok _, ⟨_, rfl⟩, q⟩
  | str z =>
    obtain ⟨t, rfl⟩ := ru
    rw [PyData.shown] at q hsz
    exact PySem.P.repr_of_str ⟨.str _, H, I.tok _, ⟨_, rfl⟩, q⟩ hsz
  | lst h1 h2 =>
    cases ru
    exact repr_of_reads' rd hsh (PyData.noDict_hsm (dp_nodict.1 (.lst h1 h2))) hgd (by omega) (fun _ _ e => e) (fun h' u tk hk => ⟨.str _, H, I.kept (t' := tk) hk, ⟨u, rfl⟩, q⟩) hsz
  | tup h1 h2 =>
    cases ru
    exact repr_of_reads' rd hsh (PyData.noDict_hsm (dp_nodict.1 (.tup h1 h2))) hgd (by omega) (fun _ _ e => e) (fun h' u tk hk => ⟨.str _, H, I.kept (t' := tk) hk, ⟨u, rfl⟩, q⟩) hsz
def dRepr : RCd := fun ds S Q => match ds with
  | [x] => match toP (vw S x) with
    | some p => p.showable = true ∧ p.depth ≤ 64 ∧ p.shown.length ≤ sizeLine ∧ Q (.str p.shown) S
    | none => False
  | _ => False
theorem snd_repr : SndC X.K (rRepr X.K) dRepr := fun {xs ds F H S Qd Q} hs r h hq => by
  unfold dRepr at h; split at h
  · cases r with
    | cons r1 r2 =>
      cases r2
      split at h
      · next p ep => exact ⟨_, p, rfl, dp_vw hs r1 ep, h.1, h.2.1, h.2.2.1, hq _ H _ S (.refl hs) (.str _) h.2.2.2⟩
      · cases h
  · cases h
end

/-! ### the law's end -/
theorem notrk {s : Heap} {b : Addr} {o : Obj} {H : Hp} (h : s.get? b = some o) (n : H b = none) : (hidT s H).get? b = some o := hidT_get h n
/-- the law's promise: on the script's ints it hands back True -/
def spdLaw (n : Nat) : Spd := fun ds S Q _ => ∃ ns : List Int, ds = [.lst (ns.map D.int)] ∧ ns.length ≤ n ∧ Q (.bl true) S
theorem law_end {P : Program} {w : World} {K : PySem.W.Frag} {mg mb : Str → Option Value} {k n : Nat} {fa a : Addr} {fd : FuncData} {x : Str} {s1 : Shared} {vs : List Value} {ns : List Int}
    (kin : K.In s1.heap) (hns : s1.heap.Ns mainGlobals mg) (hb : s1.heap.Ns builtinsNs mb) (hbb : ∀ x : Str, x ≠ "__name__" → mb x = bootBuiltins x) (lim : s1.heap.NoLimit) (hgen : s1.gens = #[])
    (ha : s1.heap.get? a = some { cls := .type "list", data := .seq vs.toArray }) (hi : IntsAre vs ns) (hl : ns.length ≤ n) (hn : n ≤ sizeLine) (hr : Room k callerA)
    (Fn : ∀ base : Heap, K.In base → base.Ns mainGlobals mg → FnG P w K mg base k fa fd [x] (lift K (spdLaw n))) (bind : ∀ (s : Shared) (u : Value), BindsTo s fd ⟨[u], []⟩ [(x, u)]) :
    codeAny (model P w) callerA (.call (.ref fa) ⟨[.ref a], []⟩) (fun r s' => r = .ok (.ret (.bool true)) ∧ OldK s1.heap s'.heap ∧ s'.os = s1.os ∧ AllBare s'.gens) s1 := by
  have vi := vals_ints hi
  have lv := hi.length
  have go : ∀ H : Hp, HOk P w H s1.heap → (∀ b u, H b = some u → b = a ∧ K.lookup a = none ∧ ∃ o xs, u = .frz o (.lst xs)) → SqL K H a (ns.map V.int) →
      codeAny (model P w) callerA (.call (.ref fa) ⟨[.ref a], []⟩) (fun r s' => r = .ok (.ret (.bool true)) ∧ OldK s1.heap s'.heap ∧ s'.os = s1.os ∧ AllBare s'.gens) s1 := by
    intro H ok only sq
    have hide : ∀ {b o}, s1.heap.get? b = some o → b ≠ a ∨ K.lookup a ≠ none → (hidT s1.heap H).get? b = some o := fun {b o} e c => notrk e (by
      cases q : H b with
      | none => rfl
      | some u =>
        obtain ⟨e1, e2, _⟩ := only b u q
        exact (c.elim (fun z => z e1) fun z => z e2).elim)
    have apart : ∀ {b o} {es : Array DictEntry} {ep : Nat}, s1.heap.get? b = some o → o.data = .dict es ep → b ≠ a := fun e d z => by
      subst z
      rw [ha] at e; cases e; cases d
    have nsH : ∀ {b : Addr} {m : Str → Option Value}, s1.heap.Ns b m → (hidT s1.heap H).Ns b m := fun ⟨o, es, ep, e, d, r⟩ => ⟨o, es, ep, hide e (.inl (apart e d)), d, r⟩
    have kinH : K.In (hidT s1.heap H) := fun b o e => hide (kin b o e) (by
      by_cases z : b = a
      · subst z; exact .inr (by rw [e]; simp)
      · exact .inl z)
    obtain ⟨mc, l1, l2⟩ := lim
    have e0 : Env0 P w K mg (hidT s1.heap H) callerA [] s1 H :=
      { frames := rfl, mod := ⟨kinH, nsH hns, ⟨mb, nsH hb, hbb⟩, ⟨mc, nsH l1, l2⟩⟩, bs := fun b o e => of_hidT e, bsz := Nat.le_of_eq (hidT_size _ _), funs := trivial, frf := fun b z => (List.not_mem_nil z).elim, hok := ok, bare := .of_eq hgen }
    have F := Fn _ kinH (nsH hns)
    refine codeAny_mono (F.run callerA [] s1 H ⟨[.ref a], []⟩ [.ref a] [.ref a] (fun v _ => v = .bl true) (fun _ _ _ => False) rfl hr e0 (bind s1 (.ref a)) (.cons rfl .nil) ?_) fun r s' z => ?_
    · refine ⟨noH, [.lst (ns.map D.int)], (fun _ => none), (fun d _ => d = .bl true), XF, ⟨(fun b o q => nomatch q), fun b u q => nomatch q⟩, .cons (.lst ?_ (reps_of_ints ns)) .nil, ⟨ns, rfl, hl, rfl⟩, ?_, fun _ _ _ _ _ _ _ q => q⟩
      · have em : mask noH (fun _ => none) H = H := by
          funext b; exact mask_none rfl rfl
        rw [em]; exact sq
      · intro v H' d S' g r q
        subst q
        cases r; rfl
    · rcases r with e | (_ | _ | _ | u)
      · obtain ⟨_, _, _, _, _, _, _, _, _, _, _, _, q⟩ := z
        exact q.elim
      · exact z.elim
      · exact z.elim
      · exact z.elim
      · obtain ⟨v, H', os, bare, un, ok', rv, q⟩ := z
        subst q
        obtain rfl : u = Value.bool true := rv
        refine ⟨rfl, OldK.of_keep fun b o e => ?_, os, bare⟩
        cases q : H b with
        | none => exact un.keep b o e q (fun z => (List.not_mem_nil z).elim) (fun z => (List.not_mem_nil z).elim)
        | some u =>
          obtain ⟨_, _, ob, xs, rfl⟩ := only b u q
          have k1 := (ok b _ q).1
          have k2 := (ok' b _ (un.frzs b ob _ q)).1
          rw [e] at k1; cases k1
          exact k2
  cases hk : K.lookup a with
  | some o =>
    have e := kin a o hk
    rw [ha] at e; cases e
    exact go noH (fun b u q => nomatch q) (fun b u q => nomatch q) (.inr ⟨_, vs.toArray, _, hk, rfl, rfl, rfl, by rw [List.size_toArray, lv]; exact Nat.le_trans hl hn, by simpa using vi⟩)
  | none =>
    refine go (upd noH a (.frz { cls := .type "list", data := .seq vs.toArray } (.lst (ns.map V.int)))) (fun b u q => ?_) (fun b u q => ?_) (.inl (.inr ⟨_, upd_same⟩))
    · by_cases z : b = a
      · subst z
        rw [upd_same] at q; cases q
        exact ⟨ha, by rw [List.length_map]; exact Nat.le_trans hl hn, vs, _, vi, ha⟩
      · rw [upd_ne z] at q; cases q
    · by_cases z : b = a
      · subst z
        rw [upd_same] at q; cases q
        exact ⟨rfl, hk, _, _, rfl⟩
      · rw [upd_ne z] at q; cases q
/-- the goal that k_head leaves -/
theorem walkG {l : PySem.W.OpenLaw} {n k : Nat} {q : Program} {loose : List Str} {XP : (Str → Option Value) → Heap → Prop} {YP : World → Heap → Prop} {d : DefRec} {K : Params → PySem.W.Frag} {x : Str}
    (hn : l.most = some n) (hn2 : n ≤ sizeLine) (hdf : d.params.defaults = []) (hr : Room k callerA) (hY : ∀ (w : World) (h : Heap), YP w h → (K w.params).In h)
    (F : ∀ (w : World) (mg : Str → Option Value) (fa : Addr) (h : Heap), (K w.params).In h → h.Ns mainGlobals mg → mg d.name = some (.ref fa) →
      ∃ fd : FuncData, (∀ (s : Shared) (u : Value), BindsTo s fd ⟨[u], []⟩ [(x, u)]) ∧ ∀ base : Heap, (K w.params).In base → base.Ns mainGlobals mg → FnG l.prog w (K w.params) mg base k fa fd [x] (lift (K w.params) (spdLaw n))) :
    PySem.W.WalkO q loose XP YP l.row.toRowW d [] (fun f vs => PySem.call f vs) := Att.attach_call hn hdf fun w s₀ s₁ mg mb fa o pm cd doc a vs ns G Y ho hd hcd hmg hobj hints hlen hg => by
  have kin := hY w _ Y
  obtain ⟨fd, hb, hF⟩ := F w mg fa _ kin G.T.g hmg
  exact law_end kin G.T.g G.T.b G.T.builtins G.T.nolimit hg hobj hints hlen hn2 hr hF hb
end VL

/-! VL: own exceptions. -/
namespace VL
open PySem PySem.Spec PyProof.Rows L2

/-! ### P.__init__(self, ..), P an own class above, without an __init__ of its own -/
structure BaseK (K : PySem.W.Frag) (P : Addr) : Prop where
  rd : PySem.W.readsIn K P (.type "type") = true
  ga : PySem.W.specialIn K (.ref P) "__getattribute__" = some (some (.builtin "type.__getattribute__"))
  at_ : PySem.W.findCls K (.ref P) (.type "type") "__init__" = some (.val (.builtin "ValueError.__init__"))
section
variable {X : Cx} {x : Str} {P : Addr} {e : Expr} {es : List Expr} {ta : TA} {p1 p2 pos : Pos}
theorem pe_pinit {pl : Sem Bool} (B : BaseK X.K P) (hg : Gl X x) (hm : X.mg x = some (.ref P)) (ha : PA X (e :: es) ta) (hdb : (x == ("__debug__" : Str)) = false := by decide)
    (hc : eval (.Call (.Attribute (.Name x p1) "__init__" p2) (e :: es) [] pos) X.env = (do
      let ov ← eval (.Name x p1) X.env
      standAt p2.atName
      let (f, first) ← holding [ov] (getMethod ov "__init__" pl)
      callWith pos f first (backTo pos (starEach (e :: es) X.env)) (backToKw pos (keywordEach [] X.env))) := by rfl)
    (he : starEach (e :: es) X.env = (false, eval e X.env) :: starEach es X.env := by rfl) (hpl : (backTo pos (starEach es X.env)).any (·.1) = false := by rfl) :
    PE X (.Call (.Attribute (.Name x p1) "__init__" p2) (e :: es) [] pos) (tVeI X.K ta) := by
  refine ⟨fun pins s σ H Q I h => ?_⟩
  refine PySem.W.methodCall_KW (ld_glob I hg hm ?_ hdb) hc
  refine PySem.W.method_cls I.kIn B.ga (PySem.W.cls_value I.kIn B.rd B.at_ (by decide +kernel) ?_)
  show wpAny _ _ (callWith pos (Value.builtin "ValueError.__init__") [] (backTo pos (starEach (e :: es) X.env)) []) _ _ _
  refine PyProof.Rows.callWith_method1 (thn (ha.run pos pins _ σ H _ (I.tok _) h) fun us s1 hh => ?_) he hpl
  obtain ⟨vs, H1, I1, r1, a, C, ws, ev, hl, T, ea, q⟩ := hh
  subst ev
  cases r1 with
  | cons ra rw' =>
    cases ra
    refine oinit_ok T I1 ea ?_ fun s' J => ⟨.non, H1, J, rfl, q⟩
    rw [← Paired.length rw', sizeLine_eq]
    omega
end

/-! ### the __init__ of such a class, and the making -/
def spInit (K : PySem.W.Frag) (f : Str) : Sp := fun vs H Q _ => ∃ (a C : Addr) (v : V), vs = [.ref a, v] ∧ OexC K C ∧ PySem.W.findIn K (.ref C) f = some none ∧ H a = some (exo a C none) ∧
  ∀ dx, H dx = none → dx ≠ a → Q .non (upd (upd H dx (exd dx [(f, v)])) a (exo a C (some dx)))
def tInit (K : PySem.W.Frag) (f z : Str) : TS := tSeq (tDrop (tVeI K (tCons (tVar 0) (tCons (tC (.str z)) tNil)))) (tOst K f (tVar 1) (tVar 0))
def tInit' (K : PySem.W.Frag) (f z : Str) : TS := tSeq (tDrop (tVeI K (tCons (tVar 0) (tCons (tC (.str z)) tNil)))) (tOst K f (tVar 0) (tVar 1))
section
variable {P : Program} {w : World} {K : PySem.W.Frag} {mg : Str → Option Value} {base : Heap}
theorem init_ok {x qual f z p0 p1 : Str} {params : Arguments} {body : List Stmt} {scope : Scope} {fa : Addr} {fd : FuncData} {k : Nat} (Fd : FunD K x qual params body scope [] [] fa fd) (T : FnScope [p0, p1] [p0, p1] scope)
    (hb : ∀ (cdv : Value) (A : Around) (outer : List Env) (s : Shared) (H : Hp) (E : XK), A.guards = some [] → PSs (cxOf (L2.CX P w) P w K mg base [p0, p1] qual scope fa cdv A outer s H E) body (tInit' K f z)) : FnG P w K mg base (k + 1) fa fd [p0, p1] (spInit K f) := by
  obtain ⟨oc, od, dV, kV, doc, pm, an, cdv, ct, osl, rfl, lk, hcd, _, _⟩ := Fd.ex
  refine fnG_of lk hcd T (fun vs H Q E ⟨a, C, v, e, _⟩ => by rw [e]; rfl) fun A outer s H vs Q E hgd hr h => ⟨_, hb cdv A outer s H E hgd, ?_⟩
  obtain ⟨a, C, v, rfl, T1, hno, ea, q⟩ := h
  refine ⟨_, rfl, ?_⟩
  refine ⟨a, C, [.str z], rfl, Nat.succ_le_succ (Nat.zero_le 999), T1, ea, ?_⟩
  exact ⟨_, rfl, _, rfl, a, C, rfl, T1, hno, .inl ⟨ea, q⟩⟩
end
/-- C(e): what reading e gives lies in the field f -/
def tMkR (C : Addr) (f : Str) (te : TE) : L2.St → Hp → XK → Prop := fun σ H Q => tCons te tNil σ H fun vs H1 => ∃ v, vs = [v] ∧ ∀ dx, H1 dx = none → Q (.ref C) (some dx) (upd H1 dx (.xd [(f, v)]))
/-- what the written part says of such a class and its __init__ -/
structure OwnK (K : PySem.W.Frag) (mg : Str → Option Value) (x f : Str) (C fI : Addr) : Prop where
  gC : mg x = some (.ref C)
  T : OexC K C
  no : PySem.W.findIn K (.ref C) f = some none
  iC : PySem.W.findIn K (.ref C) "__init__" = some (some (.ref fI))
  tI : PySem.W.typeIn K (.ref fI) = some (.type "function")
section
variable {X : Cx} {W : WX} {x f : Str} {C fI : Addr} {fd : FuncData} {ps : List Str} {e : Expr} {te : TE} {de : TEd} {p pos pos2 : Pos} {k : Nat}
theorem pmk_ownG (O : OwnK X.K X.mg x f C fI) (Fn : FnG X.prog X.w X.K X.mg X.base k fI fd ps (spInit X.K f)) (hgd : X.A.guards = some []) (hr : Room (k + 1) X.A) (hb : Binds X.K fd ps []) (ha : PA X [e] (tCons te tNil)) (hg : Gl X x)
    (hdb : (x == ("__debug__" : Str)) = false := by decide) (hs : starEach [e] X.env = (false, eval e X.env) :: starEach [] X.env := by rfl) (hpl : (backTo pos (starEach [] X.env)).any (·.1) = false := by rfl) :
    PMk X (.Call (.Name x p) [e] [] pos) (tMkR C f te) := by
  intro pins s σ H Q I h
  obtain ⟨nm, q, N, bs, bm, sn, sub, ab, col, dd, k0, k1, k2, k3, k5, hC, hbm⟩ := O.T.cls
  refine wpAny_Call_Name_kw (ld_glob I hg O.gC ?_ hdb)
  refine PySem.W.callWith_K (h₀ := X.base) I.ok.mod.kin O.T.kC (thn (ha.run pos pins s σ H _ I h) fun us s1 hh => ?_) hs hpl
  obtain ⟨vs, H1, I1, r1, v, rfl, q1⟩ := hh
  refine ⟨I1.kIn, ?_⟩
  show wpAny _ _ (call (.ref C) us) _ _ _
  obtain ⟨hp, g, dr, tk, os⟩ := s1
  have hsz : hp.objs.size ≤ hp.objs.size + 1 := Nat.le_succ _
  have hn : H1 (hp.objs.size + 1) = none := I1.hok.fresh hsz
  have old : ∀ b o, hp.get? b = some o → ((hp.push (PySem.W.kdv_tup us)).push (PySem.HandSPX.excO C hp.objs.size)).get? b = some o := fun b o z => Heap.get?_push_of_some _ (Heap.get?_push_of_some _ z)
  have there : ((hp.push (PySem.W.kdv_tup us)).push (PySem.HandSPX.excO C hp.objs.size)).get? (hp.objs.size + 1) = some (PySem.HandSPX.excO C hp.objs.size) := by heap_get
  have I2 : Inv X pins σ (upd H1 (hp.objs.size + 1) (exo (hp.objs.size + 1) C none)) ⟨(hp.push (PySem.W.kdv_tup us)).push (PySem.HandSPX.excO C hp.objs.size), g, dr, tk, os⟩ :=
    I1.laid (t' := tk) (a := hp.objs.size + 1) (o := exo (hp.objs.size + 1) C none) old hsz (exo_ok there)
  have r2 : Vals [V.ref (hp.objs.size + 1), v] (Value.ref (hp.objs.size + 1) :: us) := .cons rfl r1
  let a := hp.objs.size + 1
  have hsp : spInit X.K f [V.ref a, v] (upd H1 a (exo a C none)) (fun v' H2 => v' = .non ∧ ∃ (d : Addr) (fs : List (Str × V)), H2 a = some (exo a C (some d)) ∧ H2 d = some (exd d fs) ∧ H1 d = none ∧ Q (.ref C) (some d) (upd (del H2 a) d (.xd fs))) (fun _ _ _ => False) := by
    refine ⟨a, C, v, rfl, O.T, O.no, upd_same, fun dx hd hne => ⟨rfl, dx, [(f, v)], upd_same, by rw [upd_ne hne, upd_same], by rw [upd_ne hne] at hd; exact hd, ?_⟩⟩
    rw [upd_ne hne] at hd
    have ee : upd (del (upd (upd (upd H1 a (exo a C none)) dx (exd dx [(f, v)])) a (exo a C (some dx))) a) dx (.xd [(f, v)]) = upd H1 dx (.xd [(f, v)]) := by
      funext b
      by_cases h1 : b = dx
      · subst h1; rw [upd_same, upd_same]
      · rw [upd_ne h1, upd_ne h1]
        by_cases h2 : b = a
        · subst h2; rw [del_same, hn]
        · rw [del_ne h2, upd_ne h2, upd_ne h1, upd_ne h2]
    rw [ee]; exact q1 dx hd
  have hl : (Value.ref a :: us ++ []).length = ps.length := by
    have e1 := r2.length
    rw [Fn.len _ _ _ _ hsp] at e1
    rw [List.append_nil]; exact e1.symm
  have hus : us.length ≤ sizeLine := by
    rw [← Paired.length r1, sizeLine_eq]; exact Nat.succ_le_succ (Nat.zero_le _)
  refine wpAny_call (PySem.HandSPX.call_own F.excBase_ValueError (fun Y => PySem.HandSPX.refsVE_contains Y bm hbm) (I1.kIn _ _ hC) (PySem.W.looks_findIn I1.kIn O.iC) (fun self => PySem.W.bind_fn I1.kIn self O.tI) hus
    (codeAny_mono (Fn.run _ X.stack _ _ ⟨Value.ref a :: us, []⟩ (Value.ref a :: us) _ _ (fun _ _ _ => False) hgd (hr.make C us []) (I2.env0.make C us []) (by have z := hb _ (Value.ref a :: us) I2.kIn hl; rwa [List.append_nil] at z) r2 hsp) fun r s' hq' => ?_))
  rcases r with er | (_ | _ | _ | u)
  · obtain ⟨_, _, _, _, _, _, _, _, _, _, _, _, z⟩ := hq'
    exact z.elim
  · exact hq'.elim
  · exact hq'.elim
  · exact hq'.elim
  · obtain ⟨v', H2, os2, bare2, un2, hok2, rv, ev, d, fs, ea, ed, hd1, q2⟩ := hq'
    subst ev
    obtain ⟨h2, g2, d2, t2, os'⟩ := s'
    exact ⟨rv, mk_end (raises_own O.T.exC O.T.tyC) I1 hsz old un2 hok2 os2 bare2 ea ed hd1 q2⟩
/-- raise C(e) -/
def dRaiseO (C : Addr) (f : Str) (de : TEd) : TSd := fun D σ S => de σ S (fun d S1 => D.ex σ (.ref C) [(f, d)] S1) (D.ex σ)
theorem vs_raiseO (hc : X.calm = true) (tk : Takes X W) (O : OwnK X.K X.mg x f C fI) (Fn : FnG X.prog X.w X.K X.mg X.base k fI fd ps (spInit X.K f)) (hgd : X.A.guards = some []) (hr : Room (k + 1) X.A) (hb : Binds X.K fd ps []) (he : VE X W e te de) (hg : Gl X x := by rfl)
    (hdb : (x == ("__debug__" : Str)) = false := by decide) (hs : starEach [e] X.env = (false, eval e X.env) :: starEach [] X.env := by rfl) (hpl : (backTo pos (starEach [] X.env)).any (·.1) = false := by rfl) :
    VS X W (.Raise (some (.Call (.Name x p) [e] [] pos)) none pos2) (fun _ σ H => tMkR C f te σ H fun cls d H' => W cls d σ H') (dRaiseO C f de) :=
  ⟨ps_raise hc tk (pmk_ownG O Fn hgd hr hb (pa_cons he.run pa_nil hs) hg hdb hs hpl), fun {σV F H σ S Dd D} hs er h l =>
    he.snd (Q := fun v H1 => ∃ v', [v] = [v'] ∧ ∀ dx, H1 dx = none → W (.ref C) (some dx) σV (upd H1 dx (.xd [(f, v')]))) hs er h (fun v H1 d S1 g r h1 => ⟨v, rfl, fun dx hd => by
      have gn : Good X.K F H1 S1 (upd H1 dx (.xd [(f, v)])) S1 := ⟨hst_new g.hst hd, same_new g.hst hd⟩
      exact l.exs hs er (.ref C) (some dx) _ [(f, d)] S1 (g.trans gn) ⟨[(f, v)], mask_new g.hst hd, .cons (r.mono gn.same) .nil⟩ h1⟩) (l.exs hs er)⟩
end
end VL

/-! VL: try, and the exception that a clause holds. -/
namespace VL
open PySem PySem.Spec PyProof.Rows L2

section
variable {X : Cx} {W : WX} {P : Prop} {st : Stmt} {sts : List Stmt} {e : Expr} {t : TS} {td : TSd} {te : TE} {de : TEd}
/-- where P must hold -/
theorem vs_when (h : P → VS X W st t td) : VS X W st (fun D σ H => P ∧ t D σ H) (fun D σ S => P ∧ td D σ S) := ⟨⟨fun pins s σ H D I q => (h q.1).run.run pins s σ H D I q.2⟩, fun hs er q l => ⟨q.1, (h q.1).snd hs er q.2 l⟩⟩
theorem ve_when (h : P → VE X W e te de) : VE X W e (fun σ H Q => P ∧ te σ H Q) (fun σ S Q E => P ∧ de σ S Q E) := ⟨⟨fun pins s σ H Q I q => (h q.1).run.run pins s σ H Q I q.2⟩, fun hs er q lq lx => ⟨q.1, (h q.1).snd hs er q.2 lq lx⟩⟩
end

/-! ### what is read off the exception -/
def dXf (a : Addr) (cls : Value) (d : Option Addr) (C : Addr) (f : Str) (de : TEd) : TEd := fun σ S Q E => de σ S (fun x S1 => match x with
  | .exc a' d' c' fs => a' = a ∧ d' = d ∧ cls = .ref C ∧ (match fs.lookup f with
    | some v => Q v S1
    | none => False)
  | _ => False) E
section
variable {X : Cx} {W : WX} {a C : Addr} {oe : Obj} {cls : Value} {d : Option Addr} {pn : List (Addr × Obj)} {e : Expr} {te : TE} {de : TEd} {pos : Pos} {n : Str}
theorem ve_xf (T : XfC X.K C) (hno : PySem.W.findIn X.K (.ref C) n = some none) (hz : Zc cls d oe) (hf : ∃ vs, oe.data = .fields vs) (he : VE (X.suite a ((a, oe) :: pn)) W e te de) (hb : attributeBase e n X.env (eval e X.env) = eval e X.env := by rfl) :
    VE (X.suite a ((a, oe) :: pn)) W (.Attribute e n pos) (tXf a cls d C n te) (dXf a cls d C n de) := ⟨pe_xf T hno hz hf he.run hb, fun {σV F H σ S Qd E Q} hs er h hq hx =>
  he.snd hs er h (fun v H1 x S1 g r h1 => by
    split at h1
    · next a' d' c' fs =>
      obtain ⟨rfl, rfl, rfl, h1⟩ := h1
      cases r with
      | exn => simp at h1
      | exs _ _ hm rf =>
        split at h1
        · next v' ev =>
          obtain ⟨u, h2, h3⟩ := rf.lookup.1 v' ev
          exact ⟨rfl, rfl, _, _, u, rfl, mask_le _ _ hm, h2, hq u H1 v' S1 g h3 h1⟩
        · cases h1
    · cases h1) hx⟩
end

/-! isinstance of it -/
section
variable {K : PySem.W.Frag} {prog : Program} {w : World} {A : Around} {E : Value → Shared → Prop} {s : Shared} {x D : Addr} {ox : Obj} {od : Option Obj}
theorem own_class {Q : Option Value → Shared → Prop} (c : ExcC K D) (X : K.In s.heap) (I : PySem.W.InstAt s.heap x ox D od) (h : Q (some (.ref D)) { s with toks := s.toks + 1 }) : wpAny (model prog w) A (getAttr? (.ref x) "__class__") Q E s := by
  have kc : (PySem.W.clsIn K D).isSome = true := by
    obtain ⟨cd, e, _⟩ := PySem.W.any_some c.hd
    rw [e]; rfl
  have seen : PySem.W.findObj K D od "__class__" = some (.bind (.builtin "getset_descriptor.__get__") (.builtin "object.__class__")) := by
    obtain ⟨cd, e⟩ := Option.isSome_iff_exists.mp kc
    unfold PySem.W.findObj
    rw [e, Option.bind_some, c.ha, Option.bind_some]
    simp [c.hn, c.ht]
  obtain ⟨hp, g, d, t, os⟩ := s
  have l0 := I.type (M := model prog w)
  have l1 := PySem.W.looks_findIn (M := model prog w) X c.hg
  have l2 := PySem.W.looks_findIn (M := model prog w) X c.hk
  have l3 := PySem.W.looks_find (M := model prog w) X I seen
  have below : PySem.W.Looks (model prog w) hp (isInstance (.ref x) (.type "BaseException")) true := l0.andThen (PySem.W.looks_subIn X c.hs)
  have n1 : (Value.builtin "BaseException.__getattribute__" == Value.builtin "object.__getattribute__") = false := by decide +kernel
  have n2 : (onTheHeap (Value.ref D) && Value.builtin "BaseException.__getattribute__" == Value.builtin "object.__getattribute__") = false := by rw [n1]; rfl
  have n3 : (false && onTheHeap (Value.builtin "BaseException.__getattribute__")) = false := rfl
  unfold getAttr? getAttrBy? getAttrBy
  refine wpAny_bind (wpAny_mkText (wpAny_bind (wpAny_attempt (wpAny_holding (wpAny_bind (l0.at (wpAny_bind (l1.at ?_))))))))
  show wpAny _ _ (if (onTheHeap (Value.ref D) && Value.builtin "BaseException.__getattribute__" == Value.builtin "object.__getattribute__") = true then _ else _) _ _ _
  rw [n2, if_neg Bool.false_ne_true]
  unfold getAttrByItsOwn hookBefore
  refine wpAny_bind ?_
  rw [if_pos (show onTheHeap (Value.ref D) = true from rfl)]
  refine l2.at (wpAny_bind (wpAny_attempt (wpAny_holding ?_)))
  unfold callGetattribute
  rw [n3, if_neg Bool.false_ne_true]
  unfold boundAndCalled
  rw [PySem.F.excAttr_ValueError.ga.bind (.ref x)]
  refine wpAny_bind (wpAny_pure ?_)
  show wpAny _ _ (call (.builtin "BaseException.__getattribute__") [.ref x, .str "__class__" t]) _ _ _
  refine wpAny_call (codeAny_call_builtin PySem.F.excAttr_ValueError.ga.plain PySem.F.entry_bexc_ga ?_)
  refine @PySem.W.check_slot (model prog w) _ _ ⟨hp, g, d, t + 1, os⟩ "BaseException.__getattribute__" "BaseException" "__getattribute__" (.ref x) [.str "__class__" t] [] _ (by decide +kernel) (by decide +kernel) below (PySem.F.args_bexc_ga (.ref x) (.str "__class__" t)) ?_
  unfold Builtin.«object.__getattribute__»
  refine wpAny_bind (wpAny_of_eq (a := ((Value.ref x : Value), [Value.str "__class__" t])) (by first | rfl | (simp only [slotArgs]; rfl)) ?_)
  refine wpAny_bind (wpAny_pure (wpAny_bind (l0.at (wpAny_bind (l3.at ?_)))))
  show wpAny _ _ (holding [Value.builtin "object.__class__"] (call (.builtin "getset_descriptor.__get__") [.builtin "object.__class__", .ref x, .ref D]) >>= ret) _ _ _
  refine wpAny_bind (wpAny_holding (wpAny_call (PySem.W.class_get (s := ⟨hp, g, d, t + 1, os⟩) (ox := ox) (od := od) X I c.hm ?_)))
  refine wpAny_pure ?_
  show wpAny _ _ (handedOut (.ref D)) _ _ _
  rw [PySem.W.handedOut_of (v := .ref D) rfl]
  first
    | exact wpAny_pure (wpAny_pure h)
    | exact wpAny_pure h
    | exact wpAny_pure (wpAny_bind (wpAny_pure (wpAny_pure h)))
theorem own_kitx (c : ExcC K D) : PySem.W.KitX K (.ref x) (.ref D) (fun h => ∃ od, PySem.W.InstAt h x ox D od) := by
  obtain ⟨cd, e0, _⟩ := PySem.W.any_some c.hd
  refine ⟨fun _ _ _ ⟨_, I⟩ => I.type, fun _ _ X _ => ?_, fun h tp dd its n sl X htp => ?_, fun X ⟨od, I⟩ k => own_class c X I k⟩
  · unfold PySem.W.clsIn at e0
    split at e0
    · next ho =>
      intro A' Q' E' s' k q
      unfold isType loadHead
      exact wpAny_bind (wpAny_loadPart (k _ _ (X _ _ ho)) (wpAny_pure q))
    · cases e0
  · refine Bool.eq_false_iff.mpr fun q => ?_
    obtain rfl : D = tp := Value.ref.inj (beq_iff_eq.mp q)
    unfold PySem.W.clsIn at e0
    split at e0
    · next ho => have z := (X _ _ ho).symm.trans htp; cases z
    · cases e0
end
/-! isinstance(e, C): kit tells of two own classes -/
section
variable {X : Cx} {W : WX} {a : Addr} {oe : Obj} {cls : Value} {d : Option Addr} {pn : List (Addr × Obj)} {kit : Addr → Addr → Option Bool}
def rIsX' (K : PySem.W.Frag) (a : Addr) (cls : Value) (d : Option Addr) (kit : Addr → Addr → Option Bool) : List V → Hp → VK → Prop := fun xs H Q => ∃ (D c : Addr) (b : Bool), xs = [.ref a, .ref c] ∧ cls = .ref D ∧ kit D c = some b ∧ (d = none ∨ ∃ dd fs, d = some dd ∧ H dd = some (.xd fs)) ∧ Q (.bl b) H
theorem call_isX (hk : ∀ D c b, kit D c = some b → ExcC X.K D ∧ PySem.W.kitOne X.K (.ref D) (.ref c) = some b) (hz : Zc cls d oe) (hf : ∃ vs, oe.data = .fields vs) : CallR (X.suite a ((a, oe) :: pn)) (.builtin "isinstance") (rIsX' X.K a cls d kit) := by
  intro pins s σ H xs us Q I r h
  obtain ⟨D, c, b, rfl, rfl, e, hd, q⟩ := h
  obtain ⟨C, e⟩ := hk D c b e
  cases r with
  | cons rx rr =>
    cases rr with
    | cons rt rr =>
      cases rr
      cases rx
      cases rt
      obtain ⟨hget, _⟩ := I.pin (a, oe) (List.mem_append.mpr (.inl List.mem_cons_self))
      obtain ⟨vs, hv⟩ := hf
      have J : ∃ od, PySem.W.InstAt s.heap a oe D od := by
        obtain ⟨oc, odd, oda, osl⟩ := oe
        obtain ⟨h1, h2⟩ := hz
        dsimp only at h1 h2 hv
        subst h1 h2 hv
        rcases hd with rfl | ⟨dd, fs, rfl, ha⟩
        · exact ⟨none, hget, rfl, rfl, trivial⟩
        · have hx : ObjOk X.prog X.w H s.heap dd (.xd fs) := I.hok dd _ ha
          obtain ⟨mA, hns, _⟩ := hx
          obtain ⟨od, ho, _⟩ := lookIn_ns hns
          exact ⟨some od, hget, rfl, rfl, ho⟩
      exact PySem.W.kia_one (own_kitx C) I.kIn J e (fun z => nomatch z) fun tk => ⟨.bl b, H, I.kept (t' := tk) fun _ _ z => z, rfl, q⟩
def dIsX (a : Addr) (cls : Value) (d : Option Addr) (kit : Addr → Addr → Option Bool) : RCd := fun ds S Q => match ds with
  | [.exc a' d' _ _, .ref c] => a' = a ∧ d' = d ∧ (match cls with
    | .ref D => match kit D c with
      | some b => Q (.bl b) S
      | none => False
    | _ => False)
  | _ => False
theorem snd_isX : SndC X.K (rIsX' X.K a cls d kit) (dIsX a cls d kit) := fun {xs ds F H S Qd Q} hs r h hq => by
  unfold dIsX at h; split at h
  · next a' d' c' fs c =>
    obtain ⟨rfl, rfl, h⟩ := h
    cases r with
    | cons r1 r2 =>
      cases r2 with
      | cons r2 r3 =>
        cases r3
        cases r2
        split at h
        · next D =>
          split at h
          · next b eb =>
            cases r1 with
            | exn => exact ⟨D, c, b, rfl, rfl, eb, .inl rfl, hq _ H _ S (.refl hs) (.bl b) h⟩
            | exs _ _ hm rf => exact ⟨D, c, b, rfl, rfl, eb, .inr ⟨_, _, rfl, mask_le _ _ hm⟩, hq _ H _ S (.refl hs) (.bl b) h⟩
          · cases h
        · cases h
  · cases h
end

/-! ### try: .. except C as n: .. -/
def dTryAs (sub : Value → Option Bool) (i : Nat) (tb : TSd) (ts : Addr → Value → Option Addr → TSd) : TSd := fun D σ S =>
  tb { D with ex := fun σ1 cls fs S1 => match sub cls with
    | some true => ∀ a d, S1 a = none → ts a cls d { nx := fun σ2 S2 => D.nx (σ2.set i none) S2, rt := D.rt, bk := fun σ2 S2 => D.bk (σ2.set i none) S2, ct := fun σ2 S2 => D.ct (σ2.set i none) S2 } (σ1.set i (some (.exc a d cls fs))) S1
    | some false => D.ex σ1 cls fs S1
    | none => False } σ S
theorem xrep_exc {K : PySem.W.Frag} {M : Hp} {a : Addr} {cls : Value} {d : Option Addr} {fs : List (Str × D)} (h : XRep K M d fs) : Rep K M (.ref a) (.exc a d cls fs) := by
  cases d with
  | none => have z : fs = [] := h; subst z; exact .exn a cls
  | some dd => obtain ⟨fv, h1, h2⟩ := h; exact .exs a cls h1 h2
section
variable {X : Cx} {x n : Str} {c : Value} {i : Nat} {body suite : List Stmt} {b₀ : Stmt} {np pos pos' : Pos} {tb : WX → TS} {tbd : TSd} {ts : Addr → Value → Option Addr → TS} {tsd : Addr → Value → Option Addr → TSd} {W : WX} {sub : Value → Option Bool}
theorem vs_try_as (hs : X.stack = X.env :: X.outer) (hf : X.env.frame = some X.env.locals) (hN : X.N.Nodup) (hi : X.N[i]? = some n) (hln : X.env.kindOf n = some .local) (hc : Names X x c) (tk : Takes X W)
    (hsub : ∀ cls b, sub cls = some b → PySem.W.exmOne X.K cls c = some b)
    (hb : ∀ (W' : WX) (pn : List (Addr × Obj)) (xe : Value → Shared → Prop), Takes (X.tr pn xe) W' → PassesOwn (model X.prog X.w) X.A X.env xe → VSs (X.tr pn xe) W' body (tb W') tbd)
    (hbs : ∀ W' : WX, SndS X.K W' (tb W') tbd)
    (hsu : ∀ (a : Addr) (oe : Obj) (cls : Value) (d : Option Addr) (pn : List (Addr × Obj)), Zc cls d oe → (∃ vs, oe.data = .fields vs) → VSs (X.suite a ((a, oe) :: pn)) WF (b₀ :: suite) (ts a cls d) (tsd a cls d)) :
    VS X W (.Try body [.ExceptHandler (some (.Name x np)) (some n) (b₀ :: suite) pos'] [] [] pos) (fun D σ H => tb (wAs X.K c i ts W D) D σ H) (dTryAs sub i tbd tsd) :=
  ⟨ps_try_as hs hf hN hi hln hc tk (fun W' pn xe a b => (hb W' pn xe a b).run) (fun a oe cls d pn h1 h2 => (hsu a oe cls d pn h1 h2).run), fun {σV F H σ S Dd D} hst er h l => by
    refine hbs _ hst er h ⟨l.nx, l.rt, l.bk, l.ct, ?_⟩
    intro σV' H' σ' S' g er' cls d H2 fs S2 g2 xr hE
    have gg := g.trans g2
    dsimp only at hE
    split at hE
    · next e =>
      refine ⟨true, hsub _ _ e, fun _ a ha => ?_, fun z => nomatch z⟩
      have ll := l.next gg
      refine (hsu a { cls := cls, dict := d, data := .fields #[] } cls d [] ⟨rfl, rfl⟩ ⟨_, rfl⟩).snd g2.hst ((er'.mono g2.same).set (xrep_exc xr)) (hE a d (g2.hst.free ha)) ⟨fun a b c d g3 er3 h3 => ll.nx _ _ _ _ g3 er3.setNone h3, ll.rt, fun a b c d g3 er3 h3 => ll.bk _ _ _ _ g3 er3.setNone h3, fun a b c d g3 er3 h3 => ll.ct _ _ _ _ g3 er3.setNone h3, fun _ _ _ _ _ _ _ _ _ _ _ _ _ z => z.elim⟩
    · next e => exact ⟨false, hsub _ _ e, fun z => (nomatch z), fun _ => (l.next g).exs g.hst er' cls d H2 fs S2 g2 xr hE⟩
    · cases hE⟩
end
end VL

/-! VL: defs ready to be called; what the head tells; the end over a head. -/
namespace VL
open PySem PySem.Spec PyProof.Rows L2

/-! ### ready defs -/
structure Rdy (P : Program) (w : World) (K : PySem.W.Frag) (mg : Str → Option Value) (base : Heap) (k : Nat) (x : Str) (dvs : List V) (dds : List D) (spd : Spd) : Prop where
  ex : ∃ (f : Addr) (fd : FuncData) (ps : List Str) (ds0 : List Value), FnG P w K mg base k f fd ps (lift K spd) ∧ mg x = some (.ref f) ∧ PySem.W.keepIn K (.ref f) = true ∧ Binds K fd ps ds0 ∧ Vals dvs ds0 ∧ ∀ M : Hp, Reps K M dvs dds
/-- with keywords: all that follow the n positional values, in their order -/
structure RdyK (P : Program) (w : World) (K : PySem.W.Frag) (mg : Str → Option Value) (base : Heap) (k : Nat) (x : Str) (n : Nat) (ks : List Str) (gV : List V → List V → List V) (gD : List D → List D → List D) (spd : Spd) : Prop where
  ex : ∃ (f : Addr) (fd : FuncData) (ps : List Str) (g : List Value → List Value → List Value), FnG P w K mg base k f fd ps (lift K spd) ∧ mg x = some (.ref f) ∧ PySem.W.keepIn K (.ref f) = true ∧ KBn K fd ps n ks g gV
  rel : ∀ (M : Hp) (vs zs : List V) (ds es : List D), Reps K M vs ds → Reps K M zs es → Reps K M (gV vs zs) (gD ds es)
section
variable {P : Program} {w : World} {K : PySem.W.Frag} {mg : Str → Option Value} {base : Heap} {j k : Nat} {x : Str} {dvs : List V} {dds : List D} {spd : Spd} {n : Nat} {ks : List Str} {gV : List V → List V → List V} {gD : List D → List D → List D}
theorem Rdy.mono (h : Rdy P w K mg base j x dvs dds spd) (le : j ≤ k) : Rdy P w K mg base k x dvs dds spd := by
  obtain ⟨f, fd, ps, ds0, a, r⟩ := h.ex
  exact ⟨f, fd, ps, ds0, a.mono le, r⟩
theorem RdyK.mono (h : RdyK P w K mg base j x n ks gV gD spd) (le : j ≤ k) : RdyK P w K mg base k x n ks gV gD spd := by
  obtain ⟨f, fd, ps, g, a, r⟩ := h.ex
  exact ⟨⟨f, fd, ps, g, a.mono le, r⟩, h.rel⟩
end
theorem binds_nil {K : PySem.W.Frag} {fd : FuncData} {ps : List Str} (h : ∀ us : List Value, us.length = ps.length → ∀ s : Shared, BindsTo s fd ⟨us, []⟩ (ps.zip us)) : Binds K fd ps [] := fun s us X hl => by
  rw [List.append_nil] at hl ⊢
  exact h us hl s
/-- f(e, .., k = v, ..): no default is needed -/
theorem kbn_all {K : PySem.W.Frag} {x qual : Str} {params : Arguments} {body : List Stmt} {scope : Scope} {kws : List (Str × V)} {f : Addr} {fd : FuncData} {ps : List Str} (F : FunD K x qual params body scope [] kws f fd) (hk : kws ≠ []) (n : Nat) (ks : List Str)
    (h : ∀ (Dk : Addr) (doc pm : Value) (an : Option Addr) (cdv ct : Value) (us ws : List Value), us.length = n → ws.length = ks.length → bindArgs (PySem.W.fnOf x qual params body scope .none (.ref Dk) doc pm an cdv ct) ⟨us, ks.zip ws⟩ = pure (ps.zip (us ++ ws))) :
    KBn K fd ps n ks (fun us ws => us ++ ws) (fun vs zs => vs ++ zs) := by
  obtain ⟨oc, od, dV, kV, doc, pm, an, cdv, ct, osl, rfl, lk, hcd, hD, hK⟩ := F.ex
  rcases hD with ⟨_, rfl⟩ | ⟨e, _⟩
  · rcases hK with e | ⟨Dk, rfl, _⟩
    · exact absurd e hk
    · exact ⟨fun s us ws _ h1 h2 => .of_eq (h Dk doc pm an cdv ct us ws h1 h2), fun a b => a.append b⟩
  · exact absurd rfl e
section
variable {X : Cx} {W : WX} {k n : Nat} {dvs : List V} {dds : List D} {spd : Spd} {x : Str} {p pos : Pos} {e : Expr} {es : List Expr} {kws : List Keyword} {t tk' : TA} {da dk : TAd} {ks : List Str} {gV : List V → List V → List V} {gD : List D → List D → List D}
theorem ve_callR (R : Rdy X.prog X.w X.K X.mg X.base k x dvs dds spd) (hgd : X.A.guards = some []) (hr : Room k X.A) (tk : Takes X W) (ha : VA X W (e :: es) t da) (hg : Gl X x := by rfl) (hdb : (x == ("__debug__" : Str)) = false := by decide)
    (he : starEach (e :: es) X.env = (false, eval e X.env) :: starEach es X.env := by rfl) (hpl : (backTo pos (starEach es X.env)).any (·.1) = false := by rfl) : VE X W (.Call (.Name x p) (e :: es) [] pos) (tCallG (lift X.K spd) dvs W t) (dCall spd dds da) := by
  obtain ⟨f, fd, ps, ds0, G, hm, hk, hb, hd, hds⟩ := R.ex
  exact ve_call G hgd hr tk hm hk hb hd hds ha hg hdb he hpl
theorem ve_callR0 (R : Rdy X.prog X.w X.K X.mg X.base k x dvs dds spd) (hgd : X.A.guards = some []) (hr : Room k X.A) (tk : Takes X W) (hg : Gl X x := by rfl) (hdb : (x == ("__debug__" : Str)) = false := by decide) :
    VE X W (.Call (.Name x p) [] [] pos) (tCallG (lift X.K spd) dvs W tNil) (dCall spd dds dNil) := by
  obtain ⟨f, fd, ps, ds0, G, hm, hk, hb, hd, hds⟩ := R.ex
  exact ve_call0 G hgd hr tk hm hk hb hd hds hg hdb
theorem ve_callRK (R : RdyK X.prog X.w X.K X.mg X.base k x n ks gV gD spd) (hgd : X.A.guards = some []) (hr : Room k X.A) (tk : Takes X W) (ha : VA X W (e :: es) t da) (hkw : VK' X W kws tk' dk) (hg : Gl X x := by rfl)
    (hall : (backToKw pos (keywordEach kws X.env)).all (·.1.isSome) = true := by rfl) (hks : (backToKw pos (keywordEach kws X.env)).filterMap (·.1) = ks := by rfl)
    (hdb : (x == ("__debug__" : Str)) = false := by decide) (he : starEach (e :: es) X.env = (false, eval e X.env) :: starEach es X.env := by rfl)
    (hpl : ((backTo pos (starEach (e :: es) X.env)).any (·.1) || (backToKw pos (keywordEach kws X.env)).any (·.1.isNone)) = false := by rfl) :
    VE X W (.Call (.Name x p) (e :: es) kws pos) (tCallGK n ks.length (lift X.K spd) gV W t tk') (dCallK n ks.length spd gD da dk) := by
  obtain ⟨f, fd, ps, g, G, hm, hk, hb⟩ := R.ex
  exact ve_callK G hgd hr tk hm hk hb R.rel ha hkw hg hall hks hdb he hpl
end

/-! ### what the head tells -/
def oexB (K : PySem.W.Frag) (C : Addr) : Bool := match K.lookup C with
  | some o => (match o.data with
    | .cls cd => decide (o.cls = .type "type") && (decide (cd.mro.head? = some (.ref C)) && (PySem.HandSPX.refsVE cd.mro.tail && (cd.hasDict && (!cd.hasDel && (match o.slots.toList with
      | [_, _, _, _, some v, _] => decide (v = .builtin "ValueError.__new__")
      | _ => false)))))
    | _ => false)
  | none => false
def oexA (K : PySem.W.Frag) (C : Addr) : Bool := oexB K C && (decide (PySem.W.findIn K (.ref C) "__setattr__" = some (some (.builtin "object.__setattr__"))) && (decide (PySem.W.subIn K (.ref C) (.type "BaseException") = some true) &&
  (decide (PySem.W.typeIn K (.ref C) = some (.type "type")) && PySem.W.keepIn K (.ref C))))
theorem oexA_ok {K : PySem.W.Frag} {C : Addr} (h : oexA K C = true) : OexC K C := by
  obtain ⟨h1, h⟩ := He.ba h
  obtain ⟨h2, h⟩ := He.ba h
  obtain ⟨h3, h⟩ := He.ba h
  obtain ⟨h4, h5⟩ := He.ba h
  refine ⟨?_, of_decide_eq_true h2, of_decide_eq_true h3, of_decide_eq_true h4, h5⟩
  unfold oexB at h1
  split at h1
  · next o ho =>
    obtain ⟨oc, od, dt, ⟨sl⟩⟩ := o
    dsimp only at h1
    split at h1
    · next cd =>
      obtain ⟨nm, bs, mro, ns, qn, hd, sn, sb, ab, col, del⟩ := cd
      obtain ⟨a1, h1⟩ := He.ba h1
      obtain ⟨a2, h1⟩ := He.ba h1
      obtain ⟨a3, h1⟩ := He.ba h1
      obtain ⟨a4, h1⟩ := He.ba h1
      obtain ⟨a5, a6⟩ := He.ba h1
      have b1 : oc = .type "type" := of_decide_eq_true a1
      have b2 : mro.head? = some (.ref C) := of_decide_eq_true a2
      have b4 : hd = true := a4
      subst b1 b4
      cases mro with
      | nil => cases b2
      | cons m bm =>
        obtain rfl : m = .ref C := Option.some.inj b2
        have a5' : del = false := by simpa using a5
        subst a5'
        have b6 : ∃ k0 k1 k2 k3 k5, sl = [k0, k1, k2, k3, some (.builtin "ValueError.__new__"), k5] := by
          rcases sl with _ | ⟨k0, _ | ⟨k1, _ | ⟨k2, _ | ⟨k3, _ | ⟨k4, _ | ⟨k5, _ | ⟨k6, sl⟩⟩⟩⟩⟩⟩⟩ <;> first | (cases a6; done) | skip
          · cases k4 <;> cases a6
          · cases k4 with
            | none => cases a6
            | some v =>
              have ev : v = .builtin "ValueError.__new__" := of_decide_eq_true a6
              subst ev
              exact ⟨_, _, _, _, _, rfl⟩
          · cases k4 <;> cases a6
        obtain ⟨k0, k1, k2, k3, k5, rfl⟩ := b6
        exact ⟨nm, qn, ns, bs, bm, sn, sb, ab, col, od, k0, k1, k2, k3, k5, ho, a3⟩
    · cases h1
  · cases h1
/-- an own class x whose __init__ keeps what it is given in the field f -/
def ownB (x f : Str) (K : PySem.W.Frag) : Bool := (He.Fa.glo x).ok K && (oexA K (He.ga K x) && (decide (PySem.W.findIn K (.ref (He.ga K x)) f = some none) &&
  (decide (PySem.W.findIn K (.ref (He.ga K x)) "__init__" = some (some (.ref (He.ma K (He.ga K x) "__init__")))) && decide (PySem.W.typeIn K (.ref (He.ma K (He.ga K x) "__init__")) = some (.type "function")))))
theorem ownB_ok {K : PySem.W.Frag} {h : Heap} {mg : Str → Option Value} (X : K.In h) (G : h.Ns mainGlobals mg) {x f : Str} (c : ownB x f K = true) : OwnK K mg x f (He.ga K x) (He.ma K (He.ga K x) "__init__") := by
  obtain ⟨h1, c⟩ := He.ba c
  obtain ⟨h2, c⟩ := He.ba c
  obtain ⟨h3, c⟩ := He.ba c
  obtain ⟨h4, h5⟩ := He.ba c
  exact ⟨He.glo_ok X G h1, oexA_ok h2, of_decide_eq_true h3, of_decide_eq_true h4, of_decide_eq_true h5⟩
/-- the class above -/
def baseB (x : Str) (K : PySem.W.Frag) : Bool := (He.Fa.glo x).ok K && (PySem.W.readsIn K (He.ga K x) (.type "type") && (decide (PySem.W.specialIn K (.ref (He.ga K x)) "__getattribute__" = some (some (.builtin "type.__getattribute__"))) &&
  (match PySem.W.findCls K (.ref (He.ga K x)) (.type "type") "__init__" with
    | some (.val v) => decide (v = .builtin "ValueError.__init__")
    | _ => false)))
theorem baseB_ok {K : PySem.W.Frag} {h : Heap} {mg : Str → Option Value} (X : K.In h) (G : h.Ns mainGlobals mg) {x : Str} (c : baseB x K = true) : mg x = some (.ref (He.ga K x)) ∧ BaseK K (He.ga K x) := by
  obtain ⟨h1, c⟩ := He.ba c
  obtain ⟨h2, c⟩ := He.ba c
  obtain ⟨h3, h4⟩ := He.ba c
  refine ⟨He.glo_ok X G h1, h2, of_decide_eq_true h3, ?_⟩
  split at h4
  · next v e => rw [e, of_decide_eq_true h4]
  · cases h4
/-- instances of x are asked for their fields, their class -/
def askB (x : Str) (K : PySem.W.Frag) : Bool := xfB K (He.ga K x) && (decide (PySem.W.findIn K (.ref (He.ga K x)) "__class__" = some (some (.builtin "object.__class__"))) &&
  (decide (PySem.W.specialIn K (.builtin "object.__class__") "__get__" = some (some (.builtin "getset_descriptor.__get__"))) && (decide (PySem.W.takesIn K (.builtin "object.__class__") = some true) && decide (PySem.W.mroIn K (He.ga K x) (.type "object") = some true))))
theorem askB_ok {K : PySem.W.Frag} {x : Str} (c : askB x K = true) : XfC K (He.ga K x) ∧ ExcC K (He.ga K x) := by
  obtain ⟨h1, c⟩ := He.ba c
  obtain ⟨h2, c⟩ := He.ba c
  obtain ⟨h3, c⟩ := He.ba c
  obtain ⟨h4, h5⟩ := He.ba c
  have h := xfB_ok h1
  exact ⟨h, h.ga, h.gg, h.exC, h.hdC, of_decide_eq_true h2, of_decide_eq_true h3, of_decide_eq_true h4, of_decide_eq_true h5⟩
/-- is x's instance one of y -/
def kitX (x y : Str) (b : Bool) (K : PySem.W.Frag) : Bool := decide (PySem.W.kitOne K (.ref (He.ga K x)) (.ref (He.ga K y)) = some b)

abbrev AlV : Type := List (Bool × He.FnW) × Bool
def obsV (fn : List He.DefD) (ex : PySem.W.Frag → Bool) (K : PySem.W.Frag) : AlV := (fn.map fun d => (d.ok K, He.fnW K d.at_), ex K)
def valV (fn : List He.DefD) : AlV := (fn.map fun d => (true, d.val), true)
def SaysV (fn : List He.DefD) (ex : PySem.W.Frag → Bool) (K : PySem.W.Frag) : Prop := obsV fn ex K = valV fn
def obsVG (n : Nat) (fn : List He.DefD) (ex : PySem.W.Frag → Bool) (g : Addr → Option Obj) : AlV := obsV fn ex (He.frG g (cStatics :: He.asD g n))
def hookV (n : Nat) (fn : List He.DefD) (ex : PySem.W.Frag → Bool) : PySem.W.Hook where
  α := AlV
  obs := fun s => obsVG n fn ex s.heap.get?
  val := fun _ => valV fn
  says := fun _ h => ∃ K : PySem.W.Frag, K.In h ∧ SaysV fn ex K
  of := fun _ _ e => ⟨_, He.frG_in, e⟩
  keeps := fun _ _ _ ⟨K, hK, c⟩ k => ⟨K, PySem.W.Frag.In.keeps hK k, c⟩
theorem obsVG_eq {n : Nat} {fn : List He.DefD} {ex : PySem.W.Frag → Bool} {g : Addr → Option Obj} {s : Shared} (h : ∀ a, g a = s.heap.get? a) : obsVG n fn ex g = (hookV n fn ex).obs s := by
  have e : g = s.heap.get? := funext h
  rw [e] <;> rfl
section
variable {fn : List He.DefD} {ex : PySem.W.Frag → Bool} {K : PySem.W.Frag}
theorem SaysV.more (c : SaysV fn ex K) : ex K = true := congrArg (fun z : AlV => z.2) c
theorem SaysV.fund (c : SaysV fn ex K) (i : Nat) {d : He.DefD} (h : fn[i]? = some d := by rfl) : ∃ fd, FunD K d.name d.qual d.params d.body d.scope (d.dvs K) (d.kws K) (He.fAd K d.at_) fd := by
  have e : fn.map (fun d => (d.ok K, He.fnW K d.at_)) = fn.map fun d => (true, d.val) := congrArg (fun z : AlV => z.1) c
  have e2 : (fn.map fun d => (d.ok K, He.fnW K d.at_))[i]? = (fn.map fun d => (true, d.val))[i]? := by rw [e]
  rw [List.getElem?_map, List.getElem?_map, h] at e2
  have e3 := Prod.mk.inj (Option.some.inj e2)
  exact He.DefD.funD e3.2 e3.1
end
/-- the end over such a head -/
theorem walkE {l : PySem.W.OpenLaw} {n k : Nat} {q : Program} {loose : List Str} {XP : (Str → Option Value) → Heap → Prop} {YP : World → Heap → Prop} {d : DefRec} {x : Str}
    (hn : l.most = some n) (hn2 : n ≤ sizeLine) (hdf : d.params.defaults = []) (hr : Room k callerA)
    (F : ∀ (w : World) (mg : Str → Option Value) (fa : Addr) (h : Heap), YP w h → h.Ns mainGlobals mg → mg d.name = some (.ref fa) →
      ∃ (K : PySem.W.Frag) (fd : FuncData), K.In h ∧ (∀ (s : Shared) (u : Value), BindsTo s fd ⟨[u], []⟩ [(x, u)]) ∧ ∀ base : Heap, K.In base → base.Ns mainGlobals mg → FnG l.prog w K mg base k fa fd [x] (lift K (spdLaw n))) :
    PySem.W.WalkO q loose XP YP l.row.toRowW d [] (fun f vs => PySem.call f vs) := Att.attach_call hn hdf fun w s₀ s₁ mg mb fa o pm cd doc a vs ns G Y ho hd hcd hmg hobj hints hlen hg => by
  obtain ⟨K, fd, KX, hb, hF⟩ := F w mg fa _ Y G.T.g hmg
  exact law_end KX G.T.g G.T.b G.T.builtins G.T.nolimit hg hobj hints hlen hn2 hr hF hb
end VL

/-! VL: list(d.values()), a comprehension that is named. -/
namespace VL
open PySem PySem.Spec PyProof.Rows L2

def tListVals (td : TE) : TE := fun σ H Q => td σ H fun x H1 => ∃ a kvs, x = V.ref a ∧ H1 a = some (.dK kvs) ∧ ∀ p, H1 p = none → Q (.ref p) (upd H1 p (.lst (kvs.map (·.2))))
section
variable {X : Cx} {W : WX} {o : Expr} {p pos apos mpos : Pos} {td : TE} {de : TEd}
theorem kv_vals {κ : Type} {kvs : List (κ × V)} {vs : List (κ × Value)} (r : KV kvs vs) : Vals (kvs.map (·.2)) (vs.map (·.2)) := by
  unfold KV at r
  induction r with
  | nil => exact .nil
  | cons h _ ih => exact .cons h.2 ih
theorem pe_listVals (hc : X.calm = true) (hg : Gl X "list") (hm : X.mg "list" = none) (hd : PE X o td) (hbase : attributeBase o "values" X.env (eval o X.env) = eval o X.env := by rfl) (hline : (apos.endLine == mpos.line) = true := by rfl)
    (hse : starEach [Expr.Call (.Attribute o "values" apos) [] [] mpos] X.env = [(false, eval (Expr.Call (.Attribute o "values" apos) [] [] mpos) X.env)] := by rfl) :
    PE X (.Call (.Name "list" p) [.Call (.Attribute o "values" apos) [] [] mpos] [] pos) (tListVals td) := by
  refine ⟨fun pins s σ H Q I h => ?_⟩
  refine wpAny_Call_Name_kw (ld_blt I hg hm (u := .type "list") (by first | rfl | decide +kernel) ?_ (by first | decide +kernel | decide) (by first | decide +kernel | decide))
  rw [hse]
  refine PySem.callWith_type1 (wpAny_Call_method0_late hbase hline (thn (hd.run pins s σ H _ I h) fun v s1 hh => ?_))
  obtain ⟨x, H1, I1, r1, a, kvs, rfl, ha, q⟩ := hh
  obtain rfl : v = Value.ref a := r1
  obtain ⟨hz, hsys, vs, rel, dof⟩ := dk_of I1.hok ha
  obtain ⟨ep, dat⟩ := dof.dictAt
  have dat' := dat
  obtain ⟨ob, es, ho, cl, _, _, _, _⟩ := dat'
  refine ⟨"dict", "dict.values", F.plainAttrs_dict, F.slot_dict_values, F.type_dict_values, ⟨ob, ho, cl.1⟩, fun b e => ?_, Calls.callWith_builtin rfl (PySem.evalArgs_none ?_)⟩
  · cases e
    exact ⟨ob, ho, cl.2.1⟩
  refine call_meetsIn F.slot_dict_values ⟨ob, ho, cl.1⟩ F.entry_dict_values (F.args_dict_values_1 _) (meets_dict_values (mixKind X.prog X.w) a hsys) ⟨⟨vs, dof⟩, ?_⟩
  have up : ∀ b u, s1.heap.get? b = some u → (s1.heap.push { cls := .type "dict_values", data := .fields #[.ref a] }).get? b = some u := fun b u e => Heap.get?_push_of_some _ e
  have dat1 : (s1.heap.push { cls := .type "dict_values", data := .fields #[.ref a] }).DictAt (mixKind X.prog X.w) a vs ep := dat.keep up
  have hl : vs.length = kvs.length := (KV.length rel).symm
  refine PySem.W.kdl_call (PySem.W.kdl_values (r := s1.heap.objs.size)) (I.ok.hd hc) ⟨⟨_, Heap.get?_push_size _ rfl, rfl, rfl⟩, dat1⟩ (by rw [hl]; exact hz) fun h' tk acc c' hk hD hacc => ?_
  have ev : acc.toList = vs.map (·.2) := PySem.W.kdl_vals_eq acc.toList (by rw [Array.length_toList]; exact hacc.1) fun j u e => hacc.2 j u (by rw [← Array.getElem?_toList]; exact e)
  have sz : s1.heap.objs.size ≤ (s1.heap.push { cls := .type "dict_values", data := .fields #[.ref a] }).objs.size := by rw [Heap.size_push]; exact Nat.le_succ _
  refine ⟨.ref _, _, I1.laid (t' := tk) (fun b u e => hk b u (up b u e)) sz (show ObjOk X.prog X.w _ h' _ (.lst (kvs.map (·.2))) from ⟨by rw [List.length_map]; exact hz, vs.map (·.2), c', kv_vals rel, ?_⟩), rfl, q _ (I1.hok.fresh sz)⟩
  rw [← ev, Array.toArray_toList]
  exact hD
def dListVals (de : TEd) : TEd := fun σ S Q E => de σ S (fun x S1 => match vw S1 x with
  | .dct kds => Q (.lst (kds.map (·.2))) S1
  | _ => False) E
def dListValsM (de : TEd) : TEd := fun σ S Q E => de σ S (fun x S1 => match vw S1 x with
  | .dct kds => ∀ p, S1 p = none → Q (.ref p) (put S1 p (.lst (kds.map (·.2))))
  | _ => False) E
theorem repK_vals {K : PySem.W.Frag} {M : Hp} : ∀ {kvs : List (Key × V)} {kds : List (Key × D)}, RepK K M kvs kds → Reps K M (kvs.map (·.2)) (kds.map (·.2))
  | _, _, .nil => .nil
  | _, _, .cons h r => .cons h (repK_vals r)
theorem ve_listVals (hc : X.calm = true) (hm : X.mg "list" = none) (he : VE X W o td de) (hg : Gl X "list" := by rfl) (hbase : attributeBase o "values" X.env (eval o X.env) = eval o X.env := by rfl) (hline : (apos.endLine == mpos.line) = true := by rfl)
    (hse : starEach [Expr.Call (.Attribute o "values" apos) [] [] mpos] X.env = [(false, eval (Expr.Call (.Attribute o "values" apos) [] [] mpos) X.env)] := by rfl) :
    VE X W (.Call (.Name "list" p) [.Call (.Attribute o "values" apos) [] [] mpos] [] pos) (tListVals td) (dListVals de) := ⟨pe_listVals hc hg hm he.run hbase hline hse, fun {σV F H σ S Qd E Q} hs er h hq hx =>
  he.snd hs er h (fun x H1 dx S1 g r h1 => by
    split at h1
    · next kds e =>
      obtain ⟨a, kvs, rfl, ha, rk⟩ := see_dct g.hst r e
      exact ⟨a, kvs, rfl, ha, fun p hp => hq _ _ _ S1 (g.trans (good_new g.hst hp)) (new_lst g.hst hp (repK_vals rk)) h1⟩
    · cases h1) hx⟩
end

section
variable {X : Cx} {W : WX} {wi : TI} {id : TId} {g : TG} {gd : TGd} {tt : TT} {dt : TTd} {te : TE} {de : TEd}
/-- y = [..], y a plain local name of the def -/
theorem vs_setLc {j : Nat} {y : Str} {py : Pos} {tg iter elt : Expr} {ifs : List Expr} {scope : Scope} {own : List (Str × Nat)} {pos spos : Pos} (hc : X.calm = true) (hN : X.N.Nodup) (hi : VI X W tg iter wi id) (ok : BlkOk X.N X.env.scope scope own)
    (hg : ∀ (s : Shared) (H : Hp) (C : Addr) (cl : List (Str × Addr)) (fp : List Addr), VG (X.blk s H scope (compEnvC scope cl C X.env) fp) (own.map (·.2)) tg g gd)
    (ht : ∀ (s : Shared) (H : Hp) (C : Addr) (cl : List (Str × Addr)) (fp : List Addr), VTs (X.blk s H scope (compEnvC scope cl C X.env) fp) WF ifs tt dt)
    (he : ∀ (s : Shared) (H : Hp) (C : Addr) (cl : List (Str × Addr)) (fp : List Addr), VE (X.blk s H scope (compEnvC scope cl C X.env) fp) WF elt te de) (hy : X.N[j]? = some y := by rfl) (hyl : X.env.scope.names.lookup y = some .local := by rfl)
    (hk : X.env.scope.kind = .function := by rfl) (hln : (py.line == pos.line) = true := by rfl) (ha : (scope.names.any fun (n, k) => n == y && (k == .local || k == .cell)) = false := by rfl) (hl2 : spos.line = pos.line := by rfl) (hs : ∀ x, foldedSetIterable iter X.env x = pure x := by intro _; rfl) :
    VS X W (.Assign [.Name y py] (.ListComp elt [⟨tg, iter, ifs, 0⟩] scope pos) spos) (tAsg (tLc wi g tt te (own.map (·.2))) (gName j)) (dAsg (dLc id gd dt de (own.map (·.2))) (hName j)) :=
  vs_set (ps_setLc hc hN hy hyl (sw_true hk hyl hln ha) hi.run ok (fun s H C cl fp => (hg s H C cl fp).run) (fun s H C cl fp => (ht s H C cl fp).run) (fun s H C cl fp => (he s H C cl fp).run) hs)
    (snd_lc hi.snd (hg {} noH 0 [] []).snd (ht {} noH 0 [] []).snd (he {} noH 0 [] []).snd)
theorem vs_setLcM {j : Nat} {y : Str} {py : Pos} {tg iter elt : Expr} {ifs : List Expr} {scope : Scope} {own : List (Str × Nat)} {pos spos : Pos} (hc : X.calm = true) (hN : X.N.Nodup) (hi : VI X W tg iter wi id) (ok : BlkOk X.N X.env.scope scope own)
    (hg : ∀ (s : Shared) (H : Hp) (C : Addr) (cl : List (Str × Addr)) (fp : List Addr), VG (X.blk s H scope (compEnvC scope cl C X.env) fp) (own.map (·.2)) tg g gd)
    (ht : ∀ (s : Shared) (H : Hp) (C : Addr) (cl : List (Str × Addr)) (fp : List Addr), VTs (X.blk s H scope (compEnvC scope cl C X.env) fp) WF ifs tt dt)
    (he : ∀ (s : Shared) (H : Hp) (C : Addr) (cl : List (Str × Addr)) (fp : List Addr), VE (X.blk s H scope (compEnvC scope cl C X.env) fp) WF elt te de) (hy : X.N[j]? = some y := by rfl) (hyl : X.env.scope.names.lookup y = some .local := by rfl)
    (hk : X.env.scope.kind = .function := by rfl) (hln : (py.line == pos.line) = true := by rfl) (ha : (scope.names.any fun (n, k) => n == y && (k == .local || k == .cell)) = false := by rfl) (hl2 : spos.line = pos.line := by rfl) (hs : ∀ x, foldedSetIterable iter X.env x = pure x := by intro _; rfl) :
    VS X W (.Assign [.Name y py] (.ListComp elt [⟨tg, iter, ifs, 0⟩] scope pos) spos) (tAsg (tLc wi g tt te (own.map (·.2))) (gName j)) (dAsg (dLcM id gd dt de (own.map (·.2))) (hName j)) :=
  vs_set (ps_setLc hc hN hy hyl (sw_true hk hyl hln ha) hi.run ok (fun s H C cl fp => (hg s H C cl fp).run) (fun s H C cl fp => (ht s H C cl fp).run) (fun s H C cl fp => (he s H C cl fp).run) hs)
    (snd_lcM hi.snd (hg {} noH 0 [] []).snd (ht {} noH 0 [] []).snd (he {} noH 0 [] []).snd)
end

section
variable {K : PySem.W.Frag} {W : WX} {wi wi1 : TI} {id id1 : TId} {g g1 : TG} {gd gd1 : TGd} {tt tt1 : TT} {dt dt1 : TTd} {te : TE} {de : TEd} {vs vs1 : List Nat}
def dLc2M (id : TId) (gd : TGd) (dt : TTd) (id1 : TId) (gd1 : TGd) (dt1 : TTd) (de : TEd) (vs vs1 : List Nat) : TEd := fun σ S Q E => id σ S (fun ds S1 => dLc2L gd dt id1 gd1 dt1 de vs1 (wipeD σ vs) (fun acc S2 => ∀ p, S2 p = none → Q (.ref p) (put S2 p (.lst acc))) ds [] S1) E
theorem snd_lc2M (hi : SndI K W wi id) (hg : SndG K vs g gd) (ht : SndT K WF tt dt) (hi1 : SndI K WF wi1 id1) (hg1 : SndG K vs1 g1 gd1) (ht1 : SndT K WF tt1 dt1) (he : Snd K WF te de) :
    Snd K W (tLc2 wi g tt wi1 g1 tt1 te vs vs1) (dLc2M id gd dt id1 gd1 dt1 de vs vs1) := fun {σV F H0 σ S0 Qd E Q} hs0 er0 h0 hq hx => by
  refine hi hs0 er0 h0 (fun J H1 ds S1 g1' jr h => ?_) hx
  intro Dp hD
  have hs := g1'.hst
  have er := er0.mono g1'.same
  have fD := hs.freeF hD
  have sD := hs.free hD
  let Iv : Nat → Hp → Prop := fun i H => ∃ (S : Sto) (accV : List V) (acc : List D), HSt K (upd F Dp (.lst accV)) H S ∧ Same (mask F S1 H1) (mask (upd F Dp (.lst accV)) S H) ∧ Reps K (mask (upd F Dp (.lst accV)) S H) accV acc ∧
    dLc2L gd dt id1 gd1 dt1 de vs1 (wipeD σ vs) (fun acc S2 => ∀ p, S2 p = none → Qd (.ref p) (put S2 p (.lst acc))) (ds.drop i) acc S
  refine ⟨fun i m H => m = ds.length - i ∧ i ≤ ds.length ∧ Iv i H, ⟨ds.length, by simp, Nat.zero_le _, S1, [], [], hst_beside hs hD, mask_beside hs hD, .nil, by simpa using h⟩, ?_⟩
  rintro i m H ⟨rfl, hi', S, accV, acc, hh, sm, ra, hl⟩
  by_cases hlt : i < ds.length
  · have ed : ds.drop i = ds[i] :: ds.drop (i + 1) := List.drop_eq_getElem_cons hlt
    rw [ed] at hl
    refine .inr ⟨jr.go i _ H S hh sm hlt, Iv (i + 1), fun H' p' => ⟨ds.length - (i + 1), by omega, rfl, hlt, p'⟩, fun x H' y => ?_⟩
    obtain ⟨g1, rx⟩ := jr.yld i _ H S x H' ds[i] hh sm (List.getElem?_eq_getElem hlt) y
    refine hg g1.hst (((er_wipe er vs).mono sm).mono g1.same) rx hl fun σ2 H2 σd2 S2 g2 er2 l2 o2 h2 => ⟨wipe_eq (by rw [l2, wipe_length]) o2, ?_⟩
    have g12 := g1.trans g2
    refine ht g2.hst er2 h2 (fun b H3 S3 g3 h3 => ?_) lxF
    have g13 := g12.trans g3
    cases b with
    | false => exact ⟨S3, accV, acc, g3.hst, sm.trans g13.same, ra.mono g13.same, h3⟩
    | true =>
      have er3 := er2.mono g3.same
      refine hi1 g3.hst er3 h3 (fun J1 H4 es S4 g4 jr1 h4 => ?_) lxF
      have g14 := g13.trans g4
      have er4 := er3.mono g4.same
      -- the second source's own loop
      let Iw : Nat → Hp → Prop := fun j H5 => ∃ (S5 : Sto) (acc5V : List V) (acc5 : List D), HSt K (upd F Dp (.lst acc5V)) H5 S5 ∧ Same (mask (upd F Dp (.lst accV)) S4 H4) (mask (upd F Dp (.lst acc5V)) S5 H5) ∧ Reps K (mask (upd F Dp (.lst acc5V)) S5 H5) acc5V acc5 ∧
        dLcC gd1 dt1 de (wipeD σd2 vs1) (fun acc' S6 => dLc2L gd dt id1 gd1 dt1 de vs1 (wipeD σ vs) (fun acc S2 => ∀ p, S2 p = none → Qd (.ref p) (put S2 p (.lst acc))) (ds.drop (i + 1)) acc' S6) (es.drop j) acc5 S5
      refine ⟨fun j m H5 => m = es.length - j ∧ j ≤ es.length ∧ Iw j H5, ⟨es.length, by simp, Nat.zero_le _, S4, accV, acc, g4.hst, Same.refl _, ra.mono g14.same, by simpa using h4⟩, ?_⟩
      rintro j m H5 ⟨rfl, hj, S5, acc5V, acc5, hh5, sm5, ra5, hl5⟩
      by_cases hjt : j < es.length
      · have ee : es.drop j = es[j] :: es.drop (j + 1) := List.drop_eq_getElem_cons hjt
        rw [ee] at hl5
        have hh5' : HSt K (upd F Dp (.lst acc5V)) H5 S5 := hh5
        refine .inr ⟨jr1.go j _ H5 S5 hh5 sm5 hjt, Iw (j + 1), fun H' p' => ⟨es.length - (j + 1), by omega, rfl, hjt, p'⟩, fun x5 H6 y5 => ?_⟩
        obtain ⟨k1, rx5⟩ := jr1.yld j _ H5 S5 x5 H6 es[j] hh5 sm5 (List.getElem?_eq_getElem hjt) y5
        refine hg1 k1.hst (((er_wipe er4 vs1).mono sm5).mono k1.same) rx5 hl5 fun σ7 H7 σd7 S7 k2 er7 l7 o7 h7 => ⟨wipe_eq (by rw [l7, wipe_length]) o7, ?_⟩
        have k12 := k1.trans k2
        refine ht1 k2.hst er7 h7 (fun b H8 S8 k3 h8 => ?_) lxF
        have k13 := k12.trans k3
        cases b with
        | false => exact ⟨S8, acc5V, acc5, k3.hst, sm5.trans k13.same, ra5.mono k13.same, h8⟩
        | true =>
          refine he k3.hst (er7.mono k3.same) h8 (fun yv H9 yd S9 k4 r9 h9 => ?_) lxF
          have k14 := k13.trans k4
          have e9 := (k4.hst.side Dp _ upd_same).1
          refine ⟨acc5V, e9, by rw [ra5.length]; exact h9.1, S9, acc5V ++ [yv], acc5 ++ [yd], hst_side_chg k4.hst, ?_, ?_, h9.2⟩
          · rw [mask_side_chg (u := .lst acc5V)]; exact sm5.trans k14.same
          · rw [mask_side_chg (u := .lst acc5V)]; exact (ra5.mono k14.same).append (.cons r9 .nil)
      · have e : j = es.length := by omega
        subst e
        rw [List.drop_of_length_le (Nat.le_refl _)] at hl5
        exact .inl ⟨jr1.stop _ _ H5 S5 hh5 sm5 (Nat.le_refl _), S5, acc5V, acc5, hh5, (sm.trans g14.same).trans sm5, ra5, hl5⟩
  · have e : i = ds.length := by omega
    subst e
    rw [List.drop_of_length_le (Nat.le_refl _)] at hl
    have e2 := (hh.side Dp _ upd_same).1
    have s2 := (hh.side Dp _ upd_same).2
    have em : mask F (put S Dp (.lst acc)) H = mask (upd F Dp (.lst accV)) S H := by
      funext b
      unfold mask
      by_cases e : b = Dp
      · subst e; rw [if_pos (.inl (by rw [put_same]; rfl)), if_pos (.inr (by rw [upd_same]; rfl))]
      · rw [put_ne e, upd_ne e]
    have hh2 : HSt K F H (put S Dp (.lst acc)) := ⟨fun b o q => by
      rw [em]
      by_cases hb : b = Dp
      · subst hb
        rw [put_same] at q; cases q
        rw [e2]; exact ook_lst ra
      · rw [put_ne hb] at q
        exact hh.at_ b o q, fun b v q => by
      have hb : b ≠ Dp := fun z => by subst z; rw [fD] at q; cases q
      rw [put_ne hb]
      exact hh.side b v (by rw [upd_ne hb]; exact q)⟩
    exact .inl ⟨jr.stop _ _ H S hh sm (Nat.le_refl _), hq _ H _ _ ⟨hh2, g1'.same.trans (by rw [em]; exact sm)⟩ (.ref Dp) (hl Dp s2)⟩
end
section
variable {X : Cx} {W : WX} {pos : Pos} {wi wi1 : TI} {id id1 : TId} {g g1 : TG} {gd gd1 : TGd} {tt tt1 : TT} {dt dt1 : TTd} {te : TE} {de : TEd} {vs1 : List Nat}
theorem ve_lc2M {tg iter elt tg1 iter1 : Expr} {ifs ifs1 : List Expr} {scope : Scope} {own : List (Str × Nat)} (hc : X.calm = true) (hN : X.N.Nodup) (hi : VI X W tg iter wi id) (ok : BlkOk X.N X.env.scope scope own) (hv : ∀ i ∈ vs1, i ∈ own.map (·.2))
    (hg : ∀ (s : Shared) (H : Hp) (C : Addr) (cl : List (Str × Addr)) (fp : List Addr), VG (X.blk s H scope (compEnvC scope cl C X.env) fp) (own.map (·.2)) tg g gd)
    (ht : ∀ (s : Shared) (H : Hp) (C : Addr) (cl : List (Str × Addr)) (fp : List Addr), VTs (X.blk s H scope (compEnvC scope cl C X.env) fp) WF ifs tt dt)
    (hi1 : ∀ (s : Shared) (H : Hp) (C : Addr) (cl : List (Str × Addr)) (fp : List Addr), VI (X.blk s H scope (compEnvC scope cl C X.env) fp) WF tg1 iter1 wi1 id1)
    (hg1 : ∀ (s : Shared) (H : Hp) (C : Addr) (cl : List (Str × Addr)) (fp : List Addr), VG (X.blk s H scope (compEnvC scope cl C X.env) fp) vs1 tg1 g1 gd1)
    (ht1 : ∀ (s : Shared) (H : Hp) (C : Addr) (cl : List (Str × Addr)) (fp : List Addr), VTs (X.blk s H scope (compEnvC scope cl C X.env) fp) WF ifs1 tt1 dt1)
    (he : ∀ (s : Shared) (H : Hp) (C : Addr) (cl : List (Str × Addr)) (fp : List Addr), VE (X.blk s H scope (compEnvC scope cl C X.env) fp) WF elt te de) (hs : ∀ x, foldedSetIterable iter X.env x = pure x := by intro _; rfl) (hs1 : ∀ env x, foldedSetIterable iter1 env x = pure x := by intro _ _; rfl) :
    VE X W (.ListComp elt [⟨tg, iter, ifs, 0⟩, ⟨tg1, iter1, ifs1, 0⟩] scope pos) (tLc2 wi g tt wi1 g1 tt1 te (own.map (·.2)) vs1) (dLc2M id gd dt id1 gd1 dt1 de (own.map (·.2)) vs1) :=
  ⟨pe_lc2 hc hN hi.run ok hv (fun s H C cl fp => (hg s H C cl fp).run) (fun s H C cl fp => (ht s H C cl fp).run) (fun s H C cl fp => (hi1 s H C cl fp).run) (fun s H C cl fp => (hg1 s H C cl fp).run) (fun s H C cl fp => (ht1 s H C cl fp).run) (fun s H C cl fp => (he s H C cl fp).run) hs hs1,
    snd_lc2M hi.snd (hg {} noH 0 [] []).snd (ht {} noH 0 [] []).snd (hi1 {} noH 0 [] []).snd (hg1 {} noH 0 [] []).snd (ht1 {} noH 0 [] []).snd (he {} noH 0 [] []).snd⟩
end
end VL

/-! VL: rules in short, as the printed derivations use them. -/
namespace VL
open PySem PySem.Spec PyProof.Rows L2

theorem room1 {k : Nat} {A : Around} (r : Room k A) : A.units + 1 < cLine := by have := r.un; omega
theorem room66 {k : Nat} {A : Around} (r : Room k A) : A.units + 66 < cLine := by have := r.un; omega
section
variable {X : Cx} {W : WX} {e o : Expr} {te to : TE} {de d0 : TEd} {pos pos' : Pos}
theorem vs_name {j : Nat} {x : Str} (hN : X.N.Nodup) (he : VE X W e te de) (hi : X.N[j]? = some x := by rfl) (hx : Loc X.env.scope x := by first | exact Or.inl rfl | exact Or.inr rfl)
    (hs : swapsWith e (some (.Name x pos')) pos.line X.env = pure false := by rfl) (hf : X.fn x = true ∨ X.env.scope.names.lookup x = some .local := by first | exact .inl rfl | exact .inr rfl) :
    VS X W (.Assign [.Name x pos'] e pos) (tAsg te (gName j)) (dAsg de (hName j)) := vs_set (ps_set hN hi hx he.run hs hf) he.snd
theorem vs_augA {j : Nat} {x : Str} (hN : X.N.Nodup) (he : VE X W e te de) (hi : X.N[j]? = some x := by rfl) (hx : Loc X.env.scope x := by first | exact Or.inl rfl | exact Or.inr rfl)
    (hf : X.fn x = true ∨ X.env.scope.names.lookup x = some .local := by first | exact .inl rfl | exact .inr rfl) :
    VS X W (.AugAssign (.Name x pos') .Add e pos) (tAug j te (ipI fun a b => a + b)) (dAug j (fun a b => a + b) de) := vs_aug (ps_aug hN hi hx he.run ip_add hf) he.snd
theorem vs_pair {i j : Nat} {x y : Str} {a b : Expr} {ta : TA} {da : TAd} {px py pt : Pos} {kt k2 pt2} (hc : X.calm = true) (hN : X.N.Nodup) (ha : VA X W [a, b] ta da) (hi : X.N[i]? = some x := by rfl) (hj : X.N[j]? = some y := by rfl) (hij : i ≠ j := by decide)
    (hx : X.env.scope.names.lookup x = some .local := by rfl) (hy : X.env.scope.names.lookup y = some .local := by rfl) (hw : swappedStores [.Tuple [.Name x px, .Name y py] kt pt] (.Tuple [a, b] k2 pt2) X.env = pure (some [x, y]) := by rfl)
    (hs : swapsWithSole [.Tuple [.Name x px, .Name y py] kt pt] (.Tuple [a, b] k2 pt2) pos.line X.env = pure false := by rfl) :
    VS X W (.Assign [.Tuple [.Name x px, .Name y py] kt pt] (.Tuple [a, b] k2 pt2) pos) (tPar i j ta) (dPar i j da) := vs_par (ps_par hc hN hi hj hij hx hy ha.run hw hs) ha.snd
theorem ve_app {e1 : Expr} {apos : Pos} {ta1 : TA} {da1 : TAd} (ho : VE X W o to d0) (ha : VA X W [e1] ta1 da1) (hbase : attributeBase o "append" X.env (eval o X.env) = eval o X.env := by rfl)
    (hfew : ((backTo pos (starEach [e1] X.env)).all (fun x => !x.1) && (backToKw pos (keywordEach [] X.env)).all (fun x => x.1.isSome)
      && decide ([e1].length + ([] : List Keyword).length + (if ([] : List Keyword).isEmpty then 0 else 1) < 30)) = true := by rfl)
    (hline : (apos.endLine == pos.line) = true := by rfl) (hs : starEach [e1] X.env = (false, eval e1 X.env) :: starEach [] X.env := by rfl) (hpl : (backTo pos (starEach [] X.env)).any (·.1) = false := by rfl) :
    VE X W (.Call (.Attribute o "append" apos) [e1] [] pos) (tBM X.K "list" rAppend to ta1) (dAppend d0 da1) :=
  ve_append ho ha (pe_bm PySem.F.plainAttrs_list PySem.F.slot_list_append PySem.F.type_list_append mt_append ho.run ha.run hbase hfew hline hs hpl)
theorem vg_n {vs : List Nat} {j : Nat} {x : Str} (hN : X.N.Nodup) (hv : j ∈ vs := by decide) (hi : X.N[j]? = some x := by rfl) (hx : Loc X.env.scope x := by first | exact Or.inl rfl | exact Or.inr rfl)
    (hf : X.fn x = true ∨ X.env.scope.names.lookup x = some .local := by first | exact .inl rfl | exact .inr rfl) : VG X vs (.Name x pos) (gName j) (hName j) := vg_name hv (pg_name hN hi hx hf)
theorem ve_v (j : Nat) {x : Str} (hN : X.N[j]? = some x := by rfl) (hv : Vis X.env.scope x := by first | exact Or.inl rfl | exact Or.inr (Or.inl rfl) | exact Or.inr (Or.inr rfl)) (hd : (x == ("__debug__" : Str)) = false := by decide)
    (hcd : (x == ("__classdict__" : Str)) = false := by decide) : VE X W (.Name x pos) (tVar j) (dVar j) := ve_var (pe_var hN hv hd hcd)
/-- a whole number of the module -/
theorem ve_gi {x : Str} {i : Int} (hm : ∃ t, X.mg x = some (.int i t)) (hg : Gl X x := by rfl) (hd : (x == ("__debug__" : Str)) = false := by decide) : VE X W (.Name x pos) (tC (.int i)) (dC (.int i)) := by
  obtain ⟨t, hm⟩ := hm
  exact ve_c (pe_glob hg hm ⟨_, rfl⟩ hd) fun _ => .int i
theorem ve_gs {x z : Str} (hm : ∃ t, X.mg x = some (.str z t)) (hg : Gl X x := by rfl) (hd : (x == ("__debug__" : Str)) = false := by decide) : VE X W (.Name x pos) (tC (.str z)) (dC (.str z)) := by
  obtain ⟨t, hm⟩ := hm
  exact ve_c (pe_glob hg hm ⟨_, rfl⟩ hd) fun _ => .str z
theorem ve_go {x : Str} {a : Addr} {d : D} (hm : X.mg x = some (.ref a)) (r : ∀ M : Hp, Rep X.K M (.ref a) d) (hg : Gl X x := by rfl) (hd : (x == ("__debug__" : Str)) = false := by decide) : VE X W (.Name x pos) (tC (.ref a)) (dC d) := ve_c (pe_glob hg hm rfl hd) r
theorem ve_ty {x : Str} {n : String} (hm : X.mg x = none) (hv : bootBuiltins x = some (.type n)) (hg : Gl X x := by rfl) (hn : x ≠ "__name__" := by decide) (hd : (x == ("__debug__" : Str)) = false := by decide) :
    VE X W (.Name x pos) (tC (.ty n)) (dC (.ty n)) := ve_c (pe_bltn hg hm hv rfl hn hd) fun _ => .ty n
end
theorem boot_int : bootBuiltins "int" = some (.type "int") := by decide +kernel
theorem boot_bool : bootBuiltins "bool" = some (.type "bool") := by decide +kernel
theorem boot_str : bootBuiltins "str" = some (.type "str") := by decide +kernel
theorem boot_list : bootBuiltins "list" = some (.type "list") := by decide +kernel
theorem boot_tuple : bootBuiltins "tuple" = some (.type "tuple") := by decide +kernel
theorem boot_dict : bootBuiltins "dict" = some (.type "dict") := by decide +kernel
/-- a def of no default, of these promises -/
theorem rdy_of {P : Program} {w : World} {K : PySem.W.Frag} {mg : Str → Option Value} {base : Heap} {k : Nat} {x : Str} {fd : FuncData} {ps : List Str} {spd : Spd} {f : Addr} (G : FnG P w K mg base k f fd ps (lift K spd)) (hm : mg x = some (.ref f)) (hk : PySem.W.keepIn K (.ref f) = true)
    (hb : Binds K fd ps []) : Rdy P w K mg base k x [] [] spd := ⟨f, fd, ps, [], G, hm, hk, hb, .nil, fun _ => .nil⟩
end VL

/-! VL: a reading over data gives a reading over the heap by itself: within a block the derivations need not tell theirs. -/
namespace VL
open PySem PySem.Spec PyProof.Rows L2

def tOf (K : PySem.W.Frag) (W : WX) (de : TEd) : TE := fun σV H Q => ∃ (F : Hp) (σ : Sd) (S : Sto) (Qd : QD) (E : XD), HSt K F H S ∧ ER K (mask F S H) σV σ ∧ de σ S Qd E ∧ LQ K F H S Qd Q ∧ LX K F W σV H S E
def tOfT (K : PySem.W.Frag) (W : WX) (de : TTd) : TT := fun σV H Q => ∃ (F : Hp) (σ : Sd) (S : Sto) (Qd : Bool → Sto → Prop) (E : XD), HSt K F H S ∧ ER K (mask F S H) σV σ ∧ de σ S Qd E ∧ (∀ b H' S', Good K F H S H' S' → Qd b S' → Q b H') ∧ LX K F W σV H S E
def gOf (K : PySem.W.Frag) (vs : List Nat) (gd : TGd) : TG := fun v σV H Q => ∃ (F : Hp) (σ : Sd) (S : Sto) (d : D) (Qd : Sd → Sto → Prop), HSt K F H S ∧ ER K (mask F S H) σV σ ∧ Rep K (mask F S H) v d ∧ gd d σ S Qd ∧
  ∀ σV' H' σ' S', Good K F H S H' S' → ER K (mask F S' H') σV' σ' → σV'.length = σV.length → (∀ i, i ∉ vs → σV'[i]? = σV[i]?) → Qd σ' S' → Q σV' H'
def iOf (K : PySem.W.Frag) (W : WX) (id : TId) : TI := fun σV H R => ∃ (F : Hp) (σ : Sd) (S : Sto) (Rd : List D → Sto → Prop) (E : XD), HSt K F H S ∧ ER K (mask F S H) σV σ ∧ id σ S Rd E ∧ (∀ J H' ds S', Good K F H S H' S' → JR K J ds (mask F S' H') → Rd ds S' → R J H') ∧ LX K F W σV H S E
section
variable {X : Cx} {W : WX} {e tg iter : Expr} {es ifs : List Expr} {vs : List Nat} {de : TEd} {dt : TTd} {gd : TGd} {id : TId} {K : PySem.W.Frag}
theorem ve_of (h : ∃ t, VE X W e t de) : VE X W e (tOf X.K W de) de := h.elim fun t v => ⟨⟨fun pins s σ H Q I ⟨F, σd, S, Qd, E, a, b, c, d, f⟩ => v.run.run pins s σ H Q I (v.snd a b c d f)⟩, fun {σV F H σ S Qd E Q} a b c d f => ⟨F, σ, S, Qd, E, a, b, c, d, f⟩⟩
theorem vts_of (h : ∃ t, VTs X W ifs t dt) : VTs X W ifs (tOfT X.K W dt) dt := h.elim fun t v => ⟨⟨fun pins s σ H Q I ⟨F, σd, S, Qd, E, a, b, c, d, f⟩ => v.run.run pins s σ H Q I (v.snd a b c d f)⟩, fun {σV F H σ S Qd E Q} a b c d f => ⟨F, σ, S, Qd, E, a, b, c, d, f⟩⟩
theorem vg_of (h : ∃ g, VG X vs e g gd) : VG X vs e (gOf X.K vs gd) gd := h.elim fun t v => ⟨⟨fun pins s σ H x u Q I r ⟨F, σd, S, d, Qd, a, b, c, k, f⟩ => v.run.run pins s σ H x u Q I r (v.snd a b c k f)⟩, fun {x d σV F H σ S Qd Q} a b c k f => ⟨F, σ, S, d, Qd, a, b, c, k, f⟩⟩
theorem vi_of (h : ∃ wi, VI X W tg iter wi id) : VI X W tg iter (iOf X.K W id) id := h.elim fun t v => ⟨⟨fun pins s σ H R I ⟨F, σd, S, Rd, E, a, b, c, d, f⟩ => v.run.run pins s σ H R I (v.snd a b c d f)⟩, fun {σV F H σ S Rd E R} a b c d f => ⟨F, σ, S, Rd, E, a, b, c, d, f⟩⟩
end
section
variable {X : Cx} {W : WX} {pos : Pos} {wi : TI} {id id1 : TId} {gd gd1 : TGd} {dt dt1 : TTd} {de : TEd} {tg iter elt tg1 iter1 : Expr} {ifs ifs1 : List Expr} {scope : Scope} {own : List (Str × Nat)} {vs1 : List Nat}
/-- what a comprehension's block must do: its target, its tests, its item -/
abbrev BlkG (X : Cx) (scope : Scope) (vs : List Nat) (tg : Expr) (gd : TGd) : Prop := ∀ (s : Shared) (H : Hp) (C : Addr) (cl : List (Str × Addr)) (fp : List Addr), ∃ g, VG (X.blk s H scope (compEnvC scope cl C X.env) fp) vs tg g gd
abbrev BlkT (X : Cx) (scope : Scope) (ifs : List Expr) (dt : TTd) : Prop := ∀ (s : Shared) (H : Hp) (C : Addr) (cl : List (Str × Addr)) (fp : List Addr), ∃ t, VTs (X.blk s H scope (compEnvC scope cl C X.env) fp) WF ifs t dt
abbrev BlkE (X : Cx) (scope : Scope) (elt : Expr) (de : TEd) : Prop := ∀ (s : Shared) (H : Hp) (C : Addr) (cl : List (Str × Addr)) (fp : List Addr), ∃ t, VE (X.blk s H scope (compEnvC scope cl C X.env) fp) WF elt t de
abbrev BlkI (X : Cx) (scope : Scope) (tg iter : Expr) (id : TId) : Prop := ∀ (s : Shared) (H : Hp) (C : Addr) (cl : List (Str × Addr)) (fp : List Addr), ∃ wi, VI (X.blk s H scope (compEnvC scope cl C X.env) fp) WF tg iter wi id
theorem ve_lcX (hc : X.calm = true) (hN : X.N.Nodup) (hi : VI X W tg iter wi id) (ok : BlkOk X.N X.env.scope scope own) (hg : BlkG X scope (own.map (·.2)) tg gd) (ht : BlkT X scope ifs dt) (he : BlkE X scope elt de) (hs : ∀ x, foldedSetIterable iter X.env x = pure x := by intro _; rfl) :
    VE X W (.ListComp elt [⟨tg, iter, ifs, 0⟩] scope pos) (tLc wi (gOf X.K (own.map (·.2)) gd) (tOfT X.K WF dt) (tOf X.K WF de) (own.map (·.2))) (dLc id gd dt de (own.map (·.2))) :=
  ve_lc hc hN hi ok (fun s H C cl fp => vg_of (hg s H C cl fp)) (fun s H C cl fp => vts_of (ht s H C cl fp)) (fun s H C cl fp => ve_of (he s H C cl fp)) hs
theorem ve_lcMX (hc : X.calm = true) (hN : X.N.Nodup) (hi : VI X W tg iter wi id) (ok : BlkOk X.N X.env.scope scope own) (hg : BlkG X scope (own.map (·.2)) tg gd) (ht : BlkT X scope ifs dt) (he : BlkE X scope elt de) (hs : ∀ x, foldedSetIterable iter X.env x = pure x := by intro _; rfl) :
    VE X W (.ListComp elt [⟨tg, iter, ifs, 0⟩] scope pos) (tLc wi (gOf X.K (own.map (·.2)) gd) (tOfT X.K WF dt) (tOf X.K WF de) (own.map (·.2))) (dLcM id gd dt de (own.map (·.2))) :=
  ve_lcM hc hN hi ok (fun s H C cl fp => vg_of (hg s H C cl fp)) (fun s H C cl fp => vts_of (ht s H C cl fp)) (fun s H C cl fp => ve_of (he s H C cl fp)) hs
theorem ve_lc2X (hc : X.calm = true) (hN : X.N.Nodup) (hi : VI X W tg iter wi id) (ok : BlkOk X.N X.env.scope scope own) (hv : ∀ i ∈ vs1, i ∈ own.map (·.2)) (hg : BlkG X scope (own.map (·.2)) tg gd) (ht : BlkT X scope ifs dt) (hi1 : BlkI X scope tg1 iter1 id1) (hg1 : BlkG X scope vs1 tg1 gd1) (ht1 : BlkT X scope ifs1 dt1)
    (he : BlkE X scope elt de) (hs : ∀ x, foldedSetIterable iter X.env x = pure x := by intro _; rfl) (hs1 : ∀ env x, foldedSetIterable iter1 env x = pure x := by intro _ _; rfl) :
    VE X W (.ListComp elt [⟨tg, iter, ifs, 0⟩, ⟨tg1, iter1, ifs1, 0⟩] scope pos) (tLc2 wi (gOf X.K (own.map (·.2)) gd) (tOfT X.K WF dt) (iOf X.K WF id1) (gOf X.K vs1 gd1) (tOfT X.K WF dt1) (tOf X.K WF de) (own.map (·.2)) vs1) (dLc2 id gd dt id1 gd1 dt1 de (own.map (·.2)) vs1) :=
  ve_lc2 hc hN hi ok hv (fun s H C cl fp => vg_of (hg s H C cl fp)) (fun s H C cl fp => vts_of (ht s H C cl fp)) (fun s H C cl fp => vi_of (hi1 s H C cl fp)) (fun s H C cl fp => vg_of (hg1 s H C cl fp)) (fun s H C cl fp => vts_of (ht1 s H C cl fp)) (fun s H C cl fp => ve_of (he s H C cl fp)) hs hs1
theorem ve_lc2MX (hc : X.calm = true) (hN : X.N.Nodup) (hi : VI X W tg iter wi id) (ok : BlkOk X.N X.env.scope scope own) (hv : ∀ i ∈ vs1, i ∈ own.map (·.2)) (hg : BlkG X scope (own.map (·.2)) tg gd) (ht : BlkT X scope ifs dt) (hi1 : BlkI X scope tg1 iter1 id1) (hg1 : BlkG X scope vs1 tg1 gd1) (ht1 : BlkT X scope ifs1 dt1)
    (he : BlkE X scope elt de) (hs : ∀ x, foldedSetIterable iter X.env x = pure x := by intro _; rfl) (hs1 : ∀ env x, foldedSetIterable iter1 env x = pure x := by intro _ _; rfl) :
    VE X W (.ListComp elt [⟨tg, iter, ifs, 0⟩, ⟨tg1, iter1, ifs1, 0⟩] scope pos) (tLc2 wi (gOf X.K (own.map (·.2)) gd) (tOfT X.K WF dt) (iOf X.K WF id1) (gOf X.K vs1 gd1) (tOfT X.K WF dt1) (tOf X.K WF de) (own.map (·.2)) vs1) (dLc2M id gd dt id1 gd1 dt1 de (own.map (·.2)) vs1) :=
  ve_lc2M hc hN hi ok hv (fun s H C cl fp => vg_of (hg s H C cl fp)) (fun s H C cl fp => vts_of (ht s H C cl fp)) (fun s H C cl fp => vi_of (hi1 s H C cl fp)) (fun s H C cl fp => vg_of (hg1 s H C cl fp)) (fun s H C cl fp => vts_of (ht1 s H C cl fp)) (fun s H C cl fp => ve_of (he s H C cl fp)) hs hs1
theorem vs_setLcX {j : Nat} {y : Str} {py spos : Pos} (hc : X.calm = true) (hN : X.N.Nodup) (hi : VI X W tg iter wi id) (ok : BlkOk X.N X.env.scope scope own) (hg : BlkG X scope (own.map (·.2)) tg gd) (ht : BlkT X scope ifs dt) (he : BlkE X scope elt de) (hy : X.N[j]? = some y := by rfl) (hyl : X.env.scope.names.lookup y = some .local := by rfl)
    (hk : X.env.scope.kind = .function := by rfl) (hln : (py.line == pos.line) = true := by rfl) (ha : (scope.names.any fun (n, k) => n == y && (k == .local || k == .cell)) = false := by rfl) (hl2 : spos.line = pos.line := by rfl) (hs : ∀ x, foldedSetIterable iter X.env x = pure x := by intro _; rfl) :
    VS X W (.Assign [.Name y py] (.ListComp elt [⟨tg, iter, ifs, 0⟩] scope pos) spos) (tAsg (tLc wi (gOf X.K (own.map (·.2)) gd) (tOfT X.K WF dt) (tOf X.K WF de) (own.map (·.2))) (gName j)) (dAsg (dLc id gd dt de (own.map (·.2))) (hName j)) :=
  vs_setLc hc hN hi ok (fun s H C cl fp => vg_of (hg s H C cl fp)) (fun s H C cl fp => vts_of (ht s H C cl fp)) (fun s H C cl fp => ve_of (he s H C cl fp)) hy hyl hk hln ha hl2 hs
theorem vs_setLcMX {j : Nat} {y : Str} {py spos : Pos} (hc : X.calm = true) (hN : X.N.Nodup) (hi : VI X W tg iter wi id) (ok : BlkOk X.N X.env.scope scope own) (hg : BlkG X scope (own.map (·.2)) tg gd) (ht : BlkT X scope ifs dt) (he : BlkE X scope elt de) (hy : X.N[j]? = some y := by rfl) (hyl : X.env.scope.names.lookup y = some .local := by rfl)
    (hk : X.env.scope.kind = .function := by rfl) (hln : (py.line == pos.line) = true := by rfl) (ha : (scope.names.any fun (n, k) => n == y && (k == .local || k == .cell)) = false := by rfl) (hl2 : spos.line = pos.line := by rfl) (hs : ∀ x, foldedSetIterable iter X.env x = pure x := by intro _; rfl) :
    VS X W (.Assign [.Name y py] (.ListComp elt [⟨tg, iter, ifs, 0⟩] scope pos) spos) (tAsg (tLc wi (gOf X.K (own.map (·.2)) gd) (tOfT X.K WF dt) (tOf X.K WF de) (own.map (·.2))) (gName j)) (dAsg (dLcM id gd dt de (own.map (·.2))) (hName j)) :=
  vs_setLcM hc hN hi ok (fun s H C cl fp => vg_of (hg s H C cl fp)) (fun s H C cl fp => vts_of (ht s H C cl fp)) (fun s H C cl fp => ve_of (he s H C cl fp)) hy hyl hk hln ha hl2 hs
end

/-! the same of suites -/
def sOf (K : PySem.W.Frag) (W : WX) (td : TSd) : TS := fun D σV H => ∃ (F : Hp) (σ : Sd) (S : Sto) (Dd : EndsD), HSt K F H S ∧ ER K (mask F S H) σV σ ∧ td Dd σ S ∧ LS K F W H S Dd D
theorem vss_of {X : Cx} {W : WX} {l : List Stmt} {td : TSd} (h : ∃ t, VSs X W l t td) : VSs X W l (sOf X.K W td) td := h.elim fun t v => ⟨⟨fun pins s σ H D I ⟨F, σd, S, Dd, a, b, c, d⟩ => v.run.run pins s σ H D I (v.snd a b c d)⟩, fun {σV F H σ S Dd D} a b c d => ⟨F, σ, S, Dd, a, b, c, d⟩⟩
theorem vs_tryX {X : Cx} {x n : Str} {c : Value} {i : Nat} {body suite : List Stmt} {b₀ : Stmt} {np pos pos' : Pos} {tbd : TSd} {tsd : Addr → Value → Option Addr → TSd} {W : WX} {sub : Value → Option Bool} (hs : X.stack = X.env :: X.outer) (hf : X.env.frame = some X.env.locals) (hN : X.N.Nodup) (hi : X.N[i]? = some n) (hln : X.env.kindOf n = some .local)
    (hc : Names X x c) (tk : Takes X W) (hsub : ∀ cls b, sub cls = some b → PySem.W.exmOne X.K cls c = some b)
    (hb : ∀ (W' : WX) (pn : List (Addr × Obj)) (xe : Value → Shared → Prop), Takes (X.tr pn xe) W' → PassesOwn (model X.prog X.w) X.A X.env xe → ∃ t, VSs (X.tr pn xe) W' body t tbd)
    (hsu : ∀ (a : Addr) (oe : Obj) (cls : Value) (d : Option Addr) (pn : List (Addr × Obj)), Zc cls d oe → (∃ vs, oe.data = .fields vs) → ∃ t, VSs (X.suite a ((a, oe) :: pn)) WF (b₀ :: suite) t (tsd a cls d)) :
    VS X W (.Try body [.ExceptHandler (some (.Name x np)) (some n) (b₀ :: suite) pos'] [] [] pos) (fun D σ H => sOf X.K (wAs X.K c i (fun a cls d => sOf X.K WF (tsd a cls d)) W D) tbd D σ H) (dTryAs sub i tbd tsd) :=
  vs_try_as (tb := fun W' => sOf X.K W' tbd) (ts := fun a cls d => sOf X.K WF (tsd a cls d)) hs hf hN hi hln hc tk hsub (fun W' pn xe a b => vss_of (hb W' pn xe a b)) (fun W' => fun {σV F H σ S Dd D} a b c d => ⟨F, σ, S, Dd, a, b, c, d⟩) (fun a oe cls d pn h1 h2 => vss_of (hsu a oe cls d pn h1 h2))
end VL

/-! VL: the readings, as simp reads them. -/
namespace VL
open PySem PySem.Spec PyProof.Rows L2

@[simp ↓] theorem z_dSeq {t u : TSd} {D : EndsD} {σ : Sd} {S : Sto} : dSeq t u D σ S = t { D with nx := u D } σ S := rfl
@[simp ↓] theorem z_dNext {D : EndsD} {σ : Sd} {S : Sto} : dNext D σ S = D.nx σ S := rfl
@[simp ↓] theorem z_dNever {D : EndsD} {σ : Sd} {S : Sto} : dNever D σ S = False := rfl
@[simp ↓] theorem z_dBreak {D : EndsD} {σ : Sd} {S : Sto} : dBreak D σ S = D.bk σ S := rfl
@[simp ↓] theorem z_dCont {D : EndsD} {σ : Sd} {S : Sto} : dCont D σ S = D.ct σ S := rfl
@[simp ↓] theorem z_dDrop {de : TEd} {D : EndsD} {σ : Sd} {S : Sto} : dDrop de D σ S = de σ S (fun _ S1 => D.nx σ S1) (D.ex σ) := rfl
@[simp ↓] theorem z_dRet {de : TEd} {D : EndsD} {σ : Sd} {S : Sto} : dRet de D σ S = de σ S D.rt (D.ex σ) := rfl
@[simp ↓] theorem z_dRetN {D : EndsD} {σ : Sd} {S : Sto} : dRetN D σ S = D.rt .non S := rfl
@[simp ↓] theorem z_dIf {c : TTd} {t u : TSd} {D : EndsD} {σ : Sd} {S : Sto} : dIf c t u D σ S = c σ S (fun b S1 => if b = true then t D σ S1 else u D σ S1) (D.ex σ) := rfl
@[simp ↓] theorem z_dAsg {de : TEd} {gd : TGd} {D : EndsD} {σ : Sd} {S : Sto} : dAsg de gd D σ S = de σ S (fun d S1 => gd d σ S1 D.nx) (D.ex σ) := rfl
@[simp ↓] theorem z_dPar {j k : Nat} {da : TAd} {D : EndsD} {σ : Sd} {S : Sto} : dPar j k da D σ S = da σ S (fun ds S1 => match ds with | [x, y] => D.nx ((σ.set j (some x)).set k (some y)) S1 | _ => False) (D.ex σ) := rfl
@[simp ↓] theorem z_dAug {j : Nat} {f : Int → Int → Int} {de : TEd} {D : EndsD} {σ : Sd} {S : Sto} : dAug j f de D σ S = (match σ[j]? with | some (some (.int i)) => de σ S (fun d S1 => match d with | .int k => D.nx (σ.set j (some (.int (f i k)))) S1 | _ => False) (D.ex σ) | _ => False) := rfl
@[simp ↓] theorem z_hName {i : Nat} {d : D} {σ : Sd} {S : Sto} {Q : Sd → Sto → Prop} : hName i d σ S Q = Q (σ.set i (some d)) S := rfl
@[simp ↓] theorem z_hNil0 {σ : Sd} {S : Sto} {Q : Sd → Sto → Prop} : hNil [] σ S Q = Q σ S := rfl
@[simp ↓] theorem z_hCons {t : TGd} {u : TGsd} {d : D} {ds : List D} {σ : Sd} {S : Sto} {Q : Sd → Sto → Prop} : hCons t u (d :: ds) σ S Q = t d σ S fun σ1 S1 => u ds σ1 S1 Q := rfl
@[simp ↓] theorem z_dVar {i : Nat} {σ : Sd} {S : Sto} {Q : QD} {E : XD} : dVar i σ S Q E = (match σ[i]? with | some (some d) => Q d S | _ => False) := rfl
@[simp ↓] theorem z_dC {d : D} {σ : Sd} {S : Sto} {Q : QD} {E : XD} : dC d σ S Q E = Q d S := rfl
@[simp ↓] theorem z_dOp {rd : R2d} {ta tb : TEd} {σ : Sd} {S : Sto} {Q : QD} {E : XD} : dOp rd ta tb σ S Q E = ta σ S (fun x S1 => tb σ S1 (fun y S2 => rd x y S2 Q) E) E := rfl
@[simp ↓] theorem z_dAdd {x y : D} {S : Sto} {Q : QD} : dAdd x y S Q = (match vw S x, vw S y with | .int i, .int j => Q (.int (i + j)) S | .str i, .str j => i.length + j.length ≤ sizeLine ∧ Q (.str (i ++ j)) S | .lst i, .lst j => i.length ≤ sizeLine ∧ j.length ≤ sizeLine ∧ i.length + j.length ≤ sizeLine ∧ Q (.lst (i ++ j)) S | _, _ => False) := rfl
@[simp ↓] theorem z_dNil {σ : Sd} {S : Sto} {Q : List D → Sto → Prop} {E : XD} : dNil σ S Q E = Q [] S := rfl
@[simp ↓] theorem z_dCons {de : TEd} {dr : TAd} {σ : Sd} {S : Sto} {Q : List D → Sto → Prop} {E : XD} : dCons de dr σ S Q E = de σ S (fun d S1 => dr σ S1 (fun ds S2 => Q (d :: ds) S2) E) E := rfl
@[simp ↓] theorem z_dTup {da : TAd} {σ : Sd} {S : Sto} {Q : QD} {E : XD} : dTup da σ S Q E = da σ S (fun ds S1 => ds.length ≤ sizeLine ∧ Q (.tup ds) S1) E := rfl
@[simp ↓] theorem z_dLst {da : TAd} {σ : Sd} {S : Sto} {Q : QD} {E : XD} : dLst da σ S Q E = da σ S (fun ds S1 => ds.length ≤ sizeLine ∧ Q (.lst ds) S1) E := rfl
@[simp ↓] theorem z_dLstM {da : TAd} {σ : Sd} {S : Sto} {Q : QD} {E : XD} : dLstM da σ S Q E = da σ S (fun ds S1 => ds.length ≤ sizeLine ∧ ∀ p, S1 p = none → Q (.ref p) (put S1 p (.lst ds))) E := rfl
@[simp ↓] theorem z_dDctM {σ : Sd} {S : Sto} {Q : QD} {E : XD} : dDctM σ S Q E = ∀ p, S p = none → Q (.ref p) (put S p (.dct [])) := rfl
@[simp ↓] theorem z_dCB {rd : RCd} {da : TAd} {σ : Sd} {S : Sto} {Q : QD} {E : XD} : dCB rd da σ S Q E = da σ S (fun ds S1 => rd ds S1 Q) E := rfl
@[simp ↓] theorem z_dCall {spd : Spd} {dds : List D} {da : TAd} {σ : Sd} {S : Sto} {Q : QD} {E : XD} : dCall spd dds da σ S Q E = da σ S (fun ds S1 => spd (ds ++ dds) S1 Q E) E := rfl
@[simp ↓] theorem z_dCallK {n m : Nat} {spd : Spd} {gD : List D → List D → List D} {da dk : TAd} {σ : Sd} {S : Sto} {Q : QD} {E : XD} : dCallK n m spd gD da dk σ S Q E = da σ S (fun ds S1 => dk σ S1 (fun zs S2 => ds.length = n ∧ zs.length = m ∧ spd (gD ds zs) S2 Q E) E) E := rfl
@[simp ↓] theorem z_dYes {σ : Sd} {S : Sto} {Q : Bool → Sto → Prop} {E : XD} : dYes σ S Q E = Q true S := rfl
@[simp ↓] theorem z_dIfE {dt : TTd} {da db : TEd} {σ : Sd} {S : Sto} {Q : QD} {E : XD} : dIfE dt da db σ S Q E = dt σ S (fun c S1 => if c = true then da σ S1 Q E else db σ S1 Q E) E := rfl
@[simp ↓] theorem z_dAndT {t u : TTd} {σ : Sd} {S : Sto} {Q : Bool → Sto → Prop} {E : XD} : dAndT t u σ S Q E = t σ S (fun c S1 => if c = true then u σ S1 Q E else Q false S1) E := rfl
@[simp ↓] theorem z_dOrT {t u : TTd} {σ : Sd} {S : Sto} {Q : Bool → Sto → Prop} {E : XD} : dOrT t u σ S Q E = t σ S (fun c S1 => if c = true then Q true S1 else u σ S1 Q E) E := rfl
@[simp ↓] theorem z_dNotT {t : TTd} {σ : Sd} {S : Sto} {Q : Bool → Sto → Prop} {E : XD} : dNotT t σ S Q E = t σ S (fun c S1 => Q (!c) S1) E := rfl
@[simp ↓] theorem z_dNoPart {σ : Sd} {S : Sto} {Q : Option Int → Sto → Prop} {E : XD} : dNoPart σ S Q E = Q none S := rfl
@[simp ↓] theorem z_dRaiseO {C : Addr} {f : Str} {de : TEd} {D : EndsD} {σ : Sd} {S : Sto} : dRaiseO C f de D σ S = de σ S (fun d S1 => D.ex σ (.ref C) [(f, d)] S1) (D.ex σ) := rfl
@[simp ↓] theorem z_dFor {id : TId} {gd : TGd} {tb : TSd} {D : EndsD} {σ : Sd} {S : Sto} : dFor id gd tb D σ S = id σ S (fun ds S1 => dForL gd tb D ds σ S1) (D.ex σ) := rfl
@[simp ↓] theorem z_dForL0 {gd : TGd} {tb : TSd} {Z : EndsD} {σ : Sd} {S : Sto} : dForL gd tb Z [] σ S = Z.nx σ S := rfl
@[simp ↓] theorem z_dLc {id : TId} {gd : TGd} {dt : TTd} {de : TEd} {vs : List Nat} {σ : Sd} {S : Sto} {Q : QD} {E : XD} : dLc id gd dt de vs σ S Q E = id σ S (fun ds S1 => ds.length ≤ sizeLine ∧ dLcL gd dt de (wipeD σ vs) (fun acc S2 => Q (.lst acc) S2) ds [] S1) E := rfl
@[simp ↓] theorem z_dLcM {id : TId} {gd : TGd} {dt : TTd} {de : TEd} {vs : List Nat} {σ : Sd} {S : Sto} {Q : QD} {E : XD} : dLcM id gd dt de vs σ S Q E = id σ S (fun ds S1 => ds.length ≤ sizeLine ∧ dLcL gd dt de (wipeD σ vs) (fun acc S2 => ∀ p, S2 p = none → Q (.ref p) (put S2 p (.lst acc))) ds [] S1) E := rfl
@[simp ↓] theorem z_dPart {td : TEd} {σ : Sd} {S : Sto} {Q : Option Int → Sto → Prop} {E : XD} : dPart td σ S Q E = (td σ S (fun d S1 => match d with
  | .int i => Q (some i) S1
  | _ => False) E) := rfl
@[simp ↓] theorem z_dSlice {de : TEd} {dl dh : TOd} {σ : Sd} {S : Sto} {Q : QD} {E : XD} : dSlice de dl dh σ S Q E = (de σ S (fun x S1 => dl σ S1 (fun lo S2 => dh σ S2 (fun hi S3 => match vw S3 x with
  | .lst ds => Q (.lst (cutD ds lo hi)) S3
  | .tup ds => ¬ (HT.sIx ds.length 0 lo = 0 ∧ HT.sIx ds.length ds.length hi = ds.length) ∧ Q (.tup (cutD ds lo hi)) S3
  | .str z => z.length ≤ sizeLine ∧ Q (.str (cutS z lo hi)) S3
  | _ => False) E) E) E) := rfl
@[simp ↓] theorem z_dIx  {x y : D} {S : Sto} {Q : QD} : dIx  x y S Q = (match vw S x with
  | .lst ds => match y with
    | .int i => match atI ds i with
      | some d => Q d S
      | none => False
    | _ => False
  | .tup ds => match y with
    | .int i => match atI ds i with
      | some d => Q d S
      | none => False
    | _ => False
  | .str z => match y with
    | .int i => z.length ≤ sizeLine ∧ match atI z.cps.toList i with
      | some c => Q (.str ⟨#[c]⟩) S
      | none => False
    | _ => False
  | .dct kds => match keyD y with
    | some k => match getK kds k with
      | some d => Q d S
      | none => False
    | none => False
  | _ => False) := rfl
@[simp ↓] theorem z_dInG {g : Bool → Bool} {x y : D} {S : Sto} {Q : QD} : dInG g x y S Q = (match vw S y with
  | .lst ds => flatD x = true ∧ ds.all flatD = true ∧ Q (.bl (g (inD x ds))) S
  | .tup ds => flatD x = true ∧ ds.all flatD = true ∧ Q (.bl (g (inD x ds))) S
  | .dct kds => match keyD x with
    | some k => Q (.bl (g (getK kds k).isSome)) S
    | none => False
  | .str z => match signD x with
    | some c => Q (.bl (g (decide (c ∈ z.cps.toList)))) S
    | none => False
  | _ => False) := rfl
@[simp ↓] theorem z_iOp {C : Int → Int → Prop} {g : Int → Int → Int} {x y : D} {S : Sto} {Q : QD} : iOp C g x y S Q = (match vw S x, vw S y with
  | .int i, .int j => C i j ∧ Q (.int (g i j)) S
  | _, _ => False) := rfl
@[simp ↓] theorem z_iCmp {g : Int → Int → Bool} {x y : D} {S : Sto} {Q : QD} : iCmp g x y S Q = (match vw S x, vw S y with
  | .int i, .int j => Q (.bl (g i j)) S
  | _, _ => False) := rfl
@[simp ↓] theorem z_dIsG {g : Bool → Bool} {x y : D} {S : Sto} {Q : QD} : dIsG g x y S Q = (match x, y with
  | d, .non => Q (.bl (g (isNon d))) S
  | .bl i, .bl j => Q (.bl (g (decide (i = j)))) S
  | _, _ => False) := rfl
@[simp ↓] theorem z_dTest {de : TEd} {σ : Sd} {S : Sto} {Q : Bool → Sto → Prop} {E : XD} : dTest de σ S Q E = (de σ S (fun x S1 => match x with
  | .bl k => Q k S1
  | _ => False) E) := rfl
@[simp ↓] theorem z_dAndV {da db : TEd} {σ : Sd} {S : Sto} {Q : QD} {E : XD} : dAndV da db σ S Q E = (da σ S (fun x S1 => match x with
  | .bl c => if c = true then db σ S1 Q E else Q (.bl false) S1
  | _ => False) E) := rfl
@[simp ↓] theorem z_dOrV {da db : TEd} {σ : Sd} {S : Sto} {Q : QD} {E : XD} : dOrV da db σ S Q E = (da σ S (fun x S1 => match x with
  | .bl c => if c = true then Q (.bl true) S1 else db σ S1 Q E
  | _ => False) E) := rfl
@[simp ↓] theorem z_dNotV {da : TEd} {σ : Sd} {S : Sto} {Q : QD} {E : XD} : dNotV da σ S Q E = (da σ S (fun x S1 => match x with
  | .bl c => Q (.bl (!c)) S1
  | _ => False) E) := rfl
@[simp ↓] theorem z_dNeg {da : TEd} {σ : Sd} {S : Sto} {Q : QD} {E : XD} : dNeg da σ S Q E = (da σ S (fun x S1 => match x with | .int i => Q (.int (-i)) S1 | _ => False) E) := rfl
@[simp ↓] theorem z_dChain (rd rd' : R2d) {da db dc : TEd} {σ : Sd} {S : Sto} {Q : QD} {E : XD} : dChain rd rd' da db dc σ S Q E = (da σ S (fun x S1 => db σ S1 (fun y S2 => rd x y S2 (fun z S3 => match z with
  | .bl k => if k = true then dc σ S3 (fun u S4 => rd' y u S4 Q) E else Q (.bl false) S3
  | _ => False)) E) E) := rfl
@[simp ↓] theorem z_hTup {n : Nat} {t : TGsd} {d : D} {σ : Sd} {S : Sto} {Q : Sd → Sto → Prop} : hTup n t d σ S Q = (match vw S d with
  | .tup ds => ds.length = n ∧ t ds σ S Q
  | .lst ds => ds.length = n ∧ t ds σ S Q
  | _ => False) := rfl
@[simp ↓] theorem z_nAny {de : TEd} {σ : Sd} {S : Sto} {R : List D → Sto → Prop} {E : XD} : nAny de σ S R E = (de σ S (fun d S1 => match d with
  | .lst ds => R ds S1
  | .tup ds => R ds S1
  | .str x => R (signs x) S1
  | _ => False) E) := rfl
@[simp ↓] theorem z_nZip {da : TAd} {σ : Sd} {S : Sto} {R : List D → Sto → Prop} {E : XD} : nZip da σ S R E = (da σ S (fun ds S1 => match ds with
  | [.lst xs, .lst ys] => R (zipD xs ys) S1
  | [.tup xs, .tup ys] => R (zipD xs ys) S1
  | _ => False) E) := rfl
@[simp ↓] theorem z_nEnum {da : TAd} {σ : Sd} {S : Sto} {R : List D → Sto → Prop} {E : XD} : nEnum da σ S R E = (da σ S (fun ds S1 => match ds with
  | [.lst xs] => R (enumD 0 xs) S1
  | _ => False) E) := rfl
@[simp ↓] theorem z_nRng1 {da : TAd} {σ : Sd} {S : Sto} {R : List D → Sto → Prop} {E : XD} : nRng1 da σ S R E = (da σ S (fun ds S1 => match ds with
  | [.int j] => (-(2 ^ 62) ≤ j ∧ j < 2 ^ 62) ∧ R (rangeD 0 j.toNat) S1
  | _ => False) E) := rfl
@[simp ↓] theorem z_nRng2 {da : TAd} {σ : Sd} {S : Sto} {R : List D → Sto → Prop} {E : XD} : nRng2 da σ S R E = (da σ S (fun ds S1 => match ds with
  | [.int i, .int j] => (-(2 ^ 62) ≤ i ∧ i < 2 ^ 62 ∧ -(2 ^ 62) ≤ j ∧ j < 2 ^ 62) ∧ R (rangeD i (j - i).toNat) S1
  | _ => False) E) := rfl
@[simp ↓] theorem z_dLen  {ds : List D} {S : Sto} {Q : QD} : dLen  ds S Q = (match ds with
  | [x] => match vw S x with
    | .lst l => Q (.int l.length) S
    | .tup l => Q (.int l.length) S
    | .dct l => Q (.int l.length) S
    | .str z => z.length ≤ sizeLine ∧ Q (.int z.length) S
    | _ => False
  | _ => False) := rfl
@[simp ↓] theorem z_dAll  {ds : List D} {S : Sto} {Q : QD} : dAll  ds S Q = (match ds with
  | [x] => match vw S x with
    | .lst l => match bools l with
      | some bs => Q (.bl (bs.all id)) S
      | none => False
    | _ => False
  | _ => False) := rfl
@[simp ↓] theorem z_dAny  {ds : List D} {S : Sto} {Q : QD} : dAny  ds S Q = (match ds with
  | [x] => match vw S x with
    | .lst l => match bools l with
      | some bs => Q (.bl (bs.any id)) S
      | none => False
    | _ => False
  | _ => False) := rfl
@[simp ↓] theorem z_dSum  {ds : List D} {S : Sto} {Q : QD} : dSum  ds S Q = (match ds with
  | [x] => match vw S x with
    | .lst l => match intsD l with
      | some bs => Q (.int bs.sum) S
      | none => False
    | _ => False
  | _ => False) := rfl
@[simp ↓] theorem z_dIsi  {ds : List D} {S : Sto} {Q : QD} : dIsi  ds S Q = (match ds with
  | [x, .ty n] => match tyN (vw S x) with
    | some t => kindsB.contains n = true ∧ Q (.bl (isT t n)) S
    | none => False
  | [x, .tup ns] => match tyN (vw S x), tysD ns with
    | some t, some l => l.all kindsB.contains = true ∧ Q (.bl (l.any (isT t))) S
    | _, _ => False
  | _ => False) := rfl
@[simp ↓] theorem z_dListOf  {ds : List D} {S : Sto} {Q : QD} : dListOf  ds S Q = (match ds with
  | [x] => match vw S x with
    | .lst l => Q (.lst l) S
    | .tup l => Q (.lst l) S
    | _ => False
  | _ => False) := rfl
@[simp ↓] theorem z_dListOfM  {ds : List D} {S : Sto} {Q : QD} : dListOfM  ds S Q = (match ds with
  | [x] => match vw S x with
    | .lst l => ∀ p, S p = none → Q (.ref p) (put S p (.lst l))
    | .tup l => ∀ p, S p = none → Q (.ref p) (put S p (.lst l))
    | _ => False
  | _ => False) := rfl
@[simp ↓] theorem z_dTupOf  {ds : List D} {S : Sto} {Q : QD} : dTupOf  ds S Q = (match ds with
  | [x] => match vw S x with
    | .lst l => Q (.tup l) S
    | .tup l => Q (.tup l) S
    | _ => False
  | _ => False) := rfl
@[simp ↓] theorem z_dStr  {ds : List D} {S : Sto} {Q : QD} : dStr  ds S Q = (match ds with
  | [.int i] => i.natAbs.log2 < 1920 ∧ Q (.str (toString i)) S
  | _ => False) := rfl
@[simp ↓] theorem z_dInt  {ds : List D} {S : Sto} {Q : QD} : dInt  ds S Q = (match ds with
  | [.int i] => Q (.int i) S
  | [.bl k] => Q (.int (if k then 1 else 0)) S
  | [.str a] => match PySem.intText? a with
    | some n => a.length ≤ 640 ∧ Q (.int n) S
    | none => False
  | _ => False) := rfl
@[simp ↓] theorem z_dMM {g : Int → Int → Int} {ds : List D} {S : Sto} {Q : QD} : dMM g ds S Q = (match ds with
  | [.int i, .int j] => Q (.int (g i j)) S
  | _ => False) := rfl
@[simp ↓] theorem z_dAbs  {ds : List D} {S : Sto} {Q : QD} : dAbs  ds S Q = (match ds with
  | [.int i] => Q (.int (if i < 0 then -i else i)) S
  | _ => False) := rfl
@[simp ↓] theorem z_dSetI {de d0 di : TEd} {D : EndsD} {σ : Sd} {S : Sto} : dSetI de d0 di D σ S = (de σ S (fun v S1 => d0 σ S1 (fun x S2 => di σ S2 (fun y S3 => match x with
  | .ref p => match S3 p with
    | some (.lst ds) => match y with
      | .int k => match ixN ds.length k with
        | some j => D.nx σ (put S3 p (.lst (ds.set j v)))
        | none => False
      | _ => False
    | some (.dct kds) => match keyD y with
      | some k => kds.length < sizeLine ∧ D.nx σ (put S3 p (.dct (putKD kds k v)))
      | none => False
    | _ => False
  | _ => False) (D.ex σ)) (D.ex σ)) (D.ex σ)) := rfl
@[simp ↓] theorem z_dAppend {d0 : TEd} {da : TAd} {σ : Sd} {S : Sto} {Q : QD} {E : XD} : dAppend d0 da σ S Q E = (d0 σ S (fun x S1 => match x with
  | .ref p => (∃ es, S1 p = some (.lst es)) ∧ da σ S1 (fun vs S2 => match vs with
    | [v] => match S2 p with
      | some (.lst ds) => ds.length < sizeLine ∧ Q .non (put S2 p (.lst (ds ++ [v])))
      | _ => False
    | _ => False) E
  | _ => False) E) := rfl
@[simp ↓] theorem z_dListVals {de : TEd} {σ : Sd} {S : Sto} {Q : QD} {E : XD} : dListVals de σ S Q E = (de σ S (fun x S1 => match vw S1 x with
  | .dct kds => Q (.lst (kds.map (·.2))) S1
  | _ => False) E) := rfl
@[simp ↓] theorem z_dRepr  {ds : List D} {S : Sto} {Q : QD} : dRepr  ds S Q = (match ds with
  | [x] => match toP (vw S x) with
    | some p => p.showable = true ∧ p.depth ≤ 64 ∧ p.shown.length ≤ sizeLine ∧ Q (.str p.shown) S
    | none => False
  | _ => False) := rfl
@[simp ↓] theorem z_dSee {j : Nat} {td : TSd} {D : EndsD} {σ : Sd} {S : Sto} : dSee j td D σ S = (match σ[j]? with
  | some (some (.ref a)) => match S a with
    | some (.lst ds) => td D (σ.set j (some (.lst ds))) (era S a)
    | some (.dct ds) => td D (σ.set j (some (.dct ds))) (era S a)
    | _ => False
  | _ => False) := rfl

/-! equality of data -/
section
variable {g : Bool → Bool} {S : Sto} {Q : QD}
@[simp ↓] theorem z_eqI {i j : Int} : dEqG g (.int i) (.int j) S Q = Q (.bl (g (decide (i = j)))) S := rfl
@[simp ↓] theorem z_eqS {i j : Str} : dEqG g (.str i) (.str j) S Q = Q (.bl (g (decide (i = j)))) S := rfl
@[simp ↓] theorem z_eqB {i j : Bool} : dEqG g (.bl i) (.bl j) S Q = Q (.bl (g (decide (i = j)))) S := rfl
theorem eqG_of {x y : D} {p q : PyData} (hx : toP (vw S x) = some p) (hy : toP (vw S y) = some q) (h : ∀ b, b = PyData.eqv p q → Q (.bl (g b)) S) (hp : SeqAt.shaped p = true) (hq : SeqAt.shaped q = true)
    (ni : ∀ i j, vw S x = .int i → vw S y ≠ .int j) (ns : ∀ i j, vw S x = .str i → vw S y ≠ .str j) (nb : ∀ i j, vw S x = .bl i → vw S y ≠ .bl j) : dEqG g x y S Q := by
  unfold dEqG
  split
  · next i j e1 e2 => exact absurd e2 (ni i j e1)
  · next i j e1 e2 => exact absurd e2 (ns i j e1)
  · next i j e1 e2 => exact absurd e2 (nb i j e1)
  · rw [hx, hy]; exact ⟨hp, hq, h _ rfl⟩
end

/-! comprehensions whose turns change nothing -/
def oneD (gd : TGd) (dt : TTd) (de : TEd) (σ0 : Sd) (d : D) (S : Sto) (R : Option D → Sto → Prop) : Prop := gd d σ0 S fun σ1 S1 => dt σ1 S1 (fun b S2 => if b = true then de σ1 S2 (fun y S3 => R (some y) S3) XF else R none S2) XF
theorem lcL_of {gd : TGd} {dt : TTd} {de : TEd} {σ0 : Sd} {Q : List D → Sto → Prop} {S : Sto} (f : D → Option D) : ∀ (ds acc : List D), (∀ d ∈ ds, ∀ R : Option D → Sto → Prop, R (f d) S → oneD gd dt de σ0 d S R) → Q (acc ++ ds.filterMap f) S → dLcL gd dt de σ0 Q ds acc S
  | [], acc, _, h => by rw [List.filterMap_nil, List.append_nil] at h; exact h
  | d :: ds, acc, st, h => by
    have z := st d (List.mem_cons_self ..) (fun o S' => match o with
      | some y => dLcL gd dt de σ0 Q ds (acc ++ [y]) S'
      | none => dLcL gd dt de σ0 Q ds acc S')
    refine z ?_
    rw [List.filterMap_cons] at h
    cases e : f d with
    | none => rw [e] at h; exact lcL_of f ds acc (fun d hd => st d (List.mem_cons_of_mem _ hd)) h
    | some y =>
      rw [e] at h
      exact lcL_of f ds (acc ++ [y]) (fun d hd => st d (List.mem_cons_of_mem _ hd)) (by rw [List.append_assoc]; exact h)
theorem lcC_of {gd : TGd} {dt : TTd} {de : TEd} {σ0 : Sd} {Q : List D → Sto → Prop} {S : Sto} (f : D → Option D) : ∀ (ds acc : List D), (∀ d ∈ ds, ∀ R : Option D → Sto → Prop, R (f d) S → oneD gd dt de σ0 d S R) → (acc ++ ds.filterMap f).length ≤ sizeLine → Q (acc ++ ds.filterMap f) S → dLcC gd dt de σ0 Q ds acc S
  | [], acc, _, _, h => by rw [List.filterMap_nil, List.append_nil] at h; exact h
  | d :: ds, acc, st, hl, h => by
    have z := st d (List.mem_cons_self ..) (fun o S' => match o with
      | some y => acc.length < sizeLine ∧ dLcC gd dt de σ0 Q ds (acc ++ [y]) S'
      | none => dLcC gd dt de σ0 Q ds acc S')
    refine z ?_
    rw [List.filterMap_cons] at h hl
    cases e : f d with
    | none => rw [e] at h hl; exact lcC_of f ds acc (fun d hd => st d (List.mem_cons_of_mem _ hd)) hl h
    | some y =>
      rw [e] at h hl
      refine ⟨?_, lcC_of f ds (acc ++ [y]) (fun d hd => st d (List.mem_cons_of_mem _ hd)) (by rw [List.append_assoc]; exact hl) (by rw [List.append_assoc]; exact h)⟩
      rw [List.length_append, List.length_cons] at hl
      omega
end VL

/-! VL: plain data, shown and compared. -/
namespace VL
open PySem PySem.Spec PyProof.Rows L2

/-- d is plain data p, of depth at most k, of bulk at most b -/
structure Tame (d : D) (p : PyData) (k b : Nat) : Prop where
  is : toP d = some p
  lay : p.canLay0 = true
  deep : p.depth ≤ k
  show_ : p.showable = true
  leaf : p.leavesShort 13 = true
  bulk : p.bulk ≤ b
structure Tames (ds : List D) (ps : List PyData) (k b : Nat) : Prop where
  is : toPs ds = some ps
  lay : PyData.canLayAll0 ps = true
  deep : PyData.depthAll ps ≤ k
  show_ : PyData.showableAll ps = true
  leaf : PyData.leavesShortAll 13 ps = true
  bulk : PyData.bulkAll ps ≤ ds.length * (b + 1)
theorem tame_int {i : Int} (h : i.natAbs < 10 ^ 12) : Tame (.int i) (.int i) 0 0 := by
  refine ⟨rfl, rfl, Nat.le_refl _, ?_, ?_, Nat.le_refl _⟩
  · rw [PyData.showable, decide_eq_true_eq]
    by_cases z : i.natAbs = 0
    · rw [z]; decide
    · have : i.natAbs.log2 < 64 := (Nat.log2_lt z).mpr (Nat.lt_trans h (by decide))
      omega
  · rw [PyData.leavesShort, decide_eq_true_eq]
    exact PyData.shown_int_le h
theorem tame_str {x : Str} {b : Nat} (h : (PyData.str x).canLay0 = true) (h2 : (PyData.str x).leavesShort 13 = true) (h3 : x.cps.size ≤ b) : Tame (.str x) (.str x) 0 b := ⟨rfl, h, Nat.le_refl _, rfl, h2, h3⟩
theorem Tame.up {d : D} {p : PyData} {k b k' b' : Nat} (h : Tame d p k b) (hk : k ≤ k') (hb : b ≤ b') : Tame d p k' b' := ⟨h.is, h.lay, Nat.le_trans h.deep hk, h.show_, h.leaf, Nat.le_trans h.bulk hb⟩
theorem tames_nil {k b : Nat} : Tames [] [] k b := ⟨rfl, rfl, Nat.zero_le _, rfl, rfl, Nat.zero_le _⟩
theorem tames_cons {d : D} {p : PyData} {ds : List D} {ps : List PyData} {k b : Nat} (h : Tame d p k b) (r : Tames ds ps k b) : Tames (d :: ds) (p :: ps) k b := by
  refine ⟨by rw [toPs, h.is, r.is], ?_, ?_, ?_, ?_, ?_⟩
  · rw [PyData.canLayAll0, h.lay, r.lay]; rfl
  · rw [PyData.depthAll]; exact Nat.max_le.mpr ⟨h.deep, r.deep⟩
  · rw [PyData.showableAll, h.show_, r.show_]; rfl
  · rw [PyData.leavesShortAll, h.leaf, r.leaf]; rfl
  · rw [PyData.bulkAll, List.length_cons]
    have h1 := h.bulk
    have h2 := r.bulk
    have e : (ds.length + 1) * (b + 1) = ds.length * (b + 1) + (b + 1) := by rw [Nat.add_mul, Nat.one_mul]
    omega
theorem tame_tup {ds : List D} {ps : List PyData} {k b c : Nat} (r : Tames ds ps k b) (hc : ds.length * (b + 1) ≤ c) : Tame (.tup ds) (.tuple ps) (k + 1) c := by
  refine ⟨by rw [toP, r.is]; rfl, ?_, ?_, ?_, ?_, ?_⟩
  · rw [PyData.canLay0]; exact r.lay
  · rw [PyData.depth]; exact Nat.succ_le_succ r.deep
  · rw [PyData.showable]; exact r.show_
  · rw [PyData.leavesShort]; exact r.leaf
  · rw [PyData.bulk]; exact Nat.le_trans r.bulk hc
theorem tame_lst {ds : List D} {ps : List PyData} {k b c : Nat} (r : Tames ds ps k b) (hc : ds.length * (b + 1) ≤ c) : Tame (.lst ds) (.list ps) (k + 1) c := by
  refine ⟨by rw [toP, r.is]; rfl, ?_, ?_, ?_, ?_, ?_⟩
  · rw [PyData.canLay0]; exact r.lay
  · rw [PyData.depth]; exact Nat.succ_le_succ r.deep
  · rw [PyData.showable]; exact r.show_
  · rw [PyData.leavesShort]; exact r.leaf
  · rw [PyData.bulk]; exact Nat.le_trans r.bulk hc
theorem tames_map {α : Type} {f : α → D} {k b : Nat} : ∀ {l : List α}, (∀ x ∈ l, ∃ p, Tame (f x) p k b) → ∃ ps, Tames (l.map f) ps k b
  | [], _ => ⟨[], tames_nil⟩
  | x :: l, h => by
    obtain ⟨p, hp⟩ := h x (List.mem_cons_self ..)
    obtain ⟨ps, hps⟩ := tames_map (l := l) fun y hy => h y (List.mem_cons_of_mem _ hy)
    exact ⟨p :: ps, tames_cons hp hps⟩
theorem Tame.shaped {d : D} {p : PyData} {k b : Nat} (h : Tame d p k b) (hk : k ≤ 64) : SeqAt.shaped p = true := by
  show (p.canLay0 && decide (p.depth ≤ 64)) = true
  rw [h.lay, decide_eq_true (Nat.le_trans h.deep hk)]; rfl
/-- repr(x) of such data -/
theorem repr_of {x : D} {S : Sto} {Q : QD} {p : PyData} {k b : Nat} (h : Tame (vw S x) p k b) (hk : k ≤ 64) (hb : b ≤ 1000000) (q : Q (.str p.shown) S) : dRepr [x] S Q := by
  show (match toP (vw S x) with
    | some p => p.showable = true ∧ p.depth ≤ 64 ∧ p.shown.length ≤ sizeLine ∧ Q (.str p.shown) S
    | none => False)
  rw [h.is]
  refine ⟨h.show_, Nat.le_trans h.deep hk, ?_, q⟩
  have h1 := PyData.shown_le_bulk 13 (by decide) p h.leaf
  have h2 := h.bulk
  rw [sizeLine_eq]
  omega
theorem Tame.shows {d : D} {p : PyData} {k b : Nat} (h : Tame d p k b) (hk : k ≤ 64) (hb : b ≤ 1000000) : p.showable = true ∧ p.depth ≤ 64 ∧ p.shown.length ≤ sizeLine := by
  refine ⟨h.show_, Nat.le_trans h.deep hk, ?_⟩
  have h1 := PyData.shown_le_bulk 13 (by decide) p h.leaf
  have h2 := h.bulk
  rw [sizeLine_eq]
  omega
theorem shown_of {x y : D} {p q : PyData} (hx : toP x = some p) (hy : toP y = some q) (e : x = y) : p.shown = q.shown := by
  subst e
  rw [hx] at hy
  cases hy; rfl
/-- l == [], l != [] -/
theorem eqG_nil {g : Bool → Bool} {ds : List D} {S : Sto} {Q : QD} {p : PyData} {k b : Nat} (h : Tame (.lst ds) p k b) (hk : k ≤ 64) (q : Q (.bl (g (decide (ds = [])))) S) : dEqG g (.lst ds) (.lst []) S Q := by
  refine eqG_of (p := p) (q := .list []) h.is rfl (fun c hc => ?_) (h.shaped hk) rfl (fun _ _ z => nomatch z) (fun _ _ z => nomatch z) (fun _ _ z => nomatch z)
  subst hc
  have e : PyData.eqv p (.list []) = decide (ds = []) := by
    have hi := h.is
    cases ds with
    | nil => rw [toP, toPs] at hi; cases hi; rfl
    | cons d ds =>
      rw [toP, toPs] at hi
      cases e1 : toP d with
      | none => rw [e1] at hi; cases hi
      | some p1 =>
        cases e2 : toPs ds with
        | none => rw [e1, e2] at hi; cases hi
        | some p2 => rw [e1, e2] at hi; cases hi; simp [PyData.eqv, PyData.eqvAll]
  rw [e]; exact q
/-- pairs of whole numbers -/
theorem eqG_pair {g : Bool → Bool} {a b c d : Int} {S : Sto} {Q : QD} (q : Q (.bl (g (decide (a = c ∧ b = d)))) S) : dEqG g (.tup [.int a, .int b]) (.tup [.int c, .int d]) S Q := by
  refine eqG_of (p := .tuple [.int a, .int b]) (q := .tuple [.int c, .int d]) rfl rfl (fun z hz => ?_) rfl rfl (fun _ _ z => nomatch z) (fun _ _ z => nomatch z) (fun _ _ z => nomatch z)
  subst hz
  have e : PyData.eqv (.tuple [.int a, .int b]) (.tuple [.int c, .int d]) = decide (a = c ∧ b = d) := by
    simp [PyData.eqv, PyData.eqvAll]; rfl
  rw [e]; exact q
end VL

/-! VL: instances: their fields, their methods, their making. -/
namespace VL
open PySem PySem.Spec PyProof.Rows L2

section
variable {X : Cx} {W : WX} {C : Addr} {f m x : Str} {e o : Expr} {es : List Expr} {te to : TE} {de d0 : TEd} {t : TA} {da : TAd} {pos p pos' apos : Pos} {k : Nat} {fI : Addr} {fd : FuncData} {ps : List Str} {sp : Sp} {spd : Spd} {ds0 : List Value} {dvs : List V} {dds : List D}
/-! ### o.f -/
def dFld (C : Addr) (f : Str) (d0 : TEd) : TEd := fun σ S Q E => d0 σ S (fun x S1 => match x with
  | .ref a => match S1 a with
    | some (.ins C' fs) => C' = C ∧ (match fs.lookup f with
      | some v => Q v S1
      | none => False)
    | _ => False
  | _ => False) E
theorem ve_fld (c : Cls X.K C) (n : NoAttr X.K C f) (ho : VE X W o to d0) (hb : attributeBase o f X.env (eval o X.env) = eval o X.env := by rfl) : VE X W (.Attribute o f pos) (tFld X.K to f) (dFld C f d0) := ⟨pe_fld ho.run hb, fun {σV F H σ S Qd E Q} hs er h hq hx =>
  ho.snd hs er h (fun v H1 d S1 g r h1 => by
    split at h1
    · next a =>
      cases r
      split at h1
      · next C' fs es =>
        obtain ⟨rfl, h1⟩ := h1
        obtain ⟨dx, fv, e1, rf⟩ := g.hst.at_ a _ es
        split at h1
        · next w ew =>
          obtain ⟨u, h2, h3⟩ := rf.lookup.1 w ew
          exact ⟨a, C', dx, fv, u, rfl, e1, c, n, h2, hq u H1 w S1 g h3 h1⟩
        · cases h1
      · cases h1
    · cases h1) hx⟩
/-! ### o.f = e -/
def dSetF (C : Addr) (f : Str) (d0 de : TEd) : TSd := fun D σ S => de σ S (fun v S1 => d0 σ S1 (fun x S2 => match x with
  | .ref a => match S2 a with
    | some (.ins C' fs) => C' = C ∧ fs.length < 1000 ∧ D.nx σ (put S2 a (.ins C' (putG f v fs)))
    | _ => False
  | _ => False) (D.ex σ)) (D.ex σ)
theorem vs_fld (c : Cls X.K C) (n : NoAttr X.K C f) (ho : VE X W o to d0) (he : VE X W e te de) (hs : swapsWith e (some (.Attribute o f pos')) pos.line X.env = pure false := by rfl) : VS X W (.Assign [.Attribute o f pos'] e pos) (sFld X.K to te f) (dSetF C f d0 de) := ⟨ps_fld ho.run he.run hs, fun {σV F H σ S Dd D} hs er h l => by
  refine he.snd hs er h (fun v H1 d S1 g1 r1 h1 => ?_) (l.exs hs er)
  refine ho.snd g1.hst (er.mono g1.same) h1 (fun x H2 dx S2 g2 r2 h2 => ?_) ((l.exs hs er).next g1)
  have g12 := g1.trans g2
  have r1' := r1.mono g2.same
  split at h2
  · next a =>
    cases r2
    split at h2
    · next C' fs es =>
      obtain ⟨rfl, hl, h2⟩ := h2
      obtain ⟨dxx, fv, e1, rf⟩ := g2.hst.at_ a _ es
      have gc : Good X.K F H2 S2 (upd H2 a (.ins C' dxx (putF f v fv))) (put S2 a (.ins C' (putG f d fs))) := ⟨hst_chg g2.hst es (ook_ins (rf.put r1')), by rw [mask_chg es]; exact Same.refl _⟩
      exact ⟨a, C', dxx, fv, rfl, e1, c, n, by rw [rf.length]; exact hl, l.nx _ _ _ _ (g12.trans gc) ((er.mono g12.same).mono gc.same) h2⟩
    · cases h2
  · cases h2⟩

/-! ### o.m(..) -/
theorem runG {pins : List (Addr × Obj)} {σ : L2.St} {H : Hp} {s : Shared} {Q : VK} {us : List Value} {vs : List V} (Fn : FnG X.prog X.w X.K X.mg X.base k fI fd ps sp) (hgd : X.A.guards = some []) (hr : Room k X.A) (tk : Takes X W) (hb : Binds X.K fd ps ds0) (hd : Vals dvs ds0)
    (I : Inv X pins σ H s) (r : Vals vs us) (h : sp (vs ++ dvs) H Q (WE W σ)) : wpAny (model X.prog X.w) X.A (call (.ref fI) us) (EP X pins σ Q) X.xe s := by
  have r2 : Vals (vs ++ dvs) (us ++ ds0) := r.append hd
  have len : (us ++ ds0).length = ps.length := by rw [← r2.length]; exact Fn.len _ _ _ _ h
  exact wpAny_call (run_G Fn hgd hr tk I (hb s us I.kIn len) r2 h)
def tMethG (C : Addr) (m : Str) (sp : Sp) (dvs : List V) (W : WX) (to : TE) (t : TA) : TE := fun σ H Q => to σ H fun x H1 => ∃ a dx fs, x = .ref a ∧ H1 a = some (.ins C dx fs) ∧ fs.lookup m = none ∧ t σ H1 fun vs H2 => sp (x :: (vs ++ dvs)) H2 Q (WE W σ)
theorem pe_methG {pl : Sem Bool} (ho : PE X o to) (c : Cls X.K C) (hm : Meth X.K C m fI) (Fn : FnG X.prog X.w X.K X.mg X.base k fI fd ps sp) (hgd : X.A.guards = some []) (hr : Room k X.A) (tk : Takes X W) (hb : Binds X.K fd ps ds0) (hd : Vals dvs ds0) (ha : PA X (e :: es) t)
    (hst : starEach (e :: es) X.env = (false, eval e X.env) :: starEach es X.env := by rfl) (hpl : (backTo pos (starEach es X.env)).any (·.1) = false := by rfl)
    (ht : eval (.Call (.Attribute o m apos) (e :: es) [] pos) X.env = (do
      let ov ← eval o X.env
      standAt apos.atName
      let (f, first) ← holding [ov] (getMethod ov m pl)
      callWith pos f first (backTo pos (starEach (e :: es) X.env)) (backToKw pos (keywordEach [] X.env))) := by rfl) : PE X (.Call (.Attribute o m apos) (e :: es) [] pos) (tMethG C m sp dvs W to t) := by
  refine ⟨fun pins s σ H Q I h => PySem.W.methodCall_KW (pl := pl) (thn (ho.run pins s σ H _ I h) fun u s1 hh => ?_) ht⟩
  obtain ⟨x, H1, I1, rx, a, dx, fs, rfl, ea, l, q⟩ := hh
  cases rx
  refine getmeth_ok I1 ea c hm l ?_
  refine PySem.W.callWith_K (first := [.ref a]) (h₀ := X.base) I.ok.mod.kin hm.kp (thn (ha.run pos pins s1 σ H1 _ I1 q) fun us s2 hh2 => ?_) hst hpl
  obtain ⟨vs, H2, I2, r, q2⟩ := hh2
  exact ⟨I2.kIn, runG (us := .ref a :: us) (vs := .ref a :: vs) Fn hgd hr tk hb hd I2 (.cons rfl r) q2⟩
theorem pe_methG0 {pl : Sem Bool} (ho : PE X o to) (c : Cls X.K C) (hm : Meth X.K C m fI) (Fn : FnG X.prog X.w X.K X.mg X.base k fI fd ps sp) (hgd : X.A.guards = some []) (hr : Room k X.A) (tk : Takes X W) (hb : Binds X.K fd ps ds0) (hd : Vals dvs ds0)
    (ht : eval (.Call (.Attribute o m apos) [] [] pos) X.env = (do
      let ov ← eval o X.env
      standAt apos.atName
      let (f, first) ← holding [ov] (getMethod ov m pl)
      callWith pos f first (backTo pos (starEach [] X.env)) (backToKw pos (keywordEach [] X.env))) := by rfl) : PE X (.Call (.Attribute o m apos) [] [] pos) (tMethG C m sp dvs W to tNil) := by
  refine ⟨fun pins s σ H Q I h => PySem.W.methodCall_KW (pl := pl) (thn (ho.run pins s σ H _ I h) fun u s1 hh => ?_) ht⟩
  obtain ⟨x, H1, I1, rx, a, dx, fs, rfl, ea, l, q⟩ := hh
  cases rx
  refine getmeth_ok I1 ea c hm l ?_
  exact PySem.W.callWith_K0 (first := [.ref a]) I1.kIn hm.kp (runG (us := [.ref a]) (vs := [.ref a]) Fn hgd hr tk hb hd I1 (.cons rfl .nil) q)
def dMeth (C : Addr) (m : Str) (spd : Spd) (dds : List D) (d0 : TEd) (da : TAd) : TEd := fun σ S Q E => d0 σ S (fun x S1 => match x with
  | .ref a => match S1 a with
    | some (.ins C' fs) => C' = C ∧ fs.lookup m = none ∧ da σ S1 (fun ds S2 => spd (.ref a :: (ds ++ dds)) S2 Q E) E
    | _ => False
  | _ => False) E
theorem snd_meth (hds : ∀ M : Hp, Reps X.K M dvs dds) (ho : Snd X.K W to d0) (ha : SndA X.K W t da) : Snd X.K W (tMethG C m (lift X.K spd) dvs W to t) (dMeth C m spd dds d0 da) := fun {σV F H σ S Qd E Q} hs er h hq hx =>
  ho hs er h (fun v H1 d S1 g1 r1 h1 => by
    split at h1
    · next a =>
      cases r1
      split at h1
      · next C' fs es =>
        obtain ⟨rfl, hl, h1⟩ := h1
        obtain ⟨dxx, fv, e1, rf⟩ := g1.hst.at_ a _ es
        refine ⟨a, dxx, fv, rfl, e1, rf.lookup.2 hl, ?_⟩
        refine ha g1.hst (er.mono g1.same) h1 (fun vs H2 ds S2 g2 r2 h2 => ?_) (hx.next g1)
        have g12 := g1.trans g2
        exact ⟨F, .ref a :: (ds ++ dds), S2, Qd, E, g2.hst, .cons (.ref a) (r2.append (hds _)), h2, hq.next g12, fun cls a' H' fs' S' g' xr q => hx cls a' H' fs' S' (g12.trans g') xr q⟩
      · cases h1
    · cases h1) hx
/-! ### C(..) -/
def tMakeG (C : Addr) (sp : Sp) (dvs : List V) (W : WX) (t : TA) : TE := fun σ H Q => t σ H fun vs H1 => ∀ x dx, H1 x = none → H1 dx = none → dx ≠ x → sp (.ref x :: (vs ++ dvs)) (upd (upd H1 dx (.own x)) x (.ins C dx [])) (fun v H2 => v = .non ∧ Q (.ref x) H2) (WE W σ)
theorem pe_makeG (M : Mk X.K C fI) (Fn : FnG X.prog X.w X.K X.mg X.base k fI fd ps sp) (hgd : X.A.guards = some []) (hr : Room (k + 1) X.A) (tk : Takes X W) (hm : X.mg x = some (.ref C)) (hb : Binds X.K fd ps ds0) (hd : Vals dvs ds0) (ha : PA X (e :: es) t) (hg : Gl X x := by rfl)
    (hdb : (x == ("__debug__" : Str)) = false := by decide) (he : starEach (e :: es) X.env = (false, eval e X.env) :: starEach es X.env := by rfl) (hpl : (backTo pos (starEach es X.env)).any (·.1) = false := by rfl) :
    PE X (.Call (.Name x p) (e :: es) [] pos) (tMakeG C sp dvs W t) := by
  refine ⟨fun pins s σ H Q I h => wpAny_Call_Name_kw (ld_glob I hg hm ?_ hdb)⟩
  refine PySem.W.callWith_K (h₀ := X.base) I.ok.mod.kin M.kp (thn (ha.run pos pins s σ H _ I h) fun us s1 hh => ?_) he hpl
  obtain ⟨vs, H1, I1, r, q⟩ := hh
  refine ⟨I1.kIn, ?_⟩
  have hq := q (s1.heap.objs.size + 1) s1.heap.objs.size (I1.hok.fresh (Nat.le_succ _)) (I1.hok.fresh (Nat.le_refl _)) (Nat.ne_of_lt (Nat.lt_succ_self _))
  have I2 := Inv.made (C := C) I1
  have r2 : Vals (V.ref (s1.heap.objs.size + 1) :: (vs ++ dvs)) (Value.ref (s1.heap.objs.size + 1) :: (us ++ ds0)) := .cons rfl (r.append hd)
  have len : (Value.ref (s1.heap.objs.size + 1) :: us ++ ds0).length = ps.length := by
    have e1 := r2.length
    rw [Fn.len _ _ _ _ hq] at e1
    exact e1.symm
  refine wpAny_call (make_map (f := fI) I1.kIn M.makes M.init (beq_iff_eq.mp M.fn) (codeAny_mono (Fn.run _ X.stack _ _ ⟨Value.ref (s1.heap.objs.size + 1) :: us, []⟩ (Value.ref (s1.heap.objs.size + 1) :: (us ++ ds0)) _ _ (WE W σ) hgd (hr.make C us [])
    (I2.env0.make C us []) (hb _ (Value.ref (s1.heap.objs.size + 1) :: us) I2.kIn len) r2 hq) fun r s' hq' => ?_))
  rcases r with er | (_ | _ | _ | u)
  · exact passAt tk σ pins _ _ er s' I2 hq'
  · exact hq'.elim
  · exact hq'.elim
  · exact hq'.elim
  · obtain ⟨v, H', I3, rv, ev, q3⟩ := I2.after hq'
    subst ev
    exact ⟨rv, ⟨V.ref (s1.heap.objs.size + 1), H', I3, rfl, q3⟩⟩
def dMake (C : Addr) (spd : Spd) (dds : List D) (da : TAd) : TEd := fun σ S Q E => da σ S (fun ds S1 => ∀ x, S1 x = none → spd (.ref x :: (ds ++ dds)) (put S1 x (.ins C [])) (fun v S2 => v = .non ∧ Q (.ref x) S2) E) E
theorem snd_make (hds : ∀ M : Hp, Reps X.K M dvs dds) (ha : SndA X.K W t da) : Snd X.K W (tMakeG C (lift X.K spd) dvs W t) (dMake C spd dds da) := fun {σV F H σ S Qd E Q} hs er h hq hx =>
  ha hs er h (fun vs H1 ds S1 g1 r1 h1 => by
    intro x dx hx0 hd0 hne
    have e0 : upd H1 dx (.own x) x = none := by rw [upd_ne (Ne.symm hne)]; exact hx0
    have ga : Good X.K F H1 S1 (upd H1 dx (.own x)) S1 := good_new g1.hst hd0
    have gb : Good X.K F (upd H1 dx (.own x)) S1 (upd (upd H1 dx (.own x)) x (.ins C dx [])) (put S1 x (.ins C [])) := good_newM ga.hst e0 (ook_ins .nil)
    have g := (g1.trans ga).trans gb
    refine ⟨F, .ref x :: (ds ++ dds), put S1 x (.ins C []), fun v S2 => v = .non ∧ Qd (.ref x) S2, E, gb.hst, .cons (.ref x) (((r1.append (hds _)).mono ga.same).mono gb.same), h1 x (g1.hst.free hx0), ?_, fun cls a' H' fs' S' g' xr q => hx cls a' H' fs' S' (g.trans g') xr q⟩
    intro v H2 d S2 g2 r2 q
    obtain ⟨rfl, q⟩ := q
    cases r2
    exact ⟨rfl, hq _ H2 _ S2 (g.trans g2) (.ref x) q⟩) hx
end
end VL

/-! VL: methods and classes ready to be called. -/
namespace VL
open PySem PySem.Spec PyProof.Rows L2

structure RdyM (P : Program) (w : World) (K : PySem.W.Frag) (mg : Str → Option Value) (base : Heap) (k : Nat) (C : Addr) (m : Str) (dvs : List V) (dds : List D) (spd : Spd) : Prop where
  ex : ∃ (f : Addr) (fd : FuncData) (ps : List Str) (ds0 : List Value), FnG P w K mg base k f fd ps (lift K spd) ∧ Meth K C m f ∧ Binds K fd ps ds0 ∧ Vals dvs ds0 ∧ ∀ M : Hp, Reps K M dvs dds
structure RdyC (P : Program) (w : World) (K : PySem.W.Frag) (mg : Str → Option Value) (base : Heap) (k : Nat) (x : Str) (C : Addr) (dvs : List V) (dds : List D) (spd : Spd) : Prop where
  ex : ∃ (f : Addr) (fd : FuncData) (ps : List Str) (ds0 : List Value), FnG P w K mg base k f fd ps (lift K spd) ∧ Mk K C f ∧ mg x = some (.ref C) ∧ Binds K fd ps ds0 ∧ Vals dvs ds0 ∧ ∀ M : Hp, Reps K M dvs dds
section
variable {P : Program} {w : World} {K : PySem.W.Frag} {mg : Str → Option Value} {base : Heap} {j k : Nat} {x m : Str} {C : Addr} {dvs : List V} {dds : List D} {spd : Spd}
theorem RdyM.mono (h : RdyM P w K mg base j C m dvs dds spd) (le : j ≤ k) : RdyM P w K mg base k C m dvs dds spd := by
  obtain ⟨f, fd, ps, ds0, a, r⟩ := h.ex
  exact ⟨f, fd, ps, ds0, a.mono le, r⟩
theorem RdyC.mono (h : RdyC P w K mg base j x C dvs dds spd) (le : j ≤ k) : RdyC P w K mg base k x C dvs dds spd := by
  obtain ⟨f, fd, ps, ds0, a, r⟩ := h.ex
  exact ⟨f, fd, ps, ds0, a.mono le, r⟩
end
section
variable {X : Cx} {W : WX} {C : Addr} {f m x : Str} {e o : Expr} {es : List Expr} {te to : TE} {de d0 : TEd} {t : TA} {da : TAd} {pos p apos tpos : Pos} {k : Nat} {spd : Spd} {dvs : List V} {dds : List D}
theorem ve_methR {pl : Sem Bool} (R : RdyM X.prog X.w X.K X.mg X.base k C m dvs dds spd) (c : Cls X.K C) (hgd : X.A.guards = some []) (hr : Room k X.A) (tk : Takes X W) (ho : VE X W o to d0) (ha : VA X W (e :: es) t da)
    (hst : starEach (e :: es) X.env = (false, eval e X.env) :: starEach es X.env := by rfl) (hpl : (backTo pos (starEach es X.env)).any (·.1) = false := by rfl)
    (ht : eval (.Call (.Attribute o m apos) (e :: es) [] pos) X.env = (do
      let ov ← eval o X.env
      standAt apos.atName
      let (f, first) ← holding [ov] (getMethod ov m pl)
      callWith pos f first (backTo pos (starEach (e :: es) X.env)) (backToKw pos (keywordEach [] X.env))) := by rfl) :
    VE X W (.Call (.Attribute o m apos) (e :: es) [] pos) (tMethG C m (lift X.K spd) dvs W to t) (dMeth C m spd dds d0 da) := by
  obtain ⟨fa, fd, ps, ds0, G, hm, hb, hd, hds⟩ := R.ex
  exact ⟨pe_methG ho.run c hm G hgd hr tk hb hd ha.run hst hpl ht, snd_meth hds ho.snd ha.snd⟩
theorem ve_methR0 {pl : Sem Bool} (R : RdyM X.prog X.w X.K X.mg X.base k C m dvs dds spd) (c : Cls X.K C) (hgd : X.A.guards = some []) (hr : Room k X.A) (tk : Takes X W) (ho : VE X W o to d0)
    (ht : eval (.Call (.Attribute o m apos) [] [] pos) X.env = (do
      let ov ← eval o X.env
      standAt apos.atName
      let (f, first) ← holding [ov] (getMethod ov m pl)
      callWith pos f first (backTo pos (starEach [] X.env)) (backToKw pos (keywordEach [] X.env))) := by rfl) :
    VE X W (.Call (.Attribute o m apos) [] [] pos) (tMethG C m (lift X.K spd) dvs W to tNil) (dMeth C m spd dds d0 dNil) := by
  obtain ⟨fa, fd, ps, ds0, G, hm, hb, hd, hds⟩ := R.ex
  exact ⟨pe_methG0 ho.run c hm G hgd hr tk hb hd ht, snd_meth hds ho.snd (va_nil (X := X) (W := W)).snd⟩
theorem ve_makeR (R : RdyC X.prog X.w X.K X.mg X.base k x C dvs dds spd) (hgd : X.A.guards = some []) (hr : Room (k + 1) X.A) (tk : Takes X W) (ha : VA X W (e :: es) t da) (hg : Gl X x := by rfl) (hdb : (x == ("__debug__" : Str)) = false := by decide)
    (he : starEach (e :: es) X.env = (false, eval e X.env) :: starEach es X.env := by rfl) (hpl : (backTo pos (starEach es X.env)).any (·.1) = false := by rfl) :
    VE X W (.Call (.Name x p) (e :: es) [] pos) (tMakeG C (lift X.K spd) dvs W t) (dMake C spd dds da) := by
  obtain ⟨fa, fd, ps, ds0, G, hm, hc, hb, hd, hds⟩ := R.ex
  exact ⟨pe_makeG hm G hgd hr tk hc hb hd ha.run hg hdb he hpl, snd_make hds ha.snd⟩
/-- o.f += e (whole numbers) -/
def dAugF (C : Addr) (f : Str) (g : Int → Int → Int) (d0 de : TEd) : TSd := fun D σ S => d0 σ S (fun x S1 => match x with
  | .ref a => match S1 a with
    | some (.ins C' fs) => C' = C ∧ (match fs.lookup f with
      | some (.int i) => de σ S1 (fun y S2 => match y with
        | .int k => match S2 a with
          | some (.ins C2 fs2) => fs2.length < 1000 ∧ D.nx σ (put S2 a (.ins C2 (putG f (.int (g i k)) fs2)))
          | _ => False
        | _ => False) (D.ex σ)
      | _ => False)
    | _ => False
  | _ => False) (D.ex σ)
end
section
variable {σ : Sd} {S : Sto} {Q : QD} {E : XD} {C : Addr} {f m : Str} {d0 de : TEd} {da : TAd} {spd : Spd} {dds : List D} {D : EndsD}
@[simp ↓] theorem z_dFld : dFld C f d0 σ S Q E = (d0 σ S (fun x S1 => match x with
  | .ref a => match S1 a with
    | some (.ins C' fs) => C' = C ∧ (match fs.lookup f with
      | some v => Q v S1
      | none => False)
    | _ => False
  | _ => False) E) := rfl
@[simp ↓] theorem z_dSetF : dSetF C f d0 de D σ S = (de σ S (fun v S1 => d0 σ S1 (fun x S2 => match x with
  | .ref a => match S2 a with
    | some (.ins C' fs) => C' = C ∧ fs.length < 1000 ∧ D.nx σ (put S2 a (.ins C' (putG f v fs)))
    | _ => False
  | _ => False) (D.ex σ)) (D.ex σ)) := rfl
@[simp ↓] theorem z_dMeth : dMeth C m spd dds d0 da σ S Q E = (d0 σ S (fun x S1 => match x with
  | .ref a => match S1 a with
    | some (.ins C' fs) => C' = C ∧ fs.lookup m = none ∧ da σ S1 (fun ds S2 => spd (.ref a :: (ds ++ dds)) S2 Q E) E
    | _ => False
  | _ => False) E) := rfl
@[simp ↓] theorem z_dMake : dMake C spd dds da σ S Q E = (da σ S (fun ds S1 => ∀ x, S1 x = none → spd (.ref x :: (ds ++ dds)) (put S1 x (.ins C [])) (fun v S2 => v = .non ∧ Q (.ref x) S2) E) E) := rfl
end
/-- what the head tells of a class: attributes, methods, its making -/
theorem rdym_of {P : Program} {w : World} {K : PySem.W.Frag} {mg : Str → Option Value} {base : Heap} {k : Nat} {m : Str} {C f : Addr} {fd : FuncData} {ps : List Str} {spd : Spd} (G : FnG P w K mg base k f fd ps (lift K spd)) (hm : Meth K C m f) (hb : Binds K fd ps []) :
    RdyM P w K mg base k C m [] [] spd := ⟨f, fd, ps, [], G, hm, hb, .nil, fun _ => .nil⟩
theorem rdyc_of {P : Program} {w : World} {K : PySem.W.Frag} {mg : Str → Option Value} {base : Heap} {k : Nat} {x : Str} {C f : Addr} {fd : FuncData} {ps : List Str} {spd : Spd} (G : FnG P w K mg base k f fd ps (lift K spd)) (hm : Mk K C f) (hx : mg x = some (.ref C)) (hb : Binds K fd ps []) :
    RdyC P w K mg base k x C [] [] spd := ⟨f, fd, ps, [], G, hm, hx, hb, .nil, fun _ => .nil⟩
end VL
namespace VL
open PySem PySem.Spec PyProof.Rows L2
/-! ### o.f as a target among others -/
def gAtt (C : Addr) (f : Str) (to : TE) : TG := fun v σ H Q => to σ H fun x H1 => ∃ a dx fs, x = .ref a ∧ H1 a = some (.ins C dx fs) ∧ fs.length < 1000 ∧ Q σ (upd H1 a (.ins C dx (putF f v fs)))
def hAtt (C : Addr) (f : Str) (d0 : TEd) : TGd := fun v σ S Q => d0 σ S (fun x S1 => match x with
  | .ref a => match S1 a with
    | some (.ins C' fs) => C' = C ∧ fs.length < 1000 ∧ Q σ (put S1 a (.ins C' (putG f v fs)))
    | _ => False
  | _ => False) XF
section
variable {X : Cx} {W : WX} {C : Addr} {f : Str} {o : Expr} {to : TE} {d0 : TEd} {pos : Pos} {vs : List Nat}
theorem vg_att (c : Cls X.K C) (n : NoAttr X.K C f) (ho : VE X W o to d0) : VG X vs (.Attribute o f pos) (gAtt C f to) (hAtt C f d0) := by
  refine ⟨⟨fun pins s σ H v u Q I r h => ?_⟩, fun {v d σV F H σ S Qd Q} hs er r h hq => ?_⟩
  · rw [PySem.assign_Attribute]
    refine wpAny_bind (wpAny_holding (thn (ho.run.run pins s σ H _ I h) fun ov s1 hh => ?_))
    obtain ⟨x, H1, I1, r1, a, dx, fs, rfl, ea, hl, q⟩ := hh
    cases r1
    refine wpAny_bind (wpAny_standAt (wpAny_bind (wpAny_holding (setattr_ok I1 ea c n hl r fun s2 I2 => ?_))))
    exact wpAny_release ⟨σ, _, I2, q⟩
  · refine ho.snd hs er h (fun x H1 dx S1 g1 r1 h1 => ?_) (fun _ _ _ _ _ _ _ z => z.elim)
    have r' := r.mono g1.same
    split at h1
    · next a =>
      cases r1
      split at h1
      · next C' fs es =>
        obtain ⟨rfl, hl, h1⟩ := h1
        obtain ⟨dxx, fv, e1, rf⟩ := g1.hst.at_ a _ es
        have gc : Good X.K F H1 S1 (upd H1 a (.ins C' dxx (putF f v fv))) (put S1 a (.ins C' (putG f d fs))) := ⟨hst_chg g1.hst es (ook_ins (rf.put r')), by rw [mask_chg es]; exact Same.refl _⟩
        exact ⟨a, dxx, fv, rfl, e1, by rw [rf.length]; exact hl, hq _ _ _ _ (g1.trans gc) ((er.mono g1.same).mono gc.same) rfl (fun _ _ => rfl) h1⟩
      · cases h1
    · cases h1
@[simp ↓] theorem z_hAtt {d : D} {σ : Sd} {S : Sto} {Q : Sd → Sto → Prop} : hAtt C f d0 d σ S Q = (d0 σ S (fun x S1 => match x with
  | .ref a => match S1 a with
    | some (.ins C' fs) => C' = C ∧ fs.length < 1000 ∧ Q σ (put S1 a (.ins C' (putG f d fs)))
    | _ => False
  | _ => False) XF) := rfl
end
end VL

/-! VL: further methods of dicts, lists, texts. -/
namespace VL
open PySem PySem.Spec PyProof.Rows L2

section
variable {X : Cx} {W : WX} {o e e1 : Expr} {to te tx : TE} {d0 de dx : TEd} {pos apos : Pos}
/-! ### d.get(k, z), d.get(k) -/
def dGet2 (d0 de dx : TEd) : TEd := fun σ S Q E => d0 σ S (fun x S1 => (∃ kds, vw S1 x = .dct kds) ∧ de σ S1 (fun y S2 => dx σ S2 (fun z S3 => match vw S3 x with
  | .dct kds => match keyD y with
    | some k => Q ((getK kds k).getD z) S3
    | none => False
  | _ => False) E) E) E
def dGet1 (d0 de : TEd) : TEd := fun σ S Q E => d0 σ S (fun x S1 => (∃ kds, vw S1 x = .dct kds) ∧ de σ S1 (fun y S2 => match vw S2 x with
  | .dct kds => match keyD y with
    | some k => Q ((getK kds k).getD .non) S2
    | none => False
  | _ => False) E) E
theorem m2_of {m : Str} (h1 : attributeBase o m X.env (eval o X.env) = eval o X.env := by rfl) (h2 : ((backTo pos (starEach [e, e1] X.env)).all (fun x => !x.1) && (backToKw pos (keywordEach [] X.env)).all (fun x => x.1.isSome)
    && decide (([e, e1] : List Expr).length + ([] : List Keyword).length + (if ([] : List Keyword).isEmpty then 0 else 1) < 30)) = true := by rfl) (h3 : (apos.endLine == pos.line) = true := by rfl)
    (h4 : backTo pos (starEach [e, e1] X.env) = [(false, eval e X.env), (false, eval e1 X.env)] := by rfl) : M2 X o m apos e e1 pos := ⟨h1, h2, h3, h4⟩
theorem m1_of {m : Str} (h1 : attributeBase o m X.env (eval o X.env) = eval o X.env := by rfl) (h2 : ((backTo pos (starEach [e] X.env)).all (fun x => !x.1) && (backToKw pos (keywordEach [] X.env)).all (fun x => x.1.isSome)
    && decide (([e] : List Expr).length + ([] : List Keyword).length + (if ([] : List Keyword).isEmpty then 0 else 1) < 30)) = true := by rfl) (h3 : (apos.endLine == pos.line) = true := by rfl)
    (h4 : backTo pos (starEach [e] X.env) = [(false, eval e X.env)] := by rfl) : M1 X o m apos e pos := ⟨h1, h2, h3, h4⟩
theorem see_isd {K : PySem.W.Frag} {F H : Hp} {S : Sto} {v : V} {d : D} (hs : HSt K F H S) (r : Rep K (mask F S H) v d) {kds : List (Key × D)} (e : vw S d = .dct kds) : ∃ a, v = .ref a ∧ IsD H a := by
  obtain ⟨a, kvs, h1, h2, _⟩ := see_dct hs r e
  exact ⟨a, h1, .inl ⟨kvs, .inl h2⟩⟩
/-- what d[k] or z is -/
theorem get_or {K : PySem.W.Frag} {M : Hp} {kvs : List (Key × V)} {kds : List (Key × D)} (r : RepK K M kvs kds) {v : V} {d : D} (h : Rep K M v d) (k : Key) : Rep K M ((L2.valV kvs k).getD v) ((getK kds k).getD d) := by
  cases q : getK kds k with
  | some w =>
    obtain ⟨u, e, ru⟩ := (repK_valV r).1 w q
    rw [e]; exact ru
  | none => rw [(repK_valV r).2 q]; exact h
theorem ve_get2 (hu : X.A.units + 1 < cLine) (ho : VE X W o to d0) (he : VE X W e te de) (hx : VE X W e1 tx dx) (m : M2 X o "get" apos e e1 pos) : VE X W (.Call (.Attribute o "get" apos) [e, e1] [] pos) (tDGet2 to te tx) (dGet2 d0 de dx) :=
  ⟨pe_dget2 hu ho.run he.run hx.run m, fun {σV F H σ S Qd E Q} hs er h hq hxx => by
    refine ho.snd hs er h (fun x H1 d1 S1 g1 r1 h1 => ?_) hxx
    obtain ⟨⟨kd, ek⟩, h1⟩ := h1
    obtain ⟨a, rfl, isd⟩ := see_isd g1.hst r1 ek
    refine ⟨a, rfl, isd, he.snd g1.hst (er.mono g1.same) h1 (fun y H2 d2 S2 g2 r2 h2 => ?_) (hxx.next g1)⟩
    have g12 := g1.trans g2
    refine hx.snd g2.hst (er.mono g12.same) h2 (fun z H3 d3 S3 g3 r3 h3 => ?_) (hxx.next g12)
    have g13 := g12.trans g3
    split at h3
    · next kds e3 =>
      obtain ⟨a', kvs, ea, hk, rk⟩ := see_dct g3.hst ((r1.mono g2.same).mono g3.same) e3
      cases ea
      split at h3
      · next k ek2 =>
        have ey := key_of r2 ek2
        subst ey
        exact ⟨_, DGet.k hk, hq _ H3 _ S3 g13 (get_or rk r3 k) h3⟩
      · cases h3
    · cases h3⟩
theorem ve_get1 (hu : X.A.units + 1 < cLine) (ho : VE X W o to d0) (he : VE X W e te de) (m : M1 X o "get" apos e pos) : VE X W (.Call (.Attribute o "get" apos) [e] [] pos) (tDGet1 to te) (dGet1 d0 de) :=
  ⟨pe_dget1 hu ho.run he.run m, fun {σV F H σ S Qd E Q} hs er h hq hxx => by
    refine ho.snd hs er h (fun x H1 d1 S1 g1 r1 h1 => ?_) hxx
    obtain ⟨⟨kd, ek⟩, h1⟩ := h1
    obtain ⟨a, rfl, isd⟩ := see_isd g1.hst r1 ek
    refine ⟨a, rfl, isd, he.snd g1.hst (er.mono g1.same) h1 (fun y H2 d2 S2 g2 r2 h2 => ?_) (hxx.next g1)⟩
    have g12 := g1.trans g2
    split at h2
    · next kds e3 =>
      obtain ⟨a', kvs, ea, hk, rk⟩ := see_dct g2.hst (r1.mono g2.same) e3
      cases ea
      split at h2
      · next k ek2 =>
        have ey := key_of r2 ek2
        subst ey
        exact ⟨_, DGet.k hk, hq _ H2 _ S2 g12 (get_or rk .non k) h2⟩
      · cases h2
    · cases h2⟩

/-! ### l.pop() -/
def dPop (d0 : TEd) : TEd := fun σ S Q E => d0 σ S (fun x S1 => match x with
  | .ref p => match S1 p with
    | some (.lst ds) => match ds.getLast? with
      | some d => Q d (put S1 p (.lst ds.dropLast))
      | none => False
    | _ => False
  | _ => False) E
theorem ve_pop (ho : VE X W o to d0) (hbase : attributeBase o "pop" X.env (eval o X.env) = eval o X.env := by rfl) (hline : (apos.endLine == pos.line) = true := by rfl) :
    VE X W (.Call (.Attribute o "pop" apos) [] [] pos) (tBM0 X.K "list" rPop to) (dPop d0) := ⟨pe_bm0 PySem.F.plainAttrs_list PySem.F.slot_list_pop PySem.F.type_list_pop mt_pop ho.run hbase hline, fun {σV F H σ S Qd E Q} hs er h hq hx => by
  refine ho.snd hs er h (fun x H1 d1 S1 g1 r1 h1 => ?_) hx
  split at h1
  · next p =>
    cases r1
    split at h1
    · next ds es =>
      obtain ⟨xs, e1, q1⟩ := g1.hst.at_ p _ es
      split at h1
      · next d ed =>
        rw [List.getLast?_eq_getElem?] at ed
        obtain ⟨v, ev, rv⟩ := q1.get ed
        rw [← q1.length] at ev
        have gc : Good X.K F H1 S1 (upd H1 p (.lst xs.dropLast)) (put S1 p (.lst ds.dropLast)) := ⟨hst_chg g1.hst es (ook_lst q1.dropLast), by rw [mask_chg es]; exact Same.refl _⟩
        exact ⟨.inl ⟨rfl, xs, SqL.of e1⟩, p, xs, v, rfl, rfl, e1, ev, hq _ _ _ _ (g1.trans gc) (rv.mono gc.same) h1⟩
      · cases h1
    · cases h1
  · cases h1⟩

/-! ### texts: a.split(b), a.join(l) -/
def dSplit (d0 de : TEd) : TEd := fun σ S Q E => d0 σ S (fun x S1 => match x with
  | .str a => de σ S1 (fun y S2 => match y with
    | .str b => (b.length == 0) = false ∧ a.length + 2 ≤ sizeLine ∧ Q (.lst ((Txt.split a b).map D.str)) S2
    | _ => False) E
  | _ => False) E
def dSplitM (d0 de : TEd) : TEd := fun σ S Q E => d0 σ S (fun x S1 => match x with
  | .str a => de σ S1 (fun y S2 => match y with
    | .str b => (b.length == 0) = false ∧ a.length + 2 ≤ sizeLine ∧ ∀ p, S2 p = none → Q (.ref p) (put S2 p (.lst ((Txt.split a b).map D.str)))
    | _ => False) E
  | _ => False) E
theorem rep_strs {K : PySem.W.Frag} {M : Hp} : ∀ l : List Str, Reps K M (l.map V.str) (l.map D.str)
  | [] => .nil
  | x :: l => .cons (.str x) (rep_strs l)
theorem ve_split (ho : VE X W o to d0) (he : VE X W e te de) (hs : starEach [e] X.env = [(false, eval e X.env)] := by rfl) (hbase : attributeBase o "split" X.env (eval o X.env) = eval o X.env := by rfl) (hline : (apos.endLine == pos.line) = true := by rfl) :
    VE X W (.Call (.Attribute o "split" apos) [e] [] pos) (tM1 (fun x xs H Q => ∃ a b, x = .str a ∧ xs = [.str b] ∧ (b.length == 0) = false ∧ a.length + 2 ≤ sizeLine ∧ rNewStrs (Txt.split a b) H Q) to te) (dSplit d0 de) := ⟨pe_split ho.run he.run hs hbase hline, fun {σV F H σ S Qd E Q} hs er h hq hx => by
  refine ho.snd hs er h (fun x H1 d1 S1 g1 r1 h1 => ?_) hx
  split at h1
  · next a =>
    cases r1
    refine ⟨⟨a, rfl⟩, he.snd g1.hst (er.mono g1.same) h1 (fun y H2 d2 S2 g2 r2 h2 => ?_) (hx.next g1)⟩
    split at h2
    · next b =>
      cases r2
      have g12 := g1.trans g2
      exact ⟨a, b, rfl, rfl, h2.1, h2.2.1, fun p hp => hq _ _ _ S2 (g12.trans (good_new g2.hst hp)) (new_lst g2.hst hp (rep_strs _)) h2.2.2⟩
    · cases h2
  · cases h1⟩
theorem ve_splitM (ho : VE X W o to d0) (he : VE X W e te de) (hs : starEach [e] X.env = [(false, eval e X.env)] := by rfl) (hbase : attributeBase o "split" X.env (eval o X.env) = eval o X.env := by rfl) (hline : (apos.endLine == pos.line) = true := by rfl) :
    VE X W (.Call (.Attribute o "split" apos) [e] [] pos) (tM1 (fun x xs H Q => ∃ a b, x = .str a ∧ xs = [.str b] ∧ (b.length == 0) = false ∧ a.length + 2 ≤ sizeLine ∧ rNewStrs (Txt.split a b) H Q) to te) (dSplitM d0 de) := ⟨pe_split ho.run he.run hs hbase hline, fun {σV F H σ S Qd E Q} hs er h hq hx => by
  refine ho.snd hs er h (fun x H1 d1 S1 g1 r1 h1 => ?_) hx
  split at h1
  · next a =>
    cases r1
    refine ⟨⟨a, rfl⟩, he.snd g1.hst (er.mono g1.same) h1 (fun y H2 d2 S2 g2 r2 h2 => ?_) (hx.next g1)⟩
    split at h2
    · next b =>
      cases r2
      have g12 := g1.trans g2
      exact ⟨a, b, rfl, rfl, h2.1, h2.2.1, fun p hp => hq _ _ _ _ (g12.trans (good_newM g2.hst hp (ook_lst (rep_strs _)))) (.ref p) (h2.2.2 p (g2.hst.free hp))⟩
    · cases h2
  · cases h1⟩
def dJoin (d0 de : TEd) : TEd := fun σ S Q E => d0 σ S (fun x S1 => match x with
  | .str a => de σ S1 (fun y S2 => match vw S2 y with
    | .lst ds => match strsD ds with
      | some ys => (ys.map (·.length)).sum + ys.length * a.length ≤ 16777216 ∧ Q (.str (Txt.join a ys)) S2
      | none => False
    | _ => False) E
  | _ => False) E
theorem strs_reps {K : PySem.W.Frag} {M : Hp} {xs : List V} {l : List Str} (r : Reps K M xs (l.map D.str)) : xs = l.map V.str := by
  induction l generalizing xs with
  | nil => cases r; rfl
  | cons a l ih =>
    cases r with
    | cons h r => cases h; rw [ih r]; rfl
theorem ve_join (ho : VE X W o to d0) (he : VE X W e te de) (hs : starEach [e] X.env = [(false, eval e X.env)] := by rfl) (hbase : attributeBase o "join" X.env (eval o X.env) = eval o X.env := by rfl) (hline : (apos.endLine == pos.line) = true := by rfl) :
    VE X W (.Call (.Attribute o "join" apos) [e] [] pos) (tM1 (fun x xs H Q => ∃ a p, ∃ ys : List Str, x = .str a ∧ xs = [.ref p] ∧ (SqL X.K H p (ys.map V.str) ∨ SqT X.K H p (ys.map V.str)) ∧ (ys.map (·.length)).sum + ys.length * a.length ≤ 16777216 ∧ Q (.str (Txt.join a ys)) H) to te) (dJoin d0 de) :=
  ⟨pe_join ho.run he.run hs hbase hline, fun {σV F H σ S Qd E Q} hs er h hq hx => by
    refine ho.snd hs er h (fun x H1 d1 S1 g1 r1 h1 => ?_) hx
    split at h1
    · next a =>
      cases r1
      refine ⟨⟨a, rfl⟩, he.snd g1.hst (er.mono g1.same) h1 (fun y H2 d2 S2 g2 r2 h2 => ?_) (hx.next g1)⟩
      split at h2
      · next ds ev =>
        obtain ⟨p, xs, rfl, sq, q⟩ := see_lst g2.hst r2 ev
        split at h2
        · next ys ey =>
          have e1 := strs_of ey
          subst e1
          have e2 := strs_reps q
          subst e2
          exact ⟨a, p, ys, rfl, rfl, .inl sq, h2.1, hq _ H2 _ S2 (g1.trans g2) (.str _) h2.2⟩
        · cases h2
      · cases h2
    · cases h1⟩
end
end VL

/-! VL: sorted(x) of ints: a list's, or a dict's keys; any number of them. -/
namespace VL
open PySem PySem.Spec PyProof.Rows L2

def sortI (ns : List Int) : List Int := ns.mergeSort (fun a b => decide (a ≤ b))
theorem sortI_perm (ns : List Int) : (sortI ns).Perm ns := List.mergeSort_perm _ _
theorem sortI_pw (ns : List Int) : (sortI ns).Pairwise (· ≤ ·) := by
  have h := List.pairwise_mergeSort (le := fun a b : Int => decide (a ≤ b)) (fun a b c h1 h2 => by simp at *; omega) (fun a b => by simp; omega) ns
  exact h.imp fun h => by simpa using h
theorem sortI_of : ∀ {ys ns : List Int}, ys.Perm ns → ys.Pairwise (· ≤ ·) → ns.Pairwise (· ≤ ·) → ys = ns
  | [], ns, p, _, _ => (List.nil_perm.mp p).symm
  | y :: ys, [], p, _, _ => absurd p.length_eq (by simp)
  | y :: ys, n :: ns, p, h1, h2 => by
    have hy : y ∈ n :: ns := p.mem_iff.mp List.mem_cons_self
    have hn : n ∈ y :: ys := p.mem_iff.mpr List.mem_cons_self
    have e : y = n := by
      rcases List.mem_cons.mp hy with e | m1
      · exact e
      · rcases List.mem_cons.mp hn with e | m2
        · exact e.symm
        · have a := (List.pairwise_cons.mp h1).1 n m2
          have b := (List.pairwise_cons.mp h2).1 y m1
          omega
    subst e
    rw [sortI_of (List.perm_cons y |>.mp p) (List.pairwise_cons.mp h1).2 (List.pairwise_cons.mp h2).2]
theorem sortI_eq {ys ns : List Int} (p : ys.Perm ns) (h : ys.Pairwise (· ≤ ·)) : ys = sortI ns := sortI_of (p.trans (sortI_perm ns).symm) h (sortI_pw ns)

/-- the int keys of a dict -/
def kintsD {α : Type} : List (Key × α) → Option (List Int)
  | [] => some []
  | (.inl i, _) :: r => (kintsD r).map (i :: ·)
  | _ :: _ => none
theorem kints_of {α : Type} : ∀ {kds : List (Key × α)} {l : List Int}, kintsD kds = some l → kds.map (·.1) = l.map Sum.inl
  | [], l, h => by cases h; rfl
  | (.inl i, _) :: r, l, h => by
    obtain ⟨l', h1, h2⟩ := Option.map_eq_some_iff.mp (show (kintsD r).map (i :: ·) = some l from h)
    subst h2
    show Sum.inl i :: r.map (·.1) = Sum.inl i :: l'.map Sum.inl
    rw [kints_of h1]
  | (.inr _, _) :: _, _, h => by cases h

def rSortedDK (K : PySem.W.Frag) : List V → Hp → VK → Prop := fun xs H Q => ∃ (a : Addr) (kvs : List (Key × V)) (ks : List Int), xs = [.ref a] ∧ Rd H a (.dK kvs) ∧ kvs.map (·.1) = ks.map Sum.inl ∧ ks.length ≤ sizeLine ∧
    ∀ (ys : List Int) (p : Addr), ys.Perm ks → ys.Pairwise (· ≤ ·) → H p = none → Q (.ref p) (upd H p (.lst (ys.map V.int)))
section
variable {X : Cx}
theorem call_sortedDK (hcalm : X.calm = true) : CallR X (.builtin "sorted") (rSortedDK X.K) := by
  intro pins s σ H xs us Q I r q
  obtain ⟨a, kvs, ks, ex, hd, hks, hz, q⟩ := q
  subst ex
  obtain ⟨u, eu, rx⟩ := vals1 r
  subst eu
  cases rx
  obtain ⟨z, lo, vs, rel, dd⟩ := dk_rd I.hok hd
  obtain ⟨ep, hat⟩ := dd.dictAt
  have hkeys : vs.map (·.1) = ks.map Sum.inl := rel.keys.symm.trans hks
  have hl : vs.length = ks.length := by
    have e := congrArg List.length hkeys
    rw [List.length_map, List.length_map] at e
    exact e
  have h16 : vs.length ≤ sizeLine := by rw [hl]; exact hz
  refine Calls.call_function_entry PyProof.Rows.kind_sorted PyProof.Rows.plain_sorted PyProof.Rows.entry_sorted (PyProof.Rows.args_sorted1 _) ?_
  unfold Builtin.«sorted»
  refine wpAny_bind (m := checkCount "sorted" 1 1 _) (wpAny_pure ?_)
  refine wpAny_bind (PySem.W.kdu_collect (A := X.A.in1) (PySem.W.kdl_dict (knd := mixKind X.prog X.w) (kvs := vs) (ep := ep) lo) (I.ok.hd hcalm) hat h16 fun h' tk acc hk hacc => ?_)
  have hal : acc.toList.length = ks.length := by rw [Array.length_toList, hacc.1, hl]
  have hS : IntsAre acc.toList ks := ints_each hal fun j v e => by
    obtain ⟨k, x, e1, e2⟩ := hacc.2 j v (by rw [← Array.getElem?_toList]; exact e)
    have e3 : (vs.map (·.1))[j]? = some k := by rw [List.getElem?_map, e1]; rfl
    rw [hkeys, List.getElem?_map] at e3
    cases e4 : ks[j]? with
    | none => rw [e4] at e3; cases e3
    | some y =>
      rw [e4] at e3
      have e5 : Sum.inl y = k := Option.some.inj e3
      subst e5
      rcases keyIs_shape (show keyIs (Sum.inl y) v = true from e2) with ⟨i, t, ek, ev⟩ | ⟨z, t, ek, ev⟩
      · cases ek
        exact ⟨y, t, rfl, ev⟩
      · cases ek
  have I1 : Inv X pins σ H { s with heap := h', toks := tk } := I.kept hk
  refine wpAny_bind (wpAny_newList ?_ (by rw [hal]; exact hz))
  have hoL : (h'.push (seqObj "list" acc.toList.toArray 0)).get? h'.objs.size = some (seqObj "list" acc.toList.toArray 0) := Heap.get?_push_size _ rfl
  show wpAny _ _ _ _ _ { s with heap := h'.push (seqObj "list" acc.toList.toArray 0), toks := tk }
  refine wpAny_bind (wpAny_holding (wpAny_call_entry PyProof.Rows.slot_list_sort ⟨_, hoL, rfl⟩ PyProof.Rows.entry_list_sort
    (SrtO.list_sort_ord (s := { s with heap := h'.push (seqObj "list" acc.toList.toArray 0), toks := tk }) SrtO.swo_int hoL (by rw [hal]; exact hz) (fun h2 => SrtO.ints_sortable hS h2) fun out g1 g2 => ⟨_, rfl, ?_⟩) (PyProof.Rows.args_list_sort _)))
  obtain ⟨k1, k2, k3⟩ := SrtO.ints_out hS g1 g2
  obtain ⟨e', he'⟩ := PyProof.Rows.sortedHeap_at (vs := acc.toList) (out := out.toArray) hoL
  have hlen : ((out.map SrtO.iv).map V.int).length ≤ sizeLine := by
    rw [List.length_map, k2.length_eq]
    exact hz
  refine wpAny_pure ⟨_, rfl, .ref h'.objs.size, upd H h'.objs.size (.lst ((out.map SrtO.iv).map V.int)), I1.laid (t' := tk) (fun b u e => ?_) (Nat.le_refl _)
    (show ObjOk X.prog X.w _ _ _ (.lst ((out.map SrtO.iv).map V.int)) from ⟨hlen, out, e', vals_of_ints k1, he'⟩), rfl, q _ _ k2 k3 (I1.hok.fresh (Nat.le_refl _))⟩
  have hb : b < h'.objs.size := Heap.lt_size e
  rw [PyProof.Rows.sortedHeap_old (Nat.ne_of_lt hb) (by rw [size_push']; exact Nat.lt_succ_of_lt hb)]
  exact Heap.get?_push_of_some _ e
theorem repK_keys {K : PySem.W.Frag} {M : Hp} : ∀ {kvs : List (Key × V)} {kds : List (Key × D)}, RepK K M kvs kds → kvs.map (·.1) = kds.map (·.1)
  | _, _, .nil => rfl
  | _, _, .cons (k := k) h r => congrArg (k :: ·) (repK_keys r)
def dSorted : RCd := fun ds S Q => match ds with
  | [x] => match vw S x with
    | .lst l => match intsD l with
      | some ns => Q (.lst ((sortI ns).map D.int)) S
      | none => False
    | .dct l => match kintsD l with
      | some ns => ns.length ≤ sizeLine ∧ Q (.lst ((sortI ns).map D.int)) S
      | none => False
    | _ => False
  | _ => False
theorem snd_sorted : SndC X.K (c2 (rSortedI X.K) (rSortedDK X.K)) dSorted := fun {xs ds F H S Qd Q} hs r h hq => by
  unfold dSorted at h; split at h
  · cases r with
    | cons r1 r2 =>
      cases r2
      split at h
      · next l e =>
        obtain ⟨a1, ys, rfl, h1, q1⟩ := see_lst hs r1 e
        split at h
        · next ns en =>
          have e1 := ints_of en
          subst e1
          have e2 := reps_ints q1
          subst e2
          refine .inl ⟨a1, ns, rfl, h1, fun ns' p hp hw hn => ?_⟩
          rw [sortI_eq hp hw]
          exact hq _ _ _ S (good_new hs hn) (new_lst hs hn (reps_of_ints _)) h
        · cases h
      · next l e =>
        obtain ⟨a1, ys, rfl, h1, q1⟩ := see_dct hs r1 e
        split at h
        · next ns en =>
          refine .inr ⟨a1, ys, ns, rfl, .inl h1, (repK_keys q1).trans (kints_of en), h.1, fun ns' p hp hw hn => ?_⟩
          rw [sortI_eq hp hw]
          exact hq _ _ _ S (good_new hs hn) (new_lst hs hn (reps_of_ints _)) h.2
        · cases h
      · cases h
  · cases h
theorem call_sortedA (hcalm : X.calm = true) : CallR X (.builtin "sorted") (c2 (rSortedI X.K) (rSortedDK X.K)) := CallR.or cr_sortedI (call_sortedDK hcalm)
theorem ve_sorted {W : WX} {p pos : Pos} {e : Expr} {t : TA} {d : TAd} (hcalm : X.calm = true) (hm : X.mg "sorted" = none) (ha : VA X W [e] t d)
    (hg : Gl X "sorted" := by rfl) (he : starEach [e] X.env = (false, eval e X.env) :: starEach [] X.env := by rfl) (hpl : (backTo pos (starEach [] X.env)).any (·.1) = false := by rfl) :
    VE X W (.Call (.Name "sorted" p) [e] [] pos) (tCB (c2 (rSortedI X.K) (rSortedDK X.K)) t) (dCB dSorted d) :=
  ve_cb snd_sorted (call_sortedA hcalm) hm ha hg (by decide +kernel) (by decide) (by decide) he hpl
end
end VL

/-! VL: d.setdefault(k, x), max(l), min(l), sorted(d.items()) of a dict with int keys, list(d.values()) that may change. -/
namespace VL
open PySem PySem.Spec PyProof.Rows L2

section
variable {X : Cx} {W : WX} {o e f : Expr} {to te tx : TE} {d0 de dx : TEd} {p pos apos mpos : Pos}
theorem ve_listValsM (hc : X.calm = true) (hm : X.mg "list" = none) (he : VE X W o to d0) (hg : Gl X "list" := by rfl) (hbase : attributeBase o "values" X.env (eval o X.env) = eval o X.env := by rfl) (hline : (apos.endLine == mpos.line) = true := by rfl)
    (hse : starEach [Expr.Call (.Attribute o "values" apos) [] [] mpos] X.env = [(false, eval (Expr.Call (.Attribute o "values" apos) [] [] mpos) X.env)] := by rfl) :
    VE X W (.Call (.Name "list" p) [.Call (.Attribute o "values" apos) [] [] mpos] [] pos) (tListVals to) (dListValsM d0) := ⟨pe_listVals hc hg hm he.run hbase hline hse, fun {σV F H σ S Qd E Q} hs er h hq hx =>
  he.snd hs er h (fun x H1 dx S1 g r h1 => by
    split at h1
    · next kds e =>
      obtain ⟨a, kvs, rfl, ha, rk⟩ := see_dct g.hst r e
      exact ⟨a, kvs, rfl, ha, fun p hp => hq _ _ _ _ (g.trans (good_newM g.hst hp (ook_lst (repK_vals rk)))) (.ref p) (h1 p (g.hst.free hp))⟩
    · cases h1) hx⟩

/-! ### max(l), min(l) of one list of whole numbers -/
def dMaxL : RCd := fun ds S Q => match ds with
  | [x] => match vw S x with
    | .lst l => match intsD l with
      | some ns => 0 < ns.length ∧ ∀ m, m ∈ ns → (∀ y, y ∈ ns → y ≤ m) → Q (.int m) S
      | none => False
    | _ => False
  | _ => False
def dMinL : RCd := fun ds S Q => match ds with
  | [x] => match vw S x with
    | .lst l => match intsD l with
      | some ns => 0 < ns.length ∧ ∀ m, m ∈ ns → (∀ y, y ∈ ns → m ≤ y) → Q (.int m) S
      | none => False
    | _ => False
  | _ => False
theorem snd_maxL : SndC X.K (rMax X.K) dMaxL := fun {xs ds F H S Qd Q} hs r h hq => by
  unfold dMaxL at h; split at h
  · cases r with
    | cons r1 r2 =>
      cases r2
      split at h
      · next l e =>
        split at h
        · next bs eb =>
          obtain rfl := ints_of eb
          obtain ⟨a1, ys, rfl, h1, q1⟩ := see_lst hs r1 e
          obtain rfl := reps_ints q1
          exact ⟨a1, bs, rfl, h1, h.1, fun m m1 m2 => hq _ H _ S (.refl hs) (.int _) (h.2 m m1 m2)⟩
        · cases h
      · cases h
  · cases h
theorem snd_minL : SndC X.K (rMin X.K) dMinL := fun {xs ds F H S Qd Q} hs r h hq => by
  unfold dMinL at h; split at h
  · cases r with
    | cons r1 r2 =>
      cases r2
      split at h
      · next l e =>
        split at h
        · next bs eb =>
          obtain rfl := ints_of eb
          obtain ⟨a1, ys, rfl, h1, q1⟩ := see_lst hs r1 e
          obtain rfl := reps_ints q1
          exact ⟨a1, bs, rfl, h1, h.1, fun m m1 m2 => hq _ H _ S (.refl hs) (.int _) (h.2 m m1 m2)⟩
        · cases h
      · cases h
  · cases h

/-! ### d.setdefault(k, x), d a dict that may change -/
def dSetd (d0 de dx : TEd) : TEd := fun σ S Q E => d0 σ S (fun x S1 => (∃ kds, vw S1 x = .dct kds) ∧ de σ S1 (fun y S2 => dx σ S2 (fun z S3 => match x with
  | .ref p => match S3 p with
    | some (.dct kds) => match keyD y with
      | some k => kds.length < sizeLine ∧ (match getK kds k with
        | some d => Q d S3
        | none => Q z (put S3 p (.dct (putKD kds k z))))
      | none => False
    | _ => False
  | _ => False) E) E) E
theorem ve_setd (ho : VE X W o to d0) (he : VE X W e te de) (hx : VE X W f tx dx) (m : M2 X o "setdefault" apos e f pos) : VE X W (.Call (.Attribute o "setdefault" apos) [e, f] [] pos) (tDSetd to te tx) (dSetd d0 de dx) :=
  ⟨pe_dsetd ho.run he.run hx.run m, fun {σV F H σ S Qd E Q} hs er h hq hxx => by
    refine ho.snd hs er h (fun x H1 d1 S1 g1 r1 h1 => ?_) hxx
    obtain ⟨⟨kd, ek⟩, h1⟩ := h1
    obtain ⟨a, rfl, isd⟩ := see_isd g1.hst r1 ek
    refine ⟨a, rfl, isd, he.snd g1.hst (er.mono g1.same) h1 (fun y H2 d2 S2 g2 r2 h2 => ?_) (hxx.next g1)⟩
    have g12 := g1.trans g2
    refine hx.snd g2.hst (er.mono g12.same) h2 (fun z H3 d3 S3 g3 r3 h3 => ?_) (hxx.next g12)
    have g13 := g12.trans g3
    split at h3
    · next p =>
      cases r1
      split at h3
      · next kds es =>
        obtain ⟨xs, e1, q1⟩ := g3.hst.at_ _ _ es
        split at h3
        · next k ek2 =>
          have ey := key_of (r2.mono g3.same) ek2
          subst ey
          obtain ⟨hl, h3⟩ := h3
          refine ⟨xs, k, e1, rfl, by rw [repK_len q1]; exact hl, fun v hv => ?_, fun hn => ?_⟩
          · cases q : getK kds k with
            | some w =>
              rw [q] at h3
              obtain ⟨u, eu, ru⟩ := (repK_valV q1).1 w q
              rw [eu] at hv; cases hv
              exact hq _ H3 _ S3 g13 ru h3
            | none =>
              rw [(repK_valV q1).2 q] at hv; cases hv
          · cases q : getK kds k with
            | some w =>
              obtain ⟨u, eu, ru⟩ := (repK_valV q1).1 w q
              rw [eu] at hn; cases hn
            | none =>
              rw [q] at h3
              have gc : Good X.K F H3 S3 (upd H3 _ (.dK (putK xs k z))) (put S3 _ (.dct (putKD kds k d3))) := ⟨hst_chg g3.hst es (ook_dct (repK_put r3 q1)), by rw [mask_chg es]; exact Same.refl _⟩
              exact hq _ _ _ _ (g13.trans gc) (r3.mono gc.same) h3
        · cases h3
      · cases h3
    · cases h3⟩
end
@[simp ↓] theorem z_dListValsM {de : TEd} {σ : Sd} {S : Sto} {Q : QD} {E : XD} : dListValsM de σ S Q E = (de σ S (fun x S1 => match vw S1 x with
  | .dct kds => ∀ p, S1 p = none → Q (.ref p) (put S1 p (.lst (kds.map (·.2))))
  | _ => False) E) := rfl
@[simp ↓] theorem z_dMaxL {ds : List D} {S : Sto} {Q : QD} : dMaxL ds S Q = (match ds with
  | [x] => match vw S x with
    | .lst l => match intsD l with
      | some ns => 0 < ns.length ∧ ∀ m, m ∈ ns → (∀ y, y ∈ ns → y ≤ m) → Q (.int m) S
      | none => False
    | _ => False
  | _ => False) := rfl
@[simp ↓] theorem z_dMinL {ds : List D} {S : Sto} {Q : QD} : dMinL ds S Q = (match ds with
  | [x] => match vw S x with
    | .lst l => match intsD l with
      | some ns => 0 < ns.length ∧ ∀ m, m ∈ ns → (∀ y, y ∈ ns → m ≤ y) → Q (.int m) S
      | none => False
    | _ => False
  | _ => False) := rfl
@[simp ↓] theorem z_dSetd {d0 de dx : TEd} {σ : Sd} {S : Sto} {Q : QD} {E : XD} : dSetd d0 de dx σ S Q E = (d0 σ S (fun x S1 => (∃ kds, vw S1 x = .dct kds) ∧ de σ S1 (fun y S2 => dx σ S2 (fun z S3 => match x with
  | .ref p => match S3 p with
    | some (.dct kds) => match keyD y with
      | some k => kds.length < sizeLine ∧ (match getK kds k with
        | some d => Q d S3
        | none => Q z (put S3 p (.dct (putKD kds k z))))
      | none => False
    | _ => False
  | _ => False) E) E) E) := rfl
end VL

/-! VL: sorted(d.items()), d a dict with int keys. -/
namespace VL
open PySem PySem.Spec PyProof.Rows L2

section
variable {prog : Program} {w : World} {A : Around} {E : Value → Shared → Prop} {s : Shared}
def KeyTup (h : Heap) (kf : Value → Int) (v : Value) : Prop := ∃ a o t x n, v = Value.ref a ∧ h.get? a = some o ∧ o.cls = .type "tuple" ∧ o.data = .seq #[.int (kf v) t, x] n
theorem kt_cmp {vs : List Value} {kf : Value → Int} (hp : ∀ v ∈ vs, KeyTup s.heap kf v) (inj : ∀ v ∈ vs, ∀ u ∈ vs, kf v = kf u → v = u) : SrtO.Cmp prog w A s (tuples' true) (fun p => p.1 ∈ vs) (SrtO.lt2 fun v u => decide (kf v < kf u)) := by
  intro p q hm hm'
  have h1 := hp _ hm
  have h2 := hp _ hm'
  have hi := inj _ hm _ hm'
  show wpAny (model prog w) A (keyLt' (tuples' true) p.1 q.1) (fun r s' => s' = s ∧ r = decide (kf p.1 < kf q.1)) (fun _ _ => False) s
  generalize p.1 = v at h1 hi ⊢
  generalize q.1 = u at h2 hi ⊢
  obtain ⟨a, o, t, x, n, e, ho, hc, hd⟩ := h1
  obtain ⟨a', o', t', x', n', e', ho', hc', hd'⟩ := h2
  generalize hk : kf v = k at hi hd ⊢
  generalize hk' : kf u = k' at hi hd' ⊢
  rw [e, e']
  refine PySem.W.kat_lt ho hd ho' hd' ?_
  show PySem.W.KatLex prog w A true (decide (2 < 2)) _ [(.int k t, .int k' t'), (x, x')] 0 s
  refine PySem.W.kat_cons (SeqAt.EqAt.int_int k t k' t' prog w _ _ ?_)
  refine PySem.W.kat_go (fun e1 => ?_) (fun e1 => ?_)
  · have ex : k = k' := by simpa using e1
    have ev := hi ex
    rw [e, e'] at ev
    cases ev
    rw [ho] at ho'; cases ho'
    rw [hd] at hd'
    have exx : x = x' := by
      injection hd' with z1 z2
      have := congrArg (fun a => a.toList[1]?) z1
      simpa using this
    subst exx
    refine PySem.W.kat_yes (PySem.W.kat_cons (SeqAt.EqAt.same x prog w _ _ ?_))
    refine PySem.W.kat_yes (PySem.W.kat_nil ⟨rfl, ?_⟩)
    rw [ex]; simp
  · have ex : ¬ k = k' := by simpa using e1
    exact PySem.W.kat_no (oneLt_int ⟨rfl, rfl⟩)
theorem kt_firsts {h : Heap} {kf : Value → Int} : ∀ {vs : List Value}, (∀ v ∈ vs, KeyTup h kf v) → ∃ fs, PySem.W.KatTups h vs fs ∧ fs.length = vs.length ∧ ∀ f ∈ fs, ∃ x t, f = Value.int x t
  | [], _ => ⟨[], .nil, rfl, fun _ h => nomatch h⟩
  | v :: vs, hp => by
    obtain ⟨a, o, t, x, n, e, ho, hc, hd⟩ := hp v (List.mem_cons_self ..)
    obtain ⟨fs, h1, h2, h3⟩ := kt_firsts (vs := vs) fun u hu => hp u (List.mem_cons_of_mem _ hu)
    refine ⟨.int (kf v) t :: fs, ?_, by rw [List.length_cons, List.length_cons, h2], fun f hf => ?_⟩
    · rw [e]; exact PySem.W.KatTups.cons ho hc (by rw [hd, e]) rfl h1
    · rcases List.mem_cons.mp hf with z | z
      · exact ⟨_, _, z⟩
      · exact h3 f z
theorem kt_sortable {a : Addr} {vs : List Value} {kf : Value → Int} (h0 : 0 < vs.length) (hp : ∀ v ∈ vs, KeyTup s.heap kf v) (inj : ∀ v ∈ vs, ∀ u ∈ vs, kf v = kf u → v = u) (ha : ∀ o, s.heap.get? a = some o → o.cls ≠ .type "tuple") :
    SrtO.SortableO prog w A s a vs fun v u => decide (kf v < kf u) := by
  intro h' keep
  have hp' : ∀ v ∈ vs, KeyTup h' kf v := fun v hm => by
    obtain ⟨b, o, t, x, n, e, ho, hc, hd⟩ := hp v hm
    exact ⟨b, o, t, x, n, e, keep b o (fun z => by subst z; exact ha o ho hc) ho, hc, hd⟩
  obtain ⟨fs, h1, h2, h3⟩ := kt_firsts hp'
  refine ⟨tuples' true, fun Q E hq => ?_, kt_cmp hp' inj⟩
  refine PySem.W.kat_kind (T := .type "int") h1 (by omega) (fun f hm => ?_) (by rfl) ?_
  · obtain ⟨x, t, rfl⟩ := h3 f hm
    exact PySem.W.Looks.now
  · have e : (Value.type "int" != Value.type "tuple") = true := by first | decide +kernel | rfl | decide
    rw [e]
    exact hq
theorem swo_kf (kf : Value → Int) : SrtO.Swo fun v u => decide (kf v < kf u) := by
  refine ⟨fun x y h => ?_, fun x y z h1 h2 => ?_⟩
  · have a := of_decide_eq_true (p := kf x < kf y) h
    exact decide_eq_false (p := kf y < kf x) (by omega)
  · have a := of_decide_eq_false (p := kf y < kf x) h1
    have b := of_decide_eq_false (p := kf z < kf y) h2
    exact decide_eq_false (p := kf z < kf x) (by omega)
end
def tSortIt (td : TE) : TE := fun σ H Q => td σ H fun x H1 => ∃ (a : Addr) (kvs : List (Key × V)) (ks : List Int), x = V.ref a ∧ H1 a = some (.dK kvs) ∧ kvs.map (·.1) = ks.map Sum.inl ∧ ks.Nodup ∧
  ∀ (H2 : Hp) (p : Addr) (adr : Int → Addr), (∀ b o, H1 b = some o → H2 b = some o) → H1 p = none → H2 p = some (.lst ((sortI ks).map fun k => V.ref (adr k))) →
    (∀ k v, (Sum.inl k, v) ∈ kvs → H1 (adr k) = none ∧ H2 (adr k) = some (.tup [.int k, v])) → Q (.ref p) H2
theorem idx_get {α : Type} [DecidableEq α] {l : List α} (nd : l.Nodup) {j : Nat} {a : α} (h : l[j]? = some a) : l.idxOf a = j := by
  obtain ⟨hj, e⟩ := List.getElem?_eq_some_iff.mp h
  subst e
  exact nd.idxOf_getElem j hj
section
variable {X : Cx} {W : WX} {o : Expr} {p pos apos mpos : Pos} {td : TE} {d0 : TEd}
theorem pe_sortIt (hc : X.calm = true) (hg : Gl X "sorted") (hm : X.mg "sorted" = none) (hd : PE X o td) (hbase : attributeBase o "items" X.env (eval o X.env) = eval o X.env := by rfl) (hline : (apos.endLine == mpos.line) = true := by rfl)
    (hse : starEach [Expr.Call (.Attribute o "items" apos) [] [] mpos] X.env = [(false, eval (Expr.Call (.Attribute o "items" apos) [] [] mpos) X.env)] := by rfl) :
    PE X (.Call (.Name "sorted" p) [.Call (.Attribute o "items" apos) [] [] mpos] [] pos) (tSortIt td) := by
  refine ⟨fun pins s σ H Q I h => ?_⟩
  refine wpAny_Call_Name_kw (ld_blt I hg hm (u := .builtin "sorted") (by first | rfl | decide +kernel) ?_ (by first | decide +kernel | decide) (by first | decide +kernel | decide))
  rw [hse]
  refine PySem.callWith_builtin1 (wpAny_Call_method0_late hbase hline (thn (hd.run pins s σ H _ I h) fun v s1 ⟨x, H1, I1, r1, a, kvs, ks, ex, ha, hks, nd, q⟩ => ?_))
  subst ex
  obtain rfl : v = Value.ref a := r1
  obtain ⟨hz, hsys, vs, rel, dof⟩ := dk_of I1.hok ha
  obtain ⟨es, ep, ⟨ob, ho, hx, hdat⟩, hsz, hent⟩ := Heap.DictOf.raw dof
  refine ⟨"dict", "dict.items", F.plainAttrs_dict, F.slot_dict_items, F.type_dict_items, ⟨ob, ho, hx.1⟩, fun b e => ?_, Calls.callWith_builtin rfl (PySem.evalArgs_none ?_)⟩
  · cases e
    exact ⟨ob, ho, hx.2.1⟩
  refine DT.callItems (es := es) (ep := ep) hsys ⟨ob, ho, hx, hdat⟩ ?_
  have up : ∀ b u, s1.heap.get? b = some u → (s1.heap.push { cls := .type "dict_items", data := .fields #[.ref a] }).get? b = some u := fun b u e => Heap.get?_push_of_some _ e
  have hlk : vs.length = ks.length := by
    have e1 := congrArg List.length hks
    rw [List.length_map, List.length_map] at e1
    rw [← e1]; exact (KV.length rel).symm
  refine DT.sortedI (es := es) (ep := ep) (I.ok.hd hc) ⟨_, Heap.get?_push_size _ rfl, rfl, rfl⟩ ⟨ob, up _ _ ho, hx, hdat⟩ (by rw [hsz, (KV.length rel).symm]; exact hz) fun h' tk as hk hlt hl hG => ?_
  have lak : as.length = ks.length := by omega
  have nda : as.Nodup := List.Pairwise.imp (fun h => Nat.ne_of_lt h) hG.rise
  let kf : Value → Int := fun v => match v with | .ref b => ks.getD (as.idxOf b) 0 | _ => 0
  let adr : Int → Addr := fun k => as.getD (ks.idxOf k) 0
  have pr : ∀ (j : Nat) (b : Addr), as[j]? = some b → ∃ (k : Int) (t : Tok) (v : V) (u : Value), ks[j]? = some k ∧ kvs[j]? = some (Sum.inl k, v) ∧ RelV v u ∧ h'.get? b = some { cls := .type "tuple", data := .seq #[Value.int k t, u] } := by
    intro j b hj
    obtain ⟨en, he, hg'⟩ := hG.pairs j b hj
    obtain ⟨hj2, ee⟩ := Array.getElem?_eq_some_iff.mp he
    obtain ⟨⟨ky, vy⟩, hy⟩ : ∃ y, vs[j]? = some y := ⟨_, List.getElem?_eq_getElem (by rw [← hsz]; exact hj2)⟩
    obtain ⟨e1, e2⟩ := hent j hj2 ky vy hy
    obtain ⟨x, x1, x2⟩ := KV.at' rel hy
    have hk1 : (kvs.map (·.1))[j]? = some ky := by rw [List.getElem?_map, x1]; rfl
    rw [hks, List.getElem?_map] at hk1
    obtain ⟨k, k1, k2⟩ := Option.map_eq_some_iff.mp hk1
    rw [← k2] at e1 x1
    rcases keyIs_shape (show keyIs (Sum.inl k) es[j].key = true from e1) with ⟨i, t, ek, ev⟩ | ⟨z, t, ek, ev⟩
    · cases ek
      refine ⟨k, t, x, vy, k1, x1, x2, ?_⟩
      rw [hg', ← ee, ev, e2]
    · cases ek
  have kfa : ∀ (j : Nat) (b : Addr) (k : Int), as[j]? = some b → ks[j]? = some k → kf (.ref b) = k := by
    intro j b k h1 h2
    show ks.getD (as.idxOf b) 0 = k
    rw [idx_get nda h1, List.getD_eq_getElem?_getD, h2]; rfl
  have adk : ∀ (j : Nat) (b : Addr) (k : Int), as[j]? = some b → ks[j]? = some k → adr k = b := by
    intro j b k h1 h2
    show as.getD (ks.idxOf k) 0 = b
    rw [idx_get nd h2, List.getD_eq_getElem?_getD, h1]; rfl
  have hob : (h'.push { cls := .type "list", data := .seq (as.map Value.ref).toArray }).get? h'.objs.size = some (seqObj "list" (as.map Value.ref).toArray 0) := Heap.get?_push_size _ rfl
  have ne0 : ∀ b o, h'.get? b = some o → b ≠ h'.objs.size := fun b o e => Nat.ne_of_lt (Heap.lt_size e)
  generalize hh2 : h'.push { cls := .type "list", data := .seq (as.map Value.ref).toArray } = h2 at hob ⊢
  have ka : ∀ b o, h'.get? b = some o → h2.get? b = some o := fun b o e => by rw [← hh2]; exact Heap.get?_push_of_some _ e
  have at_ : ∀ v ∈ as.map Value.ref, ∃ (j : Nat) (b : Addr) (k : Int), v = .ref b ∧ as[j]? = some b ∧ ks[j]? = some k := by
    intro v hv'
    obtain ⟨b, hb, rfl⟩ := List.mem_map.mp hv'
    obtain ⟨j, hj⟩ := List.mem_iff_getElem?.mp hb
    obtain ⟨k, _, _, _, hk, _⟩ := pr j b hj
    exact ⟨j, b, k, rfl, hj, hk⟩
  have hkt : ∀ v ∈ as.map Value.ref, KeyTup h2 kf v := by
    intro v hv
    obtain ⟨j, b, k, rfl, hj, hk⟩ := at_ v hv
    obtain ⟨k', t, v', u, k1, k2, k3, k4⟩ := pr j b hj
    rw [hk] at k1; cases k1
    exact ⟨b, _, t, u, 0, rfl, ka _ _ k4, rfl, by rw [kfa j b k hj hk]⟩
  have inj : ∀ v ∈ as.map Value.ref, ∀ u ∈ as.map Value.ref, kf v = kf u → v = u := by
    intro v hv u hu e
    obtain ⟨j, b, k, rfl, hj, hk⟩ := at_ v hv
    obtain ⟨j2, b2, k2, rfl, hj2, hk2⟩ := at_ u hu
    rw [kfa j b k hj hk, kfa j2 b2 k2 hj2 hk2] at e
    rw [← adk j b k hj hk, ← adk j2 b2 k2 hj2 hk2, e]
  refine wpAny_call_entry PyProof.Rows.slot_list_sort ⟨_, hob, rfl⟩ PyProof.Rows.entry_list_sort
    (SrtO.list_sort_ord (s := { s1 with heap := h2, toks := tk }) (swo_kf kf) hob (by rw [List.length_map, lak, ← hlk, ← KV.length rel]; exact hz) (fun h2' => kt_sortable (by omega) hkt inj fun o e => ?_) fun out g1 g2 => ⟨.none, rfl, ?_⟩) (PyProof.Rows.args_list_sort _)
  · have e' : some o = some (seqObj "list" (as.map Value.ref).toArray 0) := e.symm.trans hob
    cases e'
    intro c
    exact absurd (Value.type.inj c) (by decide)
  show EP X pins σ Q (.ref h'.objs.size) { s1 with heap := sortedHeap h2 h'.objs.size (as.map Value.ref) out.toArray, toks := tk }
  have hkm : (as.map Value.ref).map kf = ks := by
    apply List.ext_getElem?
    intro j
    rw [List.getElem?_map, List.getElem?_map]
    cases e : as[j]? with
    | none =>
      have : ks[j]? = none := by
        rw [List.getElem?_eq_none_iff] at e ⊢; omega
      rw [this]; rfl
    | some b =>
      obtain ⟨k, _, _, _, k1, _⟩ := pr j b e
      rw [k1]
      show some (kf (.ref b)) = _
      rw [kfa j b k e k1]
  have ho1 : out.map kf = sortI ks := by
    refine sortI_eq ?_ ?_
    · have := g2.perm.map kf
      rwa [hkm] at this
    · exact List.pairwise_map.mpr (g1.imp fun {x y} h => Int.not_lt.mp (of_decide_eq_false (p := kf y < kf x) h))
  have ho2 : out = (sortI ks).map fun k => Value.ref (adr k) := by
    rw [← ho1, List.map_map]
    have e : out.map ((fun k => Value.ref (adr k)) ∘ kf) = out.map id := by
      apply List.map_congr_left
      intro v hv
      obtain ⟨j, b, k, rfl, hj, hk'⟩ := at_ v (g2.perm.mem_iff.mp hv)
      show Value.ref (adr (kf (.ref b))) = .ref b
      rw [kfa j b k hj hk', adk j b k hj hk']
    rw [e, List.map_id]
  have hlen : ((sortI ks).map fun k => V.ref (adr k)).length ≤ sizeLine := by
    rw [List.length_map, (sortI_perm ks).length_eq, ← hlk, ← KV.length rel]; exact hz
  have rv : Vals ((sortI ks).map fun k => V.ref (adr k)) out := by
    rw [ho2]
    exact vals_maps (fun k => V.ref (adr k)) (fun k => Value.ref (adr k)) (sortI ks) fun _ _ => rfl
  have sz1 : (s1.heap.push { cls := .type "dict_items", data := .fields #[.ref a] }).objs.size = s1.heap.objs.size + 1 := Heap.size_push _ _
  have hlt1 : s1.heap.objs.size ≤ h'.objs.size := by
    have : (s1.heap.push { cls := .type "dict_items", data := .fields #[.ref a] }).objs.size < h'.objs.size := hlt
    rw [sz1] at this; omega
  have kF : ∀ b o, b ≠ h'.objs.size → h2.get? b = some o → (sortedHeap h2 h'.objs.size (as.map Value.ref) out.toArray).get? b = some o := fun b o hb e => (PyProof.Rows.sortedHeap_old hb (Heap.lt_size e)).trans e
  have kS : ∀ b o, s1.heap.get? b = some o → (sortedHeap h2 h'.objs.size (as.map Value.ref) out.toArray).get? b = some o := fun b o e => kF b o (ne0 _ _ (hk b o (up b o e))) (ka _ _ (hk b o (up b o e)))
  obtain ⟨eF, heF⟩ := PyProof.Rows.sortedHeap_at (vs := as.map Value.ref) (out := out.toArray) hob
  have I1' : Inv X pins σ H1 { s1 with heap := sortedHeap h2 h'.objs.size (as.map Value.ref) out.toArray, toks := tk } := I1.kept (t' := tk) kS
  have hn0 : H1 h'.objs.size = none := I1.hok.fresh hlt1
  have I2 : Inv X pins σ (upd H1 h'.objs.size (.lst ((sortI ks).map fun k => V.ref (adr k)))) { s1 with heap := sortedHeap h2 h'.objs.size (as.map Value.ref) out.toArray, toks := tk } :=
    I1'.take (h' := sortedHeap h2 h'.objs.size (as.map Value.ref) out.toArray) (t' := tk) (fun b ob _ e => e) (I1.fpOk hlt1 hn0) ⟨hlen, out, eF, rv, heF⟩
  obtain ⟨H2, I3, g, qt⟩ := L2.DX.takeT (P := fun b vs => ∃ (j : Nat) (k : Int) (v : V), as[j]? = some b ∧ kvs[j]? = some (Sum.inl k, v) ∧ vs = [.int k, v]) I1 as _ I2 nda fun b hb => by
    obtain ⟨j, hj⟩ := List.mem_iff_getElem?.mp hb
    obtain ⟨k, t, v, u, k1, k2, k3, k4⟩ := pr j b hj
    have hbl : s1.heap.objs.size ≤ b := by
      have : (s1.heap.push { cls := .type "dict_items", data := .fields #[.ref a] }).objs.size < b := hG.above b hb
      rw [sz1] at this; omega
    refine ⟨hbl, ?_, [.int k, v], ⟨j, k, v, hj, k2, rfl⟩, fun H3 => ⟨(by rw [sizeLine_eq]; show 2 ≤ 16777216; omega), [Value.int k t, u], .cons ⟨t, rfl⟩ (.cons k3 .nil), ⟨_, kF _ _ (ne0 _ _ k4) (ka _ _ k4), rfl, 0, rfl⟩⟩⟩
    rw [upd_ne (ne0 _ _ k4)]
    exact I1.hok.fresh hbl
  have gr : ∀ b o, H1 b = some o → H2 b = some o := fun b o e => g b o (by rw [upd_ne (ne_of_none e hn0)]; exact e)
  refine ⟨.ref h'.objs.size, H2, I3, rfl, q H2 h'.objs.size adr gr hn0 (g _ _ upd_same) fun k v hkv => ?_⟩
  obtain ⟨j, hj⟩ := List.mem_iff_getElem?.mp hkv
  have hkj : ks[j]? = some k := by
    have e : (kvs.map (·.1))[j]? = some (Sum.inl k) := by rw [List.getElem?_map, hj]; rfl
    rw [hks, List.getElem?_map] at e
    obtain ⟨k', e1, e2⟩ := Option.map_eq_some_iff.mp e
    cases e2; exact e1
  obtain ⟨b, hbj⟩ : ∃ b, as[j]? = some b := ⟨_, List.getElem?_eq_getElem (by rw [lak]; exact (List.getElem?_eq_some_iff.mp hkj).1)⟩
  rw [adk j b k hbj hkj]
  have hbl : s1.heap.objs.size ≤ b := by
    have : (s1.heap.push { cls := .type "dict_items", data := .fields #[.ref a] }).objs.size < b := hG.above b (List.mem_of_getElem? hbj)
    rw [sz1] at this; omega
  refine ⟨I1.hok.fresh hbl, ?_⟩
  obtain ⟨vs', ⟨j2, k2, v2, a1, a2, rfl⟩, hH⟩ := qt b (List.mem_of_getElem? hbj)
  have eij : j2 = j := (List.getElem?_inj (List.getElem?_eq_some_iff.mp a1).1 nda).mp (a1.trans hbj.symm)
  subst eij
  rw [hj] at a2; cases a2
  exact hH
/-! over data -/
def dSortIt (de : TEd) : TEd := fun σ S Q E => de σ S (fun x S1 => match vw S1 x with
  | .dct kds => match kintsD kds with
    | some ks => ks.Nodup ∧ Q (.lst ((sortI ks).map fun k => .tup [.int k, (getK kds (.inl k)).getD .non])) S1
    | none => False
  | _ => False) E
theorem same_grow {K : PySem.W.Frag} {F H H2 : Hp} {S : Sto} (gr : ∀ b o, H b = some o → H2 b = some o) : Same (mask F S H) (mask F S H2) := fun b v q => by
  obtain ⟨q1, q0, q2⟩ := mask_free q
  rw [mask_none q1 q0]; exact gr b v q2
theorem good_grow {K : PySem.W.Frag} {F H H2 : Hp} {S : Sto} (hs : HSt K F H S) (gr : ∀ b o, H b = some o → H2 b = some o) : Good K F H S H2 S := ⟨⟨fun a o q => by
  have k := hs.at_ a o q
  obtain ⟨u, hu, _⟩ := k.some
  have e : H2 a = H a := by rw [hu]; exact gr a u hu
  rw [e]
  exact k.mono (same_grow (K := K) gr), fun a u q => ⟨gr a u (hs.side a u q).1, (hs.side a u q).2⟩⟩, same_grow (K := K) gr⟩
theorem reps_maps {K : PySem.W.Frag} {M : Hp} {α : Type} {f : α → V} {g : α → D} : ∀ {l : List α}, (∀ x ∈ l, Rep K M (f x) (g x)) → Reps K M (l.map f) (l.map g)
  | [], _ => .nil
  | x :: l, h => .cons (h x (List.mem_cons_self ..)) (reps_maps fun y hy => h y (List.mem_cons_of_mem _ hy))
theorem ve_sortIt (hc : X.calm = true) (hm : X.mg "sorted" = none) (he : VE X W o td d0) (hg : Gl X "sorted" := by rfl) (hbase : attributeBase o "items" X.env (eval o X.env) = eval o X.env := by rfl) (hline : (apos.endLine == mpos.line) = true := by rfl)
    (hse : starEach [Expr.Call (.Attribute o "items" apos) [] [] mpos] X.env = [(false, eval (Expr.Call (.Attribute o "items" apos) [] [] mpos) X.env)] := by rfl) :
    VE X W (.Call (.Name "sorted" p) [.Call (.Attribute o "items" apos) [] [] mpos] [] pos) (tSortIt td) (dSortIt d0) := ⟨pe_sortIt hc hg hm he.run hbase hline hse, fun {σV F H σ S Qd E Q} hs er h hq hx =>
  he.snd hs er h (fun x H1 dx S1 g r h1 => by
    split at h1
    · next kds e =>
      split at h1
      · next ks ek =>
        obtain ⟨a, kvs, rfl, ha, rk⟩ := see_dct g.hst r e
        have hkk := (repK_keys rk).trans (kints_of ek)
        refine ⟨a, kvs, ks, rfl, ha, hkk, h1.1, fun H2 p adr gr hp hl ht => ?_⟩
        have gg : Good X.K F H1 S1 H2 S1 := good_grow g.hst gr
        refine hq _ H2 _ S1 (g.trans gg) (.lst (SqL.of (by rw [mask_none (g.hst.free hp) (g.hst.freeF hp)]; exact hl)) (reps_maps fun k hk => ?_)) h1.2
        have hk' : k ∈ ks := (sortI_perm ks).mem_iff.mp hk
        cases q : getK kds (.inl k) with
        | none =>
          have n := (repK_valV rk).2 q
          have : (Sum.inl k : Key) ∈ kvs.map (·.1) := by rw [hkk]; exact List.mem_map_of_mem hk'
          obtain ⟨kv, m1, m2⟩ := List.mem_map.mp this
          unfold L2.valV at n
          rw [Option.map_eq_none_iff, List.find?_eq_none] at n
          exact absurd m2 (by simpa using n kv m1)
        | some d =>
          obtain ⟨v, ev, rv⟩ := (repK_valV rk).1 d q
          have m : ((Sum.inl k : Key), v) ∈ kvs := by
            unfold L2.valV at ev
            obtain ⟨kv, e1, e2⟩ := Option.map_eq_some_iff.mp ev
            have h1 := List.find?_some e1
            have h2 := List.mem_of_find?_eq_some e1
            have e3 : kv.1 = Sum.inl k := by simpa using h1
            rw [← e2, ← e3]; exact h2
          obtain ⟨t1, t2⟩ := ht k v m
          exact .tup (xs := [.int k, v]) (.inl (.inl (by rw [mask_none (g.hst.free t1) (g.hst.freeF t1)]; exact t2))) (.cons (.int k) (.cons (rv.mono gg.same) .nil))
      · cases h1
    · cases h1) hx⟩
end
@[simp ↓] theorem z_dSortIt {de : TEd} {σ : Sd} {S : Sto} {Q : QD} {E : XD} : dSortIt de σ S Q E = (de σ S (fun x S1 => match vw S1 x with
  | .dct kds => match kintsD kds with
    | some ks => ks.Nodup ∧ Q (.lst ((sortI ks).map fun k => .tup [.int k, (getK kds (.inl k)).getD .non])) S1
    | none => False
  | _ => False) E) := rfl
end VL

/-! VL: further readings as simp reads them; data of unlike kinds compared. -/
namespace VL
open PySem PySem.Spec PyProof.Rows L2
@[simp ↓] theorem z_dPop {d0 : TEd} {σ : Sd} {S : Sto} {Q : QD} {E : XD} : dPop d0 σ S Q E = (d0 σ S (fun x S1 => match x with
  | .ref p => match S1 p with
    | some (.lst ds) => match ds.getLast? with
      | some d => Q d (put S1 p (.lst ds.dropLast))
      | none => False
    | _ => False
  | _ => False) E) := rfl
@[simp ↓] theorem z_dGet2 {d0 de dx : TEd} {σ : Sd} {S : Sto} {Q : QD} {E : XD} : dGet2 d0 de dx σ S Q E = (d0 σ S (fun x S1 => (∃ kds, vw S1 x = .dct kds) ∧ de σ S1 (fun y S2 => dx σ S2 (fun z S3 => match vw S3 x with
  | .dct kds => match keyD y with
    | some k => Q ((getK kds k).getD z) S3
    | none => False
  | _ => False) E) E) E) := rfl
@[simp ↓] theorem z_dGet1 {d0 de : TEd} {σ : Sd} {S : Sto} {Q : QD} {E : XD} : dGet1 d0 de σ S Q E = (d0 σ S (fun x S1 => (∃ kds, vw S1 x = .dct kds) ∧ de σ S1 (fun y S2 => match vw S2 x with
  | .dct kds => match keyD y with
    | some k => Q ((getK kds k).getD .non) S2
    | none => False
  | _ => False) E) E) := rfl
section
variable {g : Bool → Bool} {S : Sto} {Q : QD}
@[simp ↓] theorem z_eqIN {i : Int} : dEqG g (.int i) .non S Q = Q (.bl (g false)) S := by
  apply propext
  constructor
  · intro h; exact h.2.2
  · intro h; exact ⟨rfl, rfl, h⟩
@[simp ↓] theorem z_eqNI {i : Int} : dEqG g .non (.int i) S Q = Q (.bl (g false)) S := by
  apply propext
  constructor
  · intro h; exact h.2.2
  · intro h; exact ⟨rfl, rfl, h⟩
end
end VL

/-! VL: tuples put together. -/
namespace VL
open PySem PySem.Spec PyProof.Rows L2
def dAddT : R2d := fun x y S Q => match vw S x, vw S y with
  | .tup i, .tup j => i.length + j.length ≤ sizeLine ∧ Q (.tup (i ++ j)) S
  | _, _ => False
@[simp ↓] theorem z_dAddT {x y : D} {S : Sto} {Q : QD} : dAddT x y S Q = (match vw S x, vw S y with
  | .tup i, .tup j => i.length + j.length ≤ sizeLine ∧ Q (.tup (i ++ j)) S
  | _, _ => False) := rfl
section
variable {X : Cx} {W : WX} {a b : Expr} {ta tb : TE} {da db : TEd} {pos : Pos}
theorem snd_addT : Snd2 X.K (rCatA X.K) dAddT := fun {x y dx dy F H S Qd Q} hs rx ry h hq => by
  unfold dAddT at h; split at h
  · next i j ei ej =>
    obtain ⟨_, a1, xs, rfl, h1, m1, r1⟩ := see_tup rx ei
    obtain ⟨_, b1, ys, rfl, h2, m2, r2⟩ := see_tup ry ej
    refine ⟨a1, b1, xs, ys, rfl, rfl, h1, h2, by rw [r1.length, r2.length]; exact h.1, fun e => ?_, fun _ e => ?_, fun _ _ p hp => hq _ _ _ S (good_new hs hp) (new_tup hs hp (r1.append r2)) h.2⟩
    · subst e
      cases r1
      exact hq _ H _ S (.refl hs) (.tup m2 r2) h.2
    · subst e
      cases r2
      refine hq _ H _ S (.refl hs) (.tup m1 r1) ?_
      have := h.2
      rwa [List.append_nil] at this
  · cases h
theorem ve_addT (ha : VE X W a ta da) (hb : VE X W b tb db) : VE X W (.BinOp a .Add b pos) (tOp (rCatA X.K) ta tb) (dOp dAddT da db) := ve_op op_catA snd_addT ha hb
end
end VL

/-! VL: slices of tuples, the whole ones too; list(d), d's keys; calls by keywords alone. -/
namespace VL
open PySem PySem.Spec PyProof.Rows L2
section
variable {X : Cx} {W : WX} {pos : Pos}
def dSliceA (de : TEd) (dl dh : TOd) : TEd := fun σ S Q E => de σ S (fun x S1 => dl σ S1 (fun lo S2 => dh σ S2 (fun hi S3 => match vw S3 x with
  | .lst ds => Q (.lst (cutD ds lo hi)) S3
  | .tup ds => Q (.tup (cutD ds lo hi)) S3
  | .str z => z.length ≤ sizeLine ∧ Q (.str (cutS z lo hi)) S3
  | _ => False) E) E) E
@[simp ↓] theorem z_dSliceA {de : TEd} {dl dh : TOd} {σ : Sd} {S : Sto} {Q : QD} {E : XD} : dSliceA de dl dh σ S Q E = (de σ S (fun x S1 => dl σ S1 (fun lo S2 => dh σ S2 (fun hi S3 => match vw S3 x with
  | .lst ds => Q (.lst (cutD ds lo hi)) S3
  | .tup ds => Q (.tup (cutD ds lo hi)) S3
  | .str z => z.length ≤ sizeLine ∧ Q (.str (cutS z lo hi)) S3
  | _ => False) E) E) E) := rfl
def rSlAll2 (K : PySem.W.Frag) : V → Option Int → Option Int → Hp → VK → Prop := fun x lo hi H Q => rSlL K x lo hi H Q ∨ rSlA K x lo hi H Q ∨ rSlS x lo hi H Q
theorem sl_all2 : SlR X (rSlAll2 X.K) := SlR.or sl_list (SlR.or sl_tupA sl_str)
theorem cut_whole {ds : List D} {lo hi : Option Int} (h1 : HT.sIx ds.length 0 lo = 0) (h2 : HT.sIx ds.length ds.length hi = ds.length) : cutD ds lo hi = ds := by
  unfold cutD
  rw [h1, h2]
  simp
theorem ve_sliceA {e : Expr} {lo hi : Option Expr} {te : TE} {tl th : TO} {de : TEd} {dl dh : TOd} {p2 : Pos} (he : VE X W e te de) (hl : VO X W lo tl dl) (hh : VO X W hi th dh) :
    VE X W (.Subscript e (.Slice lo hi none p2) pos) (tSl (rSlAll2 X.K) te tl th) (dSliceA de dl dh) := by
  refine ⟨pe_slice sl_all2 he.run hl.run hh.run, fun {σV F H σ S Qd E Q} hs er h hq hx => ?_⟩
  refine he.snd (Q := fun x H1 => tl σV H1 fun l H2 => th σV H2 fun u H3 => rSlAll2 X.K x l u H3 Q) hs er h (fun x H1 dx S1 g1 r1 h1 => ?_) hx
  refine hl.snd (Q := fun l H2 => th σV H2 fun u H3 => rSlAll2 X.K x l u H3 Q) g1.hst (er.mono g1.same) h1 (fun l H2 S2 g2 h2 => ?_) (hx.next g1)
  have g12 := g1.trans g2
  refine hh.snd (Q := fun u H3 => rSlAll2 X.K x l u H3 Q) g2.hst (er.mono g12.same) h2 (fun u H3 S3 g3 h3 => ?_) (hx.next g12)
  have g := g12.trans g3
  have r3 := (r1.mono g2.same).mono g3.same
  split at h3
  · next ds e =>
    obtain ⟨a1, xs, rfl, k1, q1⟩ := see_lst g.hst r3 e
    exact .inl ⟨a1, xs, rfl, k1, fun p hp => hq _ _ _ S3 (g.trans (good_new g.hst hp)) (new_lst g.hst hp (q1.cut l u)) h3⟩
  · next ds e =>
    obtain ⟨_, a1, xs, rfl, k1, m1, q1⟩ := see_tup r3 e
    refine .inr (.inl ⟨a1, xs, rfl, k1, fun hw => ?_, fun _ p hp => hq _ _ _ S3 (g.trans (good_new g.hst hp)) (new_tup g.hst hp (q1.cut l u)) h3⟩)
    rw [q1.length] at hw
    rw [cut_whole hw.1 hw.2] at h3
    exact hq _ _ _ S3 g (.tup m1 q1) h3
  · next z e =>
    obtain rfl := see_str r3 e
    exact .inr (.inr ⟨z, rfl, h3.1, hq _ _ _ S3 g (.str _) h3.2⟩)
  · cases h3
/-! ### list(d): the keys of a dict with int keys -/
def rKeysDK (K : PySem.W.Frag) : List V → Hp → VK → Prop := fun xs H Q => ∃ (a : Addr) (kvs : List (Key × V)) (ks : List Int), xs = [.ref a] ∧ H a = some (.dK kvs) ∧ kvs.map (·.1) = ks.map Sum.inl ∧
    ∀ p : Addr, H p = none → Q (.ref p) (upd H p (.lst (ks.map V.int)))
theorem call_keysDK (hcalm : X.calm = true) : CallR X (.type "list") (rKeysDK X.K) := by
  intro pins s σ H xs us Q I r q
  obtain ⟨a, kvs, ks, ex, hd, hks, q⟩ := q
  subst ex
  obtain ⟨u, eu, rx⟩ := vals1 r
  subst eu
  cases rx
  obtain ⟨z, lo, vs, rel, dd⟩ := dk_of I.hok hd
  obtain ⟨ep, hat⟩ := dd.dictAt
  have hkeys : vs.map (·.1) = ks.map Sum.inl := rel.keys.symm.trans hks
  have hl : vs.length = ks.length := by
    have e := congrArg List.length hkeys
    rw [List.length_map, List.length_map] at e
    exact e
  have h16 : vs.length ≤ sizeLine := by rw [← KV.length rel]; exact z
  refine PySem.W.kdl_call (PySem.W.kdl_dict (knd := mixKind X.prog X.w) (kvs := vs) (ep := ep) lo) (I.ok.hd hcalm) hat h16 fun h' tk acc c' hk hD hacc => ?_
  have hal : acc.toList.length = ks.length := by rw [Array.length_toList, hacc.1, hl]
  have hS : IntsAre acc.toList ks := ints_each hal fun j v e => by
    obtain ⟨k, x, e1, e2⟩ := hacc.2 j v (by rw [← Array.getElem?_toList]; exact e)
    have e3 : (vs.map (·.1))[j]? = some k := by rw [List.getElem?_map, e1]; rfl
    rw [hkeys, List.getElem?_map] at e3
    cases e4 : ks[j]? with
    | none => rw [e4] at e3; cases e3
    | some y =>
      rw [e4] at e3
      have e5 : Sum.inl y = k := Option.some.inj e3
      subst e5
      rcases keyIs_shape (show keyIs (Sum.inl y) v = true from e2) with ⟨i, t, ek, ev⟩ | ⟨z, t, ek, ev⟩
      · cases ek
        exact ⟨y, t, rfl, ev⟩
      · cases ek
  refine ⟨.ref _, _, I.laid (t' := tk) hk (Nat.le_refl _) (show ObjOk X.prog X.w _ h' _ (.lst (ks.map V.int)) from ⟨by rw [List.length_map, ← hl]; exact h16, acc.toList, c', vals_of_ints hS, ?_⟩), rfl, q _ (I.hok.fresh (Nat.le_refl _))⟩
  rw [Array.toArray_toList]
  exact hD
def dKeys : RCd := fun ds S Q => match ds with
  | [x] => match vw S x with
    | .dct l => match kintsD l with
      | some ns => Q (.lst (ns.map D.int)) S
      | none => False
    | _ => False
  | _ => False
@[simp ↓] theorem z_dKeys {ds : List D} {S : Sto} {Q : QD} : dKeys ds S Q = (match ds with
  | [x] => match vw S x with
    | .dct l => match kintsD l with
      | some ns => Q (.lst (ns.map D.int)) S
      | none => False
    | _ => False
  | _ => False) := rfl
theorem snd_keys : SndC X.K (rKeysDK X.K) dKeys := fun {xs ds F H S Qd Q} hs r h hq => by
  unfold dKeys at h; split at h
  · cases r with
    | cons r1 r2 =>
      cases r2
      split at h
      · next l e =>
        obtain ⟨a1, ys, rfl, h1, q1⟩ := see_dct hs r1 e
        split at h
        · next ns en => exact ⟨a1, ys, ns, rfl, h1, (repK_keys q1).trans (kints_of en), fun p hp => hq _ _ _ S (good_new hs hp) (new_lst hs hp (reps_of_ints _)) h⟩
        · cases h
      · cases h
  · cases h
theorem ve_keys {p : Pos} {e : Expr} {t : TA} {d : TAd} (hcalm : X.calm = true) (hm : X.mg "list" = none) (ha : VA X W [e] t d)
    (hg : Gl X "list" := by rfl) (he : starEach [e] X.env = (false, eval e X.env) :: starEach [] X.env := by rfl) (hpl : (backTo pos (starEach [] X.env)).any (·.1) = false := by rfl) :
    VE X W (.Call (.Name "list" p) [e] [] pos) (tCB (rKeysDK X.K) t) (dCB dKeys d) :=
  ve_ct snd_keys (call_keysDK hcalm) hm ha hg (by decide +kernel) (by decide) (by decide) he hpl
/-! ### f(k = v, ..) -/
section
variable {k : Nat} {f : Addr} {fd : FuncData} {ps ks : List Str} {sp : Sp} {x : Str} {p : Pos} {kws : List Keyword} {tk' : TA} {dk : TAd} {spd : Spd}
theorem pe_callGK0 {g : List Value → List Value → List Value} {gV : List V → List V → List V} (Fn : FnG X.prog X.w X.K X.mg X.base k f fd ps sp) (hgd : X.A.guards = some []) (hr : Room k X.A) (tk : Takes X W) (hm : X.mg x = some (.ref f)) (hk : PySem.W.keepIn X.K (.ref f) = true)
    (hb : KBn X.K fd ps 0 ks g gV) (hkw : PK X kws tk') (hg : Gl X x := by rfl) (hall : (backToKw pos (keywordEach kws X.env)).all (·.1.isSome) = true := by rfl) (hks : (backToKw pos (keywordEach kws X.env)).filterMap (·.1) = ks := by rfl)
    (hdb : (x == ("__debug__" : Str)) = false := by decide)
    (hpl : ((backTo pos (starEach [] X.env)).any (·.1) || (backToKw pos (keywordEach kws X.env)).any (·.1.isNone)) = false := by rfl) : PE X (.Call (.Name x p) [] kws pos) (tCallGK 0 ks.length sp gV W tNil tk') := by
  refine ⟨fun pins s σ H Q I h => wpAny_Call_Name_kw (ld_glob I hg hm ?_ hdb)⟩
  refine PySem.W.callWith_KW0 (h₀ := X.base) I.ok.mod.kin hk hall (thn (hkw.run pos pins s σ H _ I h) fun ws s2 ⟨zs, H2, I2, rz, l1, l2, q2⟩ => ⟨I2.kIn, ?_⟩) hpl
  rw [hks]
  exact wpAny_call (run_G Fn hgd hr tk I2 (hb.to s2 [] ws I2.kIn rfl (rz.length.symm.trans l2)) (hb.rel .nil rz) q2)
theorem ve_callRK0 {gV : List V → List V → List V} {gD : List D → List D → List D} (R : RdyK X.prog X.w X.K X.mg X.base k x 0 ks gV gD spd) (hgd : X.A.guards = some []) (hr : Room k X.A) (tk : Takes X W) (hkw : VK' X W kws tk' dk) (hg : Gl X x := by rfl)
    (hall : (backToKw pos (keywordEach kws X.env)).all (·.1.isSome) = true := by rfl) (hks : (backToKw pos (keywordEach kws X.env)).filterMap (·.1) = ks := by rfl)
    (hdb : (x == ("__debug__" : Str)) = false := by decide)
    (hpl : ((backTo pos (starEach [] X.env)).any (·.1) || (backToKw pos (keywordEach kws X.env)).any (·.1.isNone)) = false := by rfl) :
    VE X W (.Call (.Name x p) [] kws pos) (tCallGK 0 ks.length (lift X.K spd) gV W tNil tk') (dCallK 0 ks.length spd gD dNil dk) := by
  obtain ⟨f, fd, ps, g, Fn, hm, hk, hb⟩ := R.ex
  refine ⟨pe_callGK0 Fn hgd hr tk hm hk hb hkw.run hg hall hks hdb hpl, fun {σV F H σ S Qd E Q} hs er h hq hx => ?_⟩
  refine (va_nil (X := X) (W := W)).snd (Q := fun vs H1 => tk' σV H1 fun zs H2 => vs.length = 0 ∧ zs.length = ks.length ∧ lift X.K spd (gV vs zs) H2 Q (WE W σV)) hs er h (fun vs H1 ds S1 g1 r1 h1 => ?_) hx
  refine hkw.snd g1.hst (er.mono g1.same) h1 (fun zs H2 es S2 g2 r2 h2 => ?_) (hx.next g1)
  have g12 := g1.trans g2
  have r1' := r1.mono g2.same
  exact ⟨r1'.length.trans h2.1, r2.length.trans h2.2.1, F, gD ds es, S2, Qd, E, g2.hst, R.rel _ _ _ _ _ r1' r2, h2.2.2, hq.next g12, fun cls a H' fs S' g' xr q => hx cls a H' fs S' (g12.trans g') xr q⟩
end
end
end VL

/-! VL: defs called by the names of their parameters alone. -/
namespace VL
open PySem PySem.Spec PyProof.Rows L2
/-- l's things at the places is -/
def pm {α : Type} (is : List Nat) (l : List α) : List α := is.filterMap fun i => l[i]?
theorem vals_get {vs : List V} {us : List Value} (r : Vals vs us) : ∀ i : Nat, (vs[i]? = none ∧ us[i]? = none) ∨ ∃ v u, vs[i]? = some v ∧ us[i]? = some u ∧ RelV v u := by
  induction r with
  | nil => intro i; exact .inl ⟨rfl, rfl⟩
  | cons h _ ih =>
    intro i
    cases i with
    | zero => exact .inr ⟨_, _, rfl, rfl, h⟩
    | succ i => simpa using ih i
theorem vals_pm {vs : List V} {us : List Value} (r : Vals vs us) : ∀ is : List Nat, Vals (pm is vs) (pm is us)
  | [] => .nil
  | i :: is => by
    have ih := vals_pm r is
    unfold pm at ih ⊢
    rw [List.filterMap_cons, List.filterMap_cons]
    rcases vals_get r i with ⟨e1, e2⟩ | ⟨v, u, e1, e2, h⟩
    · rw [e1, e2]; exact ih
    · rw [e1, e2]; exact .cons h ih
theorem reps_pm {K : PySem.W.Frag} {M : Hp} {vs : List V} {ds : List D} (r : Reps K M vs ds) : ∀ is : List Nat, Reps K M (pm is vs) (pm is ds)
  | [] => .nil
  | i :: is => by
    have ih := reps_pm r is
    unfold pm at ih ⊢
    rw [List.filterMap_cons, List.filterMap_cons]
    cases e : ds[i]? with
    | none =>
      have : vs[i]? = none := by rw [List.getElem?_eq_none_iff] at e ⊢; rw [r.length]; exact e
      rw [this]; exact ih
    | some d =>
      obtain ⟨v, h1, h2⟩ := r.get e
      rw [h1]; exact .cons h2 ih
theorem rdyk_pos {P : Program} {w : World} {K : PySem.W.Frag} {mg : Str → Option Value} {base : Heap} {k : Nat} {x qual : Str} {params : Arguments} {body : List Stmt} {scope : Scope} {f : Addr} {fd : FuncData} {ps : List Str} {spd : Spd} (ks : List Str) (is : List Nat)
    (F : FunD K x qual params body scope [] [] f fd) (G : FnG P w K mg base k f fd ps (lift K spd)) (hm : mg x = some (.ref f))
    (h : ∀ (kV doc pm' : Value) (an : Option Addr) (cdv ct : Value) (ws : List Value), ws.length = ks.length → bindArgs (PySem.W.fnOf x qual params body scope .none kV doc pm' an cdv ct) ⟨[], ks.zip ws⟩ = pure (ps.zip (pm is ws))) :
    RdyK P w K mg base k x 0 ks (fun _ zs => pm is zs) (fun _ es => pm is es) spd := by
  refine ⟨⟨f, fd, ps, fun _ ws => pm is ws, G, hm, F.kp, ?_⟩, fun M vs zs ds es _ r => reps_pm r is⟩
  obtain ⟨oc, od, dV, kV, doc, pm', an, cdv, ct, osl, rfl, lk, hcd, hD, hK⟩ := F.ex
  rcases hD with ⟨_, rfl⟩ | ⟨e, _⟩
  · refine ⟨fun s us ws _ h1 h2 => ?_, fun _ r => vals_pm r is⟩
    have : us = [] := List.length_eq_zero_iff.mp h1
    subst this
    exact .of_eq (h kV doc pm' an cdv ct ws h2)
  · exact absurd rfl e
end VL

/-! VL: x[::-1] of a list, {} as it stands, repr of {}. -/
namespace VL
open PySem PySem.Spec PyProof.Rows L2
section
variable {X : Cx} {W : WX} {pos : Pos}
def dRevL (de : TEd) : TEd := fun σ S Q E => de σ S (fun x S1 => match vw S1 x with
  | .lst ds => Q (.lst ds.reverse) S1
  | _ => False) E
@[simp ↓] theorem z_dRevL {de : TEd} {σ : Sd} {S : Sto} {Q : QD} {E : XD} : dRevL de σ S Q E = (de σ S (fun x S1 => match vw S1 x with
  | .lst ds => Q (.lst ds.reverse) S1
  | _ => False) E) := rfl
theorem reps_rev {K : PySem.W.Frag} {M : Hp} : ∀ {xs : List V} {ds : List D}, Reps K M xs ds → Reps K M xs.reverse ds.reverse
  | _, _, .nil => .nil
  | _, _, .cons h r => by
    rw [List.reverse_cons, List.reverse_cons]
    exact (reps_rev r).append (.cons h .nil)
theorem ve_revL {e : Expr} {te : TE} {de : TEd} {k : Nat} {p1 p2 p3 : Pos} (he : VE X W e te de) :
    VE X W (.Subscript e (.Slice none none (some (.UnaryOp .USub (.Constant (.int 1) k p1) p2)) p3) pos) (tRevL X.K te) (dRevL de) := by
  refine ⟨pe_revL he.run, fun {σV F H σ S Qd E Q} hs er h hq hx => ?_⟩
  refine he.snd hs er h (fun x H1 dx S1 g r h1 => ?_) hx
  split at h1
  · next ds e =>
    obtain ⟨a1, xs, rfl, k1, q1⟩ := see_lst g.hst r e
    exact ⟨a1, xs, rfl, k1, fun p hp => hq _ _ _ S1 (g.trans (good_new g.hst hp)) (new_lst g.hst hp (reps_rev q1)) h1⟩
  · cases h1
def dDct0 : TEd := fun _ S Q _ => Q (.dct []) S
@[simp ↓] theorem z_dDct0 {σ : Sd} {S : Sto} {Q : QD} {E : XD} : dDct0 σ S Q E = Q (.dct []) S := rfl
theorem ve_dct0 : VE X W (.Dict [] [] pos) tDNewK dDct0 := ⟨(ve_frz (ve_dctM (X := X) (W := W) (pos := pos))).run, fun {σV F H σ S Qd E Q} hs er hh hq hx =>
  (ve_frz (ve_dctM (X := X) (W := W) (pos := pos))).snd hs er (show dFrz dDctM σ S Qd E from fun p hp => by
    show frz Qd (.ref p) (put S p (.dct []))
    unfold frz
    simp only [put_same, era_put hp]
    exact hh) hq hx⟩
/-! ### repr of {} too -/
def rReprX (K : PySem.W.Frag) : List V → Hp → VK → Prop := fun xs H Q => rRepr K xs H Q ∨ ∃ a : Addr, xs = [.ref a] ∧ H a = some (.dK []) ∧ Q (.str "{}") H
theorem call_reprX (hgd : X.A.guards = some []) (hu : X.A.units + 66 < cLine) : CallR X (.builtin "repr") (rReprX X.K) := fun pins s σ H xs us Q I r h => by
  rcases h with h | ⟨a, rfl, hd, q⟩
  · exact call_reprD hgd hu pins s σ H xs us Q I r h
  · obtain ⟨u, rfl, ru⟩ := vals1 r
    cases ru
    obtain ⟨z, lo, vs, rel, o, es, ep, h1, h2, h3, h4, h5, h6⟩ := dk_of I.hok hd
    have hv : vs = [] := by cases rel; rfl
    subst hv
    have he : es.toList = [] := by
      cases q : es.toList with
      | nil => rfl
      | cons e l => rw [q] at h5; cases h5
    have rd : Reads s.heap (.ref a) (.dict []) (a :: [] ++ []) := Reads.dict h1 h2.1 h3 (by rw [he]; exact .nil) (by rw [he]; exact .nil)
    have hs : (PyData.dict []).shown = ("{}" : Str) := by decide +kernel
    refine repr_of_reads' rd (by simp [PyData.showable]; rfl) (fun _ hm => ?_) hgd (by rw [show (PyData.dict []).depth = 1 from by decide +kernel]; omega) (fun _ _ e => e) (fun h' u tk hk => ⟨.str _, H, I.kept (t' := tk) hk, ⟨u, rfl⟩, by rw [hs]; exact q⟩) (by rw [hs]; decide +kernel)
    simp at hm
    subst hm
    simp at lo
def dReprX : RCd := fun ds S Q => match ds with
  | [x] => match vw S x with
    | .dct [] => Q (.str "{}") S
    | _ => dRepr ds S Q
  | _ => False
@[simp ↓] theorem z_dReprX {ds : List D} {S : Sto} {Q : QD} : dReprX ds S Q = (match ds with
  | [x] => match vw S x with
    | .dct [] => Q (.str "{}") S
    | _ => dRepr ds S Q
  | _ => False) := rfl
theorem snd_reprX : SndC X.K (rReprX X.K) dReprX := fun {xs ds F H S Qd Q} hs r h hq => by
  unfold dReprX at h; split at h
  · next x =>
    split at h
    · next e =>
      cases r with
      | cons r1 r2 =>
        cases r2
        obtain ⟨a, kvs, rfl, ha, rk⟩ := see_dct hs r1 e
        cases rk
        exact .inr ⟨a, rfl, ha, hq _ H _ S (.refl hs) (.str _) h⟩
    · exact .inl (snd_repr hs r h hq)
  · cases h
end
end VL

/-! VL: isinstance(x, C) of an own class, == and != by its own __eq__. -/
namespace VL
open PySem PySem.Spec PyProof.Rows L2 C8
def kindsN : List String := ["NoneType", "bool", "int", "str", "tuple", "list", "dict"]
/-- what == and isinstance ask of an own class -/
structure EqC (K : PySem.W.Frag) (C : Addr) : Prop where
  ins : InsC K C
  no : ∀ n ∈ kindsN, PySem.W.kitOne K (.type n) (.ref C) = some false
  nf : ∀ n ∈ kindsN, PySem.W.notFirst K C (.type n) = true
  ne : PySem.W.findIn K (.ref C) "__ne__" = some (some (.builtin "object.__ne__"))
def eqB (x : Str) (K : PySem.W.Frag) : Bool := (He.Fa.cls x).ok K && (He.eqO (PySem.W.findIn K (.ref (He.ga K x)) "__class__") (some (some (.builtin "object.__class__"))) &&
  (He.eqO (PySem.W.specialIn K (.builtin "object.__class__") "__get__") (some (some (.builtin "getset_descriptor.__get__"))) && (decide (PySem.W.takesIn K (.builtin "object.__class__") = some true) &&
  (decide (PySem.W.mroIn K (He.ga K x) (.type "object") = some true) && (decide (PySem.W.kitOne K (.ref (He.ga K x)) (.ref (He.ga K x)) = some true) && ((kindsN.all fun n => decide (PySem.W.kitOne K (.type n) (.ref (He.ga K x)) = some false)) &&
  ((kindsN.all fun n => PySem.W.notFirst K (He.ga K x) (.type n)) && He.eqO (PySem.W.findIn K (.ref (He.ga K x)) "__ne__") (some (some (.builtin "object.__ne__"))))))))))
theorem eqB_ok {K : PySem.W.Frag} {x : Str} (c : eqB x K = true) : EqC K (He.ga K x) := by
  unfold eqB at c
  obtain ⟨c1, c⟩ := He.ba c
  obtain ⟨c2, c⟩ := He.ba c
  obtain ⟨c3, c⟩ := He.ba c
  obtain ⟨c4, c⟩ := He.ba c
  obtain ⟨c5, c⟩ := He.ba c
  obtain ⟨c6, c⟩ := He.ba c
  obtain ⟨c7, c⟩ := He.ba c
  obtain ⟨c8, c9⟩ := He.ba c
  exact ⟨⟨He.cls_ok c1, He.eqO_ok c2, He.eqO_ok c3, of_decide_eq_true c4, of_decide_eq_true c5, of_decide_eq_true c6⟩, fun n hn => of_decide_eq_true (List.all_eq_true.mp c7 n hn), fun n hn => List.all_eq_true.mp c8 n hn, He.eqO_ok c9⟩
theorem tyN_kind {d : D} {t : String} (h : tyN d = some t) : t ∈ kindsN := by
  cases d <;> simp [tyN] at h <;> subst h <;> decide
/-! ### isinstance(x, C) -/
section
variable {X : Cx} {W : WX}
def dIsC (C : Addr) : RCd := fun ds S Q => match ds with
  | [x, .ref c] => c = C ∧ (match tyN (vw S x) with
    | some _ => Q (.bl false) S
    | none => match x with
      | .ref a => match S a with
        | some (.ins C' _) => C' = C ∧ Q (.bl true) S
        | _ => False
      | _ => False)
  | _ => False
@[simp ↓] theorem z_dIsC {C : Addr} {ds : List D} {S : Sto} {Q : QD} : dIsC C ds S Q = (match ds with
  | [x, .ref c] => c = C ∧ (match tyN (vw S x) with
    | some _ => Q (.bl false) S
    | none => match x with
      | .ref a => match S a with
        | some (.ins C' _) => C' = C ∧ Q (.bl true) S
        | _ => False
      | _ => False)
  | _ => False) := rfl
theorem snd_isC {C : Addr} (c : EqC X.K C) : SndC X.K (rIsi X.K) (dIsC C) := fun {xs ds F H S Qd Q} hs r h hq => by
  unfold dIsC at h
  split at h
  · next x c' =>
    obtain ⟨rfl, h⟩ := h
    cases r with
    | cons r1 r2 =>
      cases r2 with
      | cons r2 r3 =>
        cases r3
        cases r2
        split at h
        · next t et =>
          exact ⟨_, _, .type t, .ref c', false, rfl, .own c', tyx_of hs r1 et, c.no t (tyN_kind et), hq _ H _ S (.refl hs) (.bl _) h⟩
        · split at h
          · next a hn =>
            cases r1
            split at h
            · next C' fs es =>
              obtain ⟨rfl, h⟩ := h
              obtain ⟨dx, fv, e1, rf⟩ := hs.at_ a _ es
              exact ⟨_, _, .ref C', .ref C', true, rfl, .own C', .base (.ins e1 c.ins.cl c.ins.ha c.ins.hn c.ins.htk c.ins.hm), c.ins.me, hq _ H _ S (.refl hs) (.bl _) h⟩
            · cases h
          · cases h
  · cases h
/-! ### == by an own __eq__ -/
def XN : XK := fun _ _ _ => False
theorem runN {pins : List (Addr × Obj)} {σ : L2.St} {H : Hp} {s : Shared} {Q : VK} {us : List Value} {vs : List V} {k : Nat} {f : Addr} {fd : FuncData} {ps : List Str} {sp : Sp} {A : Around} (Fn : FnG X.prog X.w X.K X.mg X.base k f fd ps sp) (hgd : A.guards = some []) (hr : Room k A) (hf : A.frames = X.A.frames)
    (hb : Binds X.K fd ps []) (I : Inv X pins σ H s) (r : Vals vs us) (h : sp vs H Q XN) : wpAny (model X.prog X.w) A (call (.ref f) us) (fun v s' => ∃ z H', Inv X pins σ H' s' ∧ RelV z v ∧ Q z H') X.xe s := by
  have len : us.length = ps.length := by rw [← r.length]; exact Fn.len _ _ _ _ h
  have e0 : Env0 X.prog X.w X.K X.mg X.base A X.stack s H := by
    have e := I.env0
    exact ⟨by rw [hf]; exact e.frames, e.mod, e.bs, e.bsz, e.funs, e.frf, e.hok, e.bare⟩
  refine wpAny_call (codeAny_mono (Fn.run A X.stack s H ⟨us, []⟩ us vs Q XN hgd hr e0 (by
    have := hb s us I.kIn (by simpa using len)
    simpa using this) r h) fun r s' hq => ?_)
  rcases r with e | (_ | _ | _ | u)
  · obtain ⟨_, _, _, _, _, _, _, _, _, _, _, _, hE⟩ := hq
    exact hE.elim
  · exact hq.elim
  · exact hq.elim
  · exact hq.elim
  · obtain ⟨z, H', I', rz, q⟩ := I.after hq
    exact ⟨z, H', I', rz, q⟩
/-- what stands beside an instance under == -/
def Beside (K : PySem.W.Frag) (C : Addr) (y : V) (H : Hp) : Prop := (∃ n, n ∈ kindsN ∧ TyX K H y (.type n)) ∨ ∃ b dy gs, y = .ref b ∧ H b = some (.ins C dy gs)
def rEqI (K : PySem.W.Frag) (C : Addr) (sp : Sp) (g : Bool → Bool) : R2 := fun x y H Q => ∃ a dx fs, x = .ref a ∧ H a = some (.ins C dx fs) ∧ Beside K C y H ∧ sp [x, y] H (fun v H' => ∃ b, v = .bl b ∧ Q (.bl (g b)) H') XN
theorem beside_looks {pins : List (Addr × Obj)} {σ : L2.St} {H : Hp} {s : Shared} {C : Addr} {y : V} {u : Value} (c : EqC X.K C) (I : Inv X pins σ H s) (r : RelV y u) (h : Beside X.K C y H) :
    ∃ tb, PySem.W.Looks (model X.prog X.w) s.heap (typeOf u) tb ∧ PySem.W.notFirst X.K C tb = true := by
  rcases h with ⟨n, hn, ty⟩ | ⟨b, dy, gs, rfl, hb⟩
  · obtain ⟨P, Z, p, _⟩ := kit_of I r ty
    exact ⟨_, Z.ty _ _ I.kIn p, c.nf n hn⟩
  · cases r
    obtain ⟨mB, J', _⟩ := ins_get I.hok hb
    obtain ⟨od', J', _⟩ := J'.look
    exact ⟨_, J'.type, by simp [PySem.W.notFirst]⟩
theorem op_eqI {k : Nat} {C f : Addr} {fd : FuncData} {ps : List Str} {sp : Sp} (c : EqC X.K C) (Fn : FnG X.prog X.w X.K X.mg X.base k f fd ps sp) (hm : Meth X.K C "__eq__" f) (hb : Binds X.K fd ps []) (hgd : X.A.guards = some []) (hr : Room k X.A) :
    OpR X (compareOp .Eq) (rEqI X.K C sp id) := by
  intro pins s σ H x y v u Q I rx ry h
  obtain ⟨a, dx, fs, rfl, ha, hy, hq⟩ := h
  cases rx
  obtain ⟨tb, lk, nf⟩ := beside_looks c I ry hy
  obtain ⟨mA, J, _⟩ := ins_get I.hok ha
  obtain ⟨od, J, _⟩ := J.look
  obtain ⟨m, hF⟩ := I.fr
  show wpAny (model X.prog X.w) X.A (richCompare .Eq (.ref a) u) (EP X pins σ Q) X.xe s
  refine PySem.W.cmp_K (op := .Eq) (tb := tb) hr.units0 hF I.ok.mod.kin J lk nf hm.at_ hm.fn ?_
  refine wpAny_mono (runN (vs := [.ref a, y]) Fn hgd hr rfl hb I (.cons rfl (.cons ry .nil)) hq) (fun r s' q => ?_) fun _ _ x => x
  obtain ⟨z, H', I', rz, b, rfl, q⟩ := q
  cases rz
  exact ⟨.bl b, H', I', rfl, q⟩
end
section
variable {M : Model} {prog : Program} {w : World} {A : Around} {E : Value → Shared → Prop} {s : Shared} {K : PySem.W.Frag} {x C f : Addr} {ox : Obj} {od : Option Obj} {b tb : Value} {Q : Value → Shared → Prop}
theorem cmp_one {op : CmpOp} (hu : A.units < cLine) (X : K.In s.heap) (I : PySem.W.InstAt s.heap x ox C od) (hb : PySem.W.Looks (model prog w) s.heap (typeOf b) tb) (hn : PySem.W.notFirst K C tb = true)
    (one : wpAny (model prog w) A (tryCompare (.ref x) (cmpInfo op).2.1 b) (fun r s' => ∃ v, r = some v ∧ Q v s') E s) : wpAny (model prog w) A (richCompare op (.ref x) b) Q E s := by
  unfold richCompare
  simp only [oneThing_ref]
  refine wpAny_holding (wpAny_bind (wpAny_cRoomFor hu ?_))
  refine wpAny_bind (I.type.here (wpAny_bind (hb.here ?_)))
  split
  · rename_i q
    have e : PySem.W.subIn K tb (.ref C) = some false := by
      rcases Bool.or_eq_true_iff.mp hn with e | e
      · rw [beq_iff_eq.mp e] at q; simp at q
      · exact beq_iff_eq.mp e
    refine wpAny_bind ((PySem.W.looks_subIn X e).here ?_)
    simp only [Bool.false_eq_true, if_false]
    refine wpAny_bind (wpAny_mono one (fun r s' z => ?_) fun _ _ e => e)
    obtain ⟨v, rfl, hq⟩ := z
    exact wpAny_pure hq
  · refine wpAny_bind (wpAny_pure ?_)
    simp only [Bool.false_eq_true, if_false]
    refine wpAny_bind (wpAny_mono one (fun r s' z => ?_) fun _ _ e => e)
    obtain ⟨v, rfl, hq⟩ := z
    exact wpAny_pure hq
theorem ifBound_objNe {args : List Value} {Q : Option Value → Shared → Prop} (X : K.In s.heap) (I : PySem.W.InstAt s.heap x ox C od) (hs : PySem.W.findIn K (.ref C) "__ne__" = some (some (.builtin "object.__ne__")))
    (h : wpAny M A (call (.builtin "object.__ne__") (.ref x :: args)) (fun v => Q (some v)) E s) : wpAny M A (callSpecialIfBound? (.ref x) "__ne__" args) Q E s := by
  simp only [callSpecialIfBound?, bindSpecialIfBound?]
  refine wpAny_holding (wpAny_bind (wpAny_bind (wpAny_bind (I.type.here ((PySem.W.looks_findIn X hs).here ?_)))))
  refine wpAny_bind (wpAny_askSetting (wpAny_ite ?_))
  have fin : wpAny M A (call (.builtin "object.__ne__") ([.ref x] ++ args) >>= fun v => pure (some v)) Q E s := wpAny_bind (wpAny_mono h (fun v s' h' => wpAny_pure h') fun _ _ h' => h')
  split
  · exact wpAny_bind (wpAny_of_eq (F.cmp_object.ne.bind _) (wpAny_pure (by exact fin)))
  · exact wpAny_tryCatch (wpAny_bind (wpAny_of_eq (F.cmp_object.ne.bind _) (wpAny_pure (by exact fin))))
theorem entry_objNe {R : PySem.Fin → Shared → Prop} (hu : A.units < cLine) (X : K.In s.heap) (I : PySem.W.InstAt s.heap x ox C od) (hs : PySem.W.findIn K (.ref C) "__eq__" = some (some (.ref f))) (hf : PySem.W.isFn K (.ref f) = true)
    (h : wpAny M A (call (.ref f) [.ref x, b]) (fun v s' => ∃ z, v = .bool z ∧ R (.done (.ret (.bool (!z)))) s') E s) : wpAny M A (Builtin.«object.__ne__» ⟨[.ref x, b], []⟩) R E s := by
  unfold Builtin.«object.__ne__»
  refine wpAny_bind (m := slotArgs "__ne__" 1 _) (wpAny_pure ?_)
  refine wpAny_bind (wpAny_cRoomFor hu ?_)
  refine wpAny_bind (PySem.W.ifBound_K X I hs hf (wpAny_mono h (fun v s' q => ?_) fun _ _ e => e))
  obtain ⟨z, rfl, q⟩ := q
  exact wpAny_bind (wpAny_truthy_bool (wpAny_pure q))
end
section
variable {X : Cx} {W : WX} {k : Nat} {C f : Addr} {fd : FuncData} {ps : List Str} {sp : Sp} {spd : Spd} {a b : Expr} {ta tb : TE} {da db : TEd} {pos : Pos}
def rNeI (K : PySem.W.Frag) (C : Addr) (sp : Sp) : R2 := fun x y H Q => ∃ a dx fs, x = .ref a ∧ H a = some (.ins C dx fs) ∧ Beside K C y H ∧ sp [x, y] H (fun v H' => ∃ b, v = .bl b ∧ Q (.bl (!b)) H') XN
theorem op_neI (c : EqC X.K C) (Fn : FnG X.prog X.w X.K X.mg X.base k f fd ps sp) (hm : Meth X.K C "__eq__" f) (hb : Binds X.K fd ps []) (hgd : X.A.guards = some []) (hr : Room (k + 1) X.A) :
    OpR X (compareOp .NotEq) (rNeI X.K C sp) := by
  intro pins s σ H x y v u Q I rx ry h
  obtain ⟨a, dx, fs, rfl, ha, hy, hq⟩ := h
  cases rx
  obtain ⟨tb, lk, nf⟩ := beside_looks c I ry hy
  obtain ⟨mA, J, _⟩ := ins_get I.hok ha
  obtain ⟨od, J, _⟩ := J.look
  show wpAny (model X.prog X.w) X.A (richCompare .NotEq (.ref a) u) (EP X pins σ Q) X.xe s
  refine cmp_one hr.units0 I.kIn J lk nf ?_
  unfold tryCompare
  refine wpAny_bind (ifBound_objNe I.kIn J c.ne (wpAny_call (codeAny_call_builtin F.cmp_object.ne.plain F.cmpEntry_ne (PySem.W.check_slot F.cmpKind_ne F.cmpSplit_ne (J.type.andThen (PySem.W.looks_mroIn I.kIn c.ins.hm)) (F.cmpArgs_ne _ _)
    (entry_objNe (A := X.A.in1) hr.in1.units0 I.kIn J hm.at_ hm.fn (wpAny_mono (runN (vs := [.ref a, y]) Fn hgd hr.in1 rfl hb I (.cons rfl (.cons ry .nil)) hq) (fun r s' q => ?_) fun _ _ x => x))))))
  obtain ⟨z, H', I', rz, b, rfl, q⟩ := q
  cases rz
  exact ⟨b, rfl, wpAny_pure ⟨_, rfl, .bl (!b), H', I', rfl, q⟩⟩
def besD (S : Sto) (C : Addr) (y : D) : Prop := (tyN (vw S y)).isSome = true ∨ ∃ b fs, y = .ref b ∧ S b = some (.ins C fs)
def dEqI (C : Addr) (spd : Spd) (g : Bool → Bool) : R2d := fun x y S Q => match x with
  | .ref a => (∃ fs, S a = some (.ins C fs)) ∧ besD S C y ∧ spd [x, y] S (fun d S' => match d with
    | .bl b => Q (.bl (g b)) S'
    | _ => False) XF
  | _ => False
theorem bes_of {F H : Hp} {S : Sto} {y : V} {d : D} (hs : HSt X.K F H S) (r : Rep X.K (mask F S H) y d) (h : besD S C d) : Beside X.K C y H := by
  rcases h with h | ⟨b, fs, rfl, hb⟩
  · cases e : tyN (vw S d) with
    | none => rw [e] at h; cases h
    | some t => exact .inl ⟨t, tyN_kind e, tyx_of hs r e⟩
  · cases r
    obtain ⟨dx, fv, e1, _⟩ := hs.at_ b _ hb
    exact .inr ⟨b, dx, fv, rfl, e1⟩
theorem snd_eqI : Snd2 X.K (rEqI X.K C (lift X.K spd) id) (dEqI C spd id) := fun {x y dx dy F H S Qd Q} hs rx ry h hq => by
  unfold dEqI at h
  split at h
  · next a =>
    obtain ⟨⟨fs, es⟩, hb, h⟩ := h
    have hy := bes_of hs ry hb
    have rx0 := rx
    cases rx
    obtain ⟨dxx, fv, e1, _⟩ := hs.at_ a _ es
    refine ⟨a, dxx, fv, rfl, e1, hy, F, _, S, _, XF, hs, .cons rx0 (.cons ry .nil), h, fun v H' d S' g r q => ?_, fun _ _ _ _ _ _ _ z => z.elim⟩
    dsimp only at q
    split at q
    · next b => cases r; exact ⟨b, rfl, hq _ H' _ S' g (.bl _) q⟩
    · cases q
  · cases h
theorem snd_neI : Snd2 X.K (rNeI X.K C (lift X.K spd)) (dEqI C spd (!·)) := fun {x y dx dy F H S Qd Q} hs rx ry h hq => by
  unfold dEqI at h
  split at h
  · next a =>
    obtain ⟨⟨fs, es⟩, hb, h⟩ := h
    have hy := bes_of hs ry hb
    have rx0 := rx
    cases rx
    obtain ⟨dxx, fv, e1, _⟩ := hs.at_ a _ es
    refine ⟨a, dxx, fv, rfl, e1, hy, F, _, S, _, XF, hs, .cons rx0 (.cons ry .nil), h, fun v H' d S' g r q => ?_, fun _ _ _ _ _ _ _ z => z.elim⟩
    dsimp only at q
    split at q
    · next b => cases r; exact ⟨b, rfl, hq _ H' _ S' g (.bl _) q⟩
    · cases q
  · cases h
theorem ve_eqI (R : RdyM X.prog X.w X.K X.mg X.base k C "__eq__" [] [] spd) (c : EqC X.K C) (hgd : X.A.guards = some []) (hr : Room (k + 1) X.A) (ha : VE X W a ta da) (hb : VE X W b tb db) :
    VE X W (.Compare a [.Eq] [b] pos) (tOp (rEqI X.K C (lift X.K spd) id) ta tb) (dOp (dEqI C spd id) da db) := by
  obtain ⟨fa, fd, ps, ds0, G, hm, hbd, hd, _⟩ := R.ex
  cases hd
  exact ve_cmp (op_eqI c G hm hbd hgd (hr.mono (Nat.le_succ k))) snd_eqI ha hb (nomark _)
theorem ve_neI (R : RdyM X.prog X.w X.K X.mg X.base k C "__eq__" [] [] spd) (c : EqC X.K C) (hgd : X.A.guards = some []) (hr : Room (k + 1) X.A) (ha : VE X W a ta da) (hb : VE X W b tb db) :
    VE X W (.Compare a [.NotEq] [b] pos) (tOp (rNeI X.K C (lift X.K spd)) ta tb) (dOp (dEqI C spd (!·)) da db) := by
  obtain ⟨fa, fd, ps, ds0, G, hm, hbd, hd, _⟩ := R.ex
  cases hd
  exact ve_cmp (op_neI c G hm hbd hgd hr) snd_neI ha hb (nomark _)
/-! ### repr(x) by an own __repr__ -/
def rReprI (K : PySem.W.Frag) (C : Addr) (sp : Sp) : List V → Hp → VK → Prop := fun xs H Q => ∃ a dx fs, xs = [.ref a] ∧ H a = some (.ins C dx fs) ∧ sp [.ref a] H (fun v H' => ∃ z : Str, v = .str z ∧ Q v H') XN
theorem call_reprI (Fn : FnG X.prog X.w X.K X.mg X.base k f fd ps sp) (hm : Meth X.K C "__repr__" f) (hb : Binds X.K fd ps []) (hgd : X.A.guards = some []) (hr : Room (k + 1) X.A) : CallR X (.builtin "repr") (rReprI X.K C sp) := fun pins s σ H xs us Q I r h => by
  obtain ⟨a, dx, fs, rfl, ha, hq⟩ := h
  obtain ⟨u, rfl, ru⟩ := vals1 r
  cases ru
  obtain ⟨mA, J, _⟩ := ins_get I.hok ha
  obtain ⟨od, J, _⟩ := J.look
  obtain ⟨m, hF⟩ := I.fr
  refine PySem.W.repr_K hr.in1.units0 hF I.ok.mod.kin J hm.at_ hm.fn ?_
  refine wpAny_mono (runN (vs := [.ref a]) (A := X.A.in1) Fn hgd hr.in1 rfl hb I (.cons rfl .nil) hq) (fun r s' q => ?_) fun _ _ x => x
  obtain ⟨z, H', I', rz, y, rfl, q⟩ := q
  have rz0 := rz
  obtain ⟨t, rfl⟩ := rz
  exact ⟨.str y, H', I', rz0, q⟩
def dReprI (C : Addr) (spd : Spd) : RCd := fun ds S Q => match ds with
  | [.ref a] => (∃ fs, S a = some (.ins C fs)) ∧ spd [.ref a] S (fun d S' => match d with
    | .str z => Q (.str z) S'
    | _ => False) XF
  | _ => False
theorem snd_reprI : SndC X.K (rReprI X.K C (lift X.K spd)) (dReprI C spd) := fun {xs ds F H S Qd Q} hs r h hq => by
  unfold dReprI at h
  split at h
  · next a =>
    cases r with
    | cons r1 r2 =>
      cases r2
      obtain ⟨⟨fs, es⟩, h⟩ := h
      have r0 := r1
      cases r1
      obtain ⟨dxx, fv, e1, _⟩ := hs.at_ a _ es
      refine ⟨a, dxx, fv, rfl, e1, F, _, S, _, XF, hs, .cons r0 .nil, h, fun v H' d S' g r q => ?_, fun _ _ _ _ _ _ _ z => z.elim⟩
      dsimp only at q
      split at q
      · next z => cases r; exact ⟨z, rfl, hq _ H' _ S' g (.str _) q⟩
      · cases q
  · cases h
end
end VL

/-! VL: f-strings of texts, whole numbers, lists and tuples. -/
namespace VL
open PySem PySem.Spec PyProof.Rows L2
section
variable {X : Cx} {W : WX} {e : Expr} {te : TE} {de : TEd} {pos : Pos}
def tFmtD (K : PySem.W.Frag) (te : TE) : TE := fun σ H Q => te σ H fun x H1 => ((∃ y : Str, x = .str y ∧ y.length ≤ sizeLine ∧ Q (.str y) H1) ∨ ∃ i : Int, x = .int i ∧ i.natAbs.log2 < 1920 ∧ Q (.str (toString i)) H1) ∨
  ∃ a p, x = .ref a ∧ Dp K H1 (.ref a) p ∧ p.showable = true ∧ p.depth ≤ 64 ∧ p.shown.length ≤ sizeLine ∧ Q (.str p.shown) H1
theorem pe_fmtD (hgd : X.A.guards = some []) (hu : X.A.units + 66 < cLine) (he : PE X e te) : PE X (.FormattedValue e (-1) none pos) (tFmtD X.K te) := by
  refine ⟨fun pins s σ H Q I h => ?_⟩
  refine wpAny_FormattedValue_plain (thn (he.run pins s σ H _ I h) fun v s1 hv => ?_)
  obtain ⟨x, H1, I1, r1, q⟩ := hv
  rcases q with (⟨y, rfl, hz, q⟩ | ⟨i, rfl, hz, q⟩) | ⟨a, p, rfl, hd, h1, h2, h3, q⟩
  · obtain ⟨t, rfl⟩ := r1
    exact wpAny_formatField_str ⟨.str y, H1, I1, ⟨t, rfl⟩, q⟩ ⟨.str y, H1, I1.tok _, ⟨_, rfl⟩, q⟩ hz
  · obtain ⟨t, rfl⟩ := r1
    exact wpAny_formatField_int hz ⟨.str (toString i), H1, I1.tok _, ⟨_, rfl⟩, q⟩
  · obtain ⟨as, rd⟩ := Dp.reads I1 p _ _ hd r1
    cases r1
    exact formatField_of_reads rd h1 (PyData.noDict_hsm (dp_nodict.1 hd)) hgd (by omega) (fun _ _ e => e) (fun h' u tk hk => ⟨.str _, H1, I1.kept (t' := tk) hk, ⟨u, rfl⟩, q⟩) h3
def dFmt (de : TEd) : TEd := fun σ S Q E => de σ S (fun x S1 => match vw S1 x with
  | .str z => z.length ≤ sizeLine ∧ Q (.str z) S1
  | .int i => i.natAbs.log2 < 1920 ∧ Q (.str (toString i)) S1
  | .tup ds => match toP (.tup ds) with
    | some p => p.showable = true ∧ p.depth ≤ 64 ∧ p.shown.length ≤ sizeLine ∧ Q (.str p.shown) S1
    | none => False
  | _ => False) E
@[simp ↓] theorem z_dFmt {σ : Sd} {S : Sto} {Q : QD} {E : XD} : dFmt de σ S Q E = (de σ S (fun x S1 => match vw S1 x with
  | .str z => z.length ≤ sizeLine ∧ Q (.str z) S1
  | .int i => i.natAbs.log2 < 1920 ∧ Q (.str (toString i)) S1
  | .tup ds => match toP (.tup ds) with
    | some p => p.showable = true ∧ p.depth ≤ 64 ∧ p.shown.length ≤ sizeLine ∧ Q (.str p.shown) S1
    | none => False
  | _ => False) E) := rfl
theorem ve_fmtD (hgd : X.A.guards = some []) (hu : X.A.units + 66 < cLine) (he : VE X W e te de) : VE X W (.FormattedValue e (-1) none pos) (tFmtD X.K te) (dFmt de) := by
  refine ⟨pe_fmtD hgd hu he.run, fun {σV F H σ S Qd E Q} hs er h hq hx => ?_⟩
  refine he.snd hs er h (fun x H1 dx S1 g r h1 => ?_) hx
  split at h1
  · next z ez => exact .inl (.inl ⟨z, see_str r ez, h1.1, hq _ _ _ S1 g (.str _) h1.2⟩)
  · next i ei => exact .inl (.inr ⟨i, see_int r ei, h1.1, hq _ _ _ S1 g (.str _) h1.2⟩)
  · next ds ed =>
    split at h1
    · next p ep =>
      have hd := dp_vw g.hst r (by rw [ed]; exact ep)
      obtain ⟨_, a1, ys, rfl, _, _, _⟩ := see_tup r ed
      exact .inr ⟨a1, p, rfl, hd, h1.1, h1.2.1, h1.2.2.1, hq _ _ _ S1 g (.str _) h1.2.2.2⟩
    · cases h1
  · cases h1
/-- the parts' judgements -/
inductive VJ (X : Cx) (W : WX) : List Expr → List TE → List TEd → Prop where
  | nil : VJ X W [] [] []
  | cons {e : Expr} {t : TE} {d : TEd} {es : List Expr} {ts : List TE} {ds : List TEd} (h : VE X W e t d) (r : VJ X W es ts ds) : VJ X W (e :: es) (t :: ts) (d :: ds)
def dJs : List TEd → Str → Sd → Sto → (Str → Sto → Prop) → XD → Prop
  | [], acc, _, S, Q, _ => Q acc S
  | t :: ts, acc, σ, S, Q, E => t σ S (fun x S1 => match x with
    | .str y => (acc ++ y).length ≤ sizeLine ∧ dJs ts (acc ++ y) σ S1 Q E
    | _ => False) E
theorem VJ.pj {es : List Expr} {ts : List TE} {ds : List TEd} (h : VJ X W es ts ds) : PJ X es ts := by
  induction h with
  | nil => exact .nil
  | cons h r ih => exact .cons h.run ih
theorem snd_js {es : List Expr} {ts : List TE} {ds : List TEd} (h : VJ X W es ts ds) : ∀ {acc : Str} {σV : L2.St} {F H : Hp} {σ : Sd} {S : Sto} {Qd : Str → Sto → Prop} {E : XD} {Q : Str → Hp → Prop}, HSt X.K F H S → ER X.K (mask F S H) σV σ → dJs ds acc σ S Qd E →
    (∀ out H' S', Good X.K F H S H' S' → Qd out S' → Q out H') → LX X.K F W σV H S E → tJs ts acc σV H Q := by
  induction h with
  | nil =>
    intro acc σV F H σ S Qd E Q hs er h hq hx
    exact hq acc H S (.refl hs) h
  | @cons e t d es ts ds he r ih =>
    intro acc σV F H σ S Qd E Q hs er h hq hx
    refine he.snd (Q := fun x H1 => ∃ y : Str, x = .str y ∧ (acc ++ y).length ≤ sizeLine ∧ tJs ts (acc ++ y) σV H1 Q) hs er h (fun x H1 dx S1 g rx h1 => ?_) hx
    split at h1
    · next y =>
      cases rx
      exact ⟨y, rfl, h1.1, ih g.hst (er.mono g.same) h1.2 (fun out H' S' g' q => hq out H' S' (g.trans g') q) (hx.next g)⟩
    · cases h1
theorem ve_joined {v1 v2 : Expr} {rest : List Expr} {ts : List TE} {ds : List TEd} (h : VJ X W (v1 :: v2 :: rest) ts ds) :
    VE X W (.JoinedStr (v1 :: v2 :: rest) pos) (fun σ H Q => tJs ts Str.empty σ H fun out H1 => Q (.str out) H1) (fun σ S Q E => dJs ds Str.empty σ S (fun out S1 => Q (.str out) S1) E) :=
  ⟨pe_joined h.pj, fun {σV F H σ S Qd E Q} hs er hh hq hx => snd_js h hs er hh (fun out H' S' g q => hq _ H' _ S' g (.str _) q) hx⟩
def dFstr (ds : List TEd) : TEd := fun σ S Q E => dJs ds Str.empty σ S (fun out S1 => Q (.str out) S1) E
@[simp ↓] theorem z_dFstr {ds : List TEd} {σ : Sd} {S : Sto} {Q : QD} {E : XD} : dFstr ds σ S Q E = dJs ds Str.empty σ S (fun out S1 => Q (.str out) S1) E := rfl
@[simp ↓] theorem z_dJs0 {acc : Str} {σ : Sd} {S : Sto} {Q : Str → Sto → Prop} {E : XD} : dJs [] acc σ S Q E = Q acc S := rfl
@[simp ↓] theorem z_dJs {t : TEd} {ts : List TEd} {acc : Str} {σ : Sd} {S : Sto} {Q : Str → Sto → Prop} {E : XD} : dJs (t :: ts) acc σ S Q E = t σ S (fun x S1 => match x with
    | .str y => (acc ++ y).length ≤ sizeLine ∧ dJs ts (acc ++ y) σ S1 Q E
    | _ => False) E := rfl
theorem ve_fstr {v1 v2 : Expr} {rest : List Expr} {ts : List TE} {ds : List TEd} (h : VJ X W (v1 :: v2 :: rest) ts ds) :
    VE X W (.JoinedStr (v1 :: v2 :: rest) pos) (fun σ H Q => tJs ts Str.empty σ H fun out H1 => Q (.str out) H1) (dFstr ds) := ve_joined h
theorem ve_reprI {k : Nat} {C : Addr} {spd : Spd} {es : List Expr} {t : TA} {d : TAd} {p : Pos} (R : RdyM X.prog X.w X.K X.mg X.base k C "__repr__" [] [] spd) (hgd : X.A.guards = some []) (hr : Room (k + 1) X.A) (hm : X.mg "repr" = none) (ha : VA X W (e :: es) t d)
    (hg : Gl X "repr" := by rfl) (he : starEach (e :: es) X.env = (false, eval e X.env) :: starEach es X.env := by rfl) (hpl : (backTo pos (starEach es X.env)).any (·.1) = false := by rfl) :
    VE X W (.Call (.Name "repr" p) (e :: es) [] pos) (tCB (rReprI X.K C (lift X.K spd)) t) (dCB (dReprI C spd) d) := by
  obtain ⟨fa, fd, ps, ds0, G, hm2, hbd, hd, _⟩ := R.ex
  cases hd
  exact ve_cb snd_reprI (call_reprI G hm2 hbd hgd hr) hm ha hg (by decide +kernel) (by decide) (by decide) he hpl
end
@[simp ↓] theorem z_dEqI {C : Addr} {spd : Spd} {g : Bool → Bool} {x y : D} {S : Sto} {Q : QD} : dEqI C spd g x y S Q = (match x with
  | .ref a => (∃ fs, S a = some (.ins C fs)) ∧ besD S C y ∧ spd [x, y] S (fun d S' => match d with
    | .bl b => Q (.bl (g b)) S'
    | _ => False) XF
  | _ => False) := rfl
@[simp ↓] theorem z_dReprI {C : Addr} {spd : Spd} {ds : List D} {S : Sto} {Q : QD} : dReprI C spd ds S Q = (match ds with
  | [.ref a] => (∃ fs, S a = some (.ins C fs)) ∧ spd [.ref a] S (fun d S' => match d with
    | .str z => Q (.str z) S'
    | _ => False) XF
  | _ => False) := rfl
end VL

/-! VL: walking a list that may change, and does not meanwhile. -/
namespace VL
open PySem PySem.Spec PyProof.Rows L2 RZ
/-- J yields ds as long as P holds of the store -/
structure JP (K : PySem.W.Frag) (J : It) (ds : List D) (P : Sto → Prop) : Prop where
  go : ∀ (i : Nat) (F H : Hp) (S : Sto), HSt K F H S → P S → i < ds.length → J.go i H
  stop : ∀ (i : Nat) (F H : Hp) (S : Sto), HSt K F H S → P S → ds.length ≤ i → J.stop i H
  yld : ∀ (i : Nat) (F H : Hp) (S : Sto) (x : V) (H' : Hp) (d : D), HSt K F H S → P S → ds[i]? = some d → J.yld i H x H' → H' = H ∧ Rep K (mask F S H) x d
theorem jp_ref {K : PySem.W.Frag} {p : Addr} {ds : List D} : JP K (Itl K p) ds (fun S => S p = some (.lst ds)) where
  go := fun i F H S hs hp hi => by
    obtain ⟨a, xs, e, k, q⟩ := see_lst hs (.ref p) (vw_ref_lst hp)
    cases e
    have hl := q.length
    exact ⟨xs, xs[i]'(by omega), k, List.getElem?_eq_getElem _⟩
  stop := fun i F H S hs hp hi => by
    obtain ⟨a, xs, e, k, q⟩ := see_lst hs (.ref p) (vw_ref_lst hp)
    cases e
    exact ⟨xs, k, by rw [q.length]; exact hi⟩
  yld := fun i F H S x H' d hs hp hd y => by
    obtain ⟨e, y⟩ := y
    subst e
    obtain ⟨a, xs, e, k, q⟩ := see_lst hs (.ref p) (vw_ref_lst hp)
    cases e
    obtain ⟨v, hv, rv⟩ := q.get hd
    have e := y xs k
    rw [hv] at e; cases e
    exact ⟨rfl, rv⟩
def dForRL (P : Sto → Prop) (gd : TGd) (tb : TSd) (Z : EndsD) : List D → Sd → Sto → Prop
  | [], σ, S => P S ∧ Z.nx σ S
  | d :: ds, σ, S => P S ∧ gd d σ S fun σ1 S1 => tb { Z with nx := dForRL P gd tb Z ds, ct := dForRL P gd tb Z ds, bk := Z.nx } σ1 S1
def dForR (de : TEd) (gd : TGd) (tb : TSd) : TSd := fun D σ S => de σ S (fun x S1 => match x with
  | .ref p => match S1 p with
    | some (.lst ds) => dForRL (fun S => S p = some (.lst ds)) gd tb D ds σ S1
    | _ => False
  | _ => False) (D.ex σ)
section
variable {X : Cx} {W : WX} {pos : Pos} {te : TE} {de : TEd} {g : TG} {gd : TGd} {t : TS} {td : TSd} {vs : List Nat}
theorem snd_forR (hi : Snd X.K W te de) (hg : SndG X.K vs g gd) (hb : SndS X.K W t td) : SndS X.K W (tFor (iAny X.K te) g t) (dForR de gd td) := fun {σV F H0 σ S0 Dd D} hs er h l => by
  refine hi hs er h (fun v H1 dv S1 g1 rv h1 => ?_) (l.exs hs er)
  split at h1
  · next p =>
    cases rv
    split at h1
    · next ds es =>
      have jr : JP X.K (Itl X.K p) ds (fun S => S p = some (.lst ds)) := jp_ref
      obtain ⟨a0, xs0, e0, k0, q0⟩ := see_lst g1.hst (.ref p) (vw_ref_lst es)
      cases e0
      refine .inl ⟨_, rfl, ⟨_, k0⟩, ?_⟩
      let Iv : Nat → L2.St → Hp → Prop := fun i σV' H => ∃ (σ' : Sd) (S : Sto), Good X.K F H1 S1 H S ∧ ER X.K (mask F S H) σV' σ' ∧ dForRL (fun S => S p = some (.lst ds)) gd td Dd (ds.drop i) σ' S
      refine ⟨fun i m σV' H => m = ds.length - i ∧ i ≤ ds.length ∧ Iv i σV' H, ⟨ds.length, by simp, Nat.zero_le _, σ, S1, .refl g1.hst, er.mono g1.same, by simpa using h1⟩, ?_⟩
      rintro i m σV' H ⟨rfl, hi', σ', S, gg, er', hl⟩
      by_cases hlt : i < ds.length
      · have ed : ds.drop i = ds[i] :: ds.drop (i + 1) := List.drop_eq_getElem_cons hlt
        rw [ed] at hl
        obtain ⟨hp, hl⟩ := hl
        refine .inr ⟨jr.go i _ H S gg.hst hp hlt, Iv (i + 1), fun σ2 H' p' => ⟨ds.length - (i + 1), by omega, rfl, hlt, p'⟩, fun x H' y => ?_⟩
        obtain ⟨rfl, rx⟩ := jr.yld i _ H S x H' ds[i] gg.hst hp (List.getElem?_eq_getElem hlt) y
        refine hg gg.hst er' rx hl fun σ3 H3 σd3 S3 g3 er3 _ _ h3 => ?_
        have gg3 := gg.trans g3
        have ll := l.next (g1.trans gg3)
        exact hb g3.hst er3 h3 ⟨fun a b c d g4 er4 h4 => ⟨c, d, gg3.trans g4, er4, h4⟩, ll.rt, ll.nx, fun a b c d g4 er4 h4 => ⟨c, d, gg3.trans g4, er4, h4⟩, ll.ex⟩
      · have e : i = ds.length := by omega
        subst e
        rw [List.drop_of_length_le (Nat.le_refl _)] at hl
        obtain ⟨hp, hl⟩ := hl
        exact .inl ⟨jr.stop _ _ H S gg.hst hp (Nat.le_refl _), l.nx _ H _ S (g1.trans gg) er' hl⟩
    · cases h1
  · cases h1
theorem vs_forR {tg iter : Expr} {body : List Stmt} (hp : PassesOwn (model X.prog X.w) X.A X.env X.xe) (hc : X.calm = true) (hi : VE X W iter te de) (hg : VG X vs tg g gd) (hb : VSs X W body t td)
    (hs : ∀ x, foldedSetIterable iter X.env x = pure x := by intro _; rfl) : VS X W (.For tg iter body [] pos) (tFor (iAny X.K te) g t) (dForR de gd td) := ⟨ps_for hp hc (pi_any hi.run) hg.run hb.run hs, snd_forR hi.snd hg.snd hb.snd⟩
@[simp ↓] theorem z_dForR {D : EndsD} {σ : Sd} {S : Sto} : dForR de gd td D σ S = de σ S (fun x S1 => match x with
  | .ref p => match S1 p with
    | some (.lst ds) => dForRL (fun S => S p = some (.lst ds)) gd td D ds σ S1
    | _ => False
  | _ => False) (D.ex σ) := rfl
end
/-! ### comprehensions -/
def dLcRL (P : Sto → Prop) (gd : TGd) (dt : TTd) (de : TEd) (σ0 : Sd) (Q : List D → Sto → Prop) : List D → List D → Sto → Prop
  | [], acc, S => P S ∧ Q acc S
  | d :: ds, acc, S => P S ∧ gd d σ0 S fun σ1 S1 => dt σ1 S1 (fun b S2 => if b = true then de σ1 S2 (fun y S3 => dLcRL P gd dt de σ0 Q ds (acc ++ [y]) S3) XF else dLcRL P gd dt de σ0 Q ds acc S2) XF
def dLcR (d0 : TEd) (gd : TGd) (dt : TTd) (de : TEd) (vs : List Nat) : TEd := fun σ S Q E => d0 σ S (fun x S1 => match x with
  | .ref p => match S1 p with
    | some (.lst ds) => ds.length ≤ sizeLine ∧ dLcRL (fun S => S p = some (.lst ds)) gd dt de (wipeD σ vs) (fun acc S2 => Q (.lst acc) S2) ds [] S1
    | _ => False
  | _ => False) E
@[simp ↓] theorem z_dLcR {d0 : TEd} {gd : TGd} {dt : TTd} {de : TEd} {vs : List Nat} {σ : Sd} {S : Sto} {Q : QD} {E : XD} : dLcR d0 gd dt de vs σ S Q E = d0 σ S (fun x S1 => match x with
  | .ref p => match S1 p with
    | some (.lst ds) => ds.length ≤ sizeLine ∧ dLcRL (fun S => S p = some (.lst ds)) gd dt de (wipeD σ vs) (fun acc S2 => Q (.lst acc) S2) ds [] S1
    | _ => False
  | _ => False) E := rfl
section
variable {X : Cx} {W : WX} {pos : Pos} {K : PySem.W.Frag} {g : TG} {gd : TGd} {tt : TT} {dt : TTd} {te : TE} {de : TEd} {vs : List Nat}
theorem lc_runP {σV : L2.St} {F H1 : Hp} {σ : Sd} {S1 : Sto} {J : It} {ds : List D} {P : Sto → Prop} {Q : VK} {Qf : List D → Sto → Prop} (hg : SndG K vs g gd) (ht : SndT K WF tt dt) (he : Snd K WF te de)
    (hs : HSt K F H1 S1) (er : ER K (mask F S1 H1) σV σ) (jr : JP K J ds P) (hz : ds.length ≤ sizeLine) (h : dLcRL P gd dt de (wipeD σ vs) Qf ds [] S1)
    (fin : ∀ (Dp : Addr) (H : Hp) (S : Sto) (accV : List V) (acc : List D), H1 Dp = none → F Dp = none → S1 Dp = none → HSt K (upd F Dp (.lst accV)) H S → Same (mask F S1 H1) (mask (upd F Dp (.lst accV)) S H) → Reps K (mask (upd F Dp (.lst accV)) S H) accV acc → Qf acc S → Q (.ref Dp) H) :
    ∀ Dp, H1 Dp = none → ∃ Wv : Nat → Nat → Hp → Prop, (∃ m, Wv 0 m (upd H1 Dp (.lst []))) ∧ ∀ i m H, Wv i m H →
      (J.stop i H ∧ Q (.ref Dp) H) ∨ (J.go i H ∧ ∃ Nx : Hp → Prop, (∀ H', Nx H' → ∃ m', m' < m ∧ Wv (i + 1) m' H') ∧ ∀ x H', J.yld i H x H' → g x (wipe σV vs) H' fun σ2 H2 => wipe σ2 vs = wipe σV vs ∧ tt σ2 H2 fun b H3 =>
        if b = true then te σ2 H3 fun y H4 => ∃ acc, H4 Dp = some (.lst acc) ∧ acc.length < sizeLine ∧ Nx (upd H4 Dp (.lst (acc ++ [y]))) else Nx H3) := by
  intro Dp hD
  have fD := hs.freeF hD
  have sD := hs.free hD
  let Iv : Nat → Hp → Prop := fun i H => ∃ (S : Sto) (accV : List V) (acc : List D), HSt K (upd F Dp (.lst accV)) H S ∧ Same (mask F S1 H1) (mask (upd F Dp (.lst accV)) S H) ∧ Reps K (mask (upd F Dp (.lst accV)) S H) accV acc ∧ acc.length ≤ i ∧ dLcRL P gd dt de (wipeD σ vs) Qf (ds.drop i) acc S
  refine ⟨fun i m H => m = ds.length - i ∧ i ≤ ds.length ∧ Iv i H, ⟨ds.length, by simp, Nat.zero_le _, S1, [], [], hst_beside hs hD, mask_beside hs hD, .nil, Nat.le_refl _, by simpa using h⟩, ?_⟩
  rintro i m H ⟨rfl, hi, S, accV, acc, hh, sm, ra, la, hl⟩
  by_cases hlt : i < ds.length
  · have ed : ds.drop i = ds[i] :: ds.drop (i + 1) := List.drop_eq_getElem_cons hlt
    rw [ed] at hl
    obtain ⟨hp, hl⟩ := hl
    refine .inr ⟨jr.go i _ H S hh hp hlt, Iv (i + 1), fun H' p' => ⟨ds.length - (i + 1), by omega, rfl, hlt, p'⟩, fun x H' y => ?_⟩
    obtain ⟨rfl, rx⟩ := jr.yld i _ H S x H' ds[i] hh hp (List.getElem?_eq_getElem hlt) y
    refine hg hh ((er_wipe er vs).mono sm) rx hl fun σ2 H2 σd2 S2 g2 er2 l2 o2 h2 => ⟨wipe_eq (by rw [l2, wipe_length]) o2, ?_⟩
    refine ht g2.hst er2 h2 (fun b H3 S3 g3 h3 => ?_) lxF
    have g13 := g2.trans g3
    cases b with
    | false => exact ⟨S3, accV, acc, g3.hst, sm.trans g13.same, ra.mono g13.same, Nat.le_succ_of_le la, h3⟩
    | true =>
      refine he g3.hst (er2.mono g3.same) h3 (fun yv H4 yd S4 g4 r4 h4 => ?_) lxF
      have g14 := g13.trans g4
      have e4 := (g4.hst.side Dp _ upd_same).1
      have la' : accV.length < sizeLine := by rw [ra.length]; omega
      refine ⟨accV, e4, la', S4, accV ++ [yv], acc ++ [yd], hst_side_chg g4.hst, ?_, ?_, by rw [List.length_append, List.length_singleton]; omega, h4⟩
      · rw [mask_side_chg (u := .lst accV)]; exact sm.trans g14.same
      · rw [mask_side_chg (u := .lst accV)]; exact (ra.mono g14.same).append (.cons r4 .nil)
  · have e : i = ds.length := by omega
    subst e
    rw [List.drop_of_length_le (Nat.le_refl _)] at hl
    obtain ⟨hp, hl⟩ := hl
    exact .inl ⟨jr.stop _ _ H S hh hp (Nat.le_refl _), fin Dp H S accV acc hD fD sD hh sm ra hl⟩
theorem snd_lcR {t0 : TE} {d0 : TEd} (hi : Snd K W t0 d0) (hg : SndG K vs g gd) (ht : SndT K WF tt dt) (he : Snd K WF te de) : Snd K W (tLc (iAny K t0) g tt te vs) (dLcR d0 gd dt de vs) := fun {σV F H σ S Qd E Q} hs er h hq hx => by
  refine hi hs er h (fun v H1 dv S1 g1 rv h1 => ?_) hx
  split at h1
  · next p =>
    cases rv
    split at h1
    · next ds es =>
      obtain ⟨hz, h1⟩ := h1
      obtain ⟨a0, xs0, e0, k0, q0⟩ := see_lst g1.hst (.ref p) (vw_ref_lst es)
      cases e0
      refine .inl ⟨_, rfl, ⟨_, k0⟩, ?_⟩
      refine lc_runP hg ht he g1.hst (er.mono g1.same) jp_ref hz h1 fun Dp H2 S2 accV acc hD fD sD hh sm ra h2 => ?_
      have e2 := (hh.side Dp _ upd_same).1
      have s2 := (hh.side Dp _ upd_same).2
      have g2 : Good K F H S H2 S2 := ⟨hst_unside hh fD, g1.same.trans (sm.trans (same_unside fD))⟩
      exact hq _ H2 _ S2 g2 (.lst (SqL.of (by rw [mask_none s2 fD]; exact e2)) (ra.mono (same_unside fD))) h2
    · cases h1
  · cases h1
theorem ve_lcR {tg iter elt : Expr} {ifs : List Expr} {scope : Scope} {own : List (Str × Nat)} {t0 : TE} {d0 : TEd} (hc : X.calm = true) (hN : X.N.Nodup) (hi : VE X W iter t0 d0) (ok : BlkOk X.N X.env.scope scope own)
    (hg : BlkG X scope (own.map (·.2)) tg gd) (ht : BlkT X scope ifs dt) (he : BlkE X scope elt de) (hs : ∀ x, foldedSetIterable iter X.env x = pure x := by intro _; rfl) :
    VE X W (.ListComp elt [⟨tg, iter, ifs, 0⟩] scope pos) (tLc (iAny X.K t0) (gOf X.K (own.map (·.2)) gd) (tOfT X.K WF dt) (tOf X.K WF de) (own.map (·.2))) (dLcR d0 gd dt de (own.map (·.2))) := by
  have hg' := fun s H C cl fp => vg_of (hg s H C cl fp)
  have ht' := fun s H C cl fp => vts_of (ht s H C cl fp)
  have he' := fun s H C cl fp => ve_of (he s H C cl fp)
  exact ⟨pe_lc hc hN (pi_any hi.run) ok (fun s H C cl fp => (hg' s H C cl fp).run) (fun s H C cl fp => (ht' s H C cl fp).run) (fun s H C cl fp => (he' s H C cl fp).run) hs,
    snd_lcR hi.snd (hg' {} noH 0 [] []).snd (ht' {} noH 0 [] []).snd (he' {} noH 0 [] []).snd⟩
theorem vs_setLcR {j : Nat} {y : Str} {py spos : Pos} {tg iter elt : Expr} {ifs : List Expr} {scope : Scope} {own : List (Str × Nat)} {t0 : TE} {d0 : TEd} (hc : X.calm = true) (hN : X.N.Nodup) (hi : VE X W iter t0 d0) (ok : BlkOk X.N X.env.scope scope own)
    (hg : BlkG X scope (own.map (·.2)) tg gd) (ht : BlkT X scope ifs dt) (he : BlkE X scope elt de) (hy : X.N[j]? = some y := by rfl) (hyl : X.env.scope.names.lookup y = some .local := by rfl)
    (hk : X.env.scope.kind = .function := by rfl) (hln : (py.line == pos.line) = true := by rfl) (ha : (scope.names.any fun (n, k) => n == y && (k == .local || k == .cell)) = false := by rfl) (hl2 : spos.line = pos.line := by rfl) (hs : ∀ x, foldedSetIterable iter X.env x = pure x := by intro _; rfl) :
    VS X W (.Assign [.Name y py] (.ListComp elt [⟨tg, iter, ifs, 0⟩] scope pos) spos) (tAsg (tLc (iAny X.K t0) (gOf X.K (own.map (·.2)) gd) (tOfT X.K WF dt) (tOf X.K WF de) (own.map (·.2))) (gName j)) (dAsg (dLcR d0 gd dt de (own.map (·.2))) (hName j)) := by
  have hg' := fun s H C cl fp => vg_of (hg s H C cl fp)
  have ht' := fun s H C cl fp => vts_of (ht s H C cl fp)
  have he' := fun s H C cl fp => ve_of (he s H C cl fp)
  exact vs_set (ps_setLc hc hN hy hyl (sw_true hk hyl hln ha) (pi_any hi.run) ok (fun s H C cl fp => (hg' s H C cl fp).run) (fun s H C cl fp => (ht' s H C cl fp).run) (fun s H C cl fp => (he' s H C cl fp).run) hs)
    (snd_lcR hi.snd (hg' {} noH 0 [] []).snd (ht' {} noH 0 [] []).snd (he' {} noH 0 [] []).snd)
end
@[simp ↓] theorem z_dFrz {de : TEd} {σ : Sd} {S : Sto} {Q : QD} {E : XD} : dFrz de σ S Q E = de σ S (frz Q) E := rfl
theorem frz_new {S : Sto} {Q : QD} {p : Addr} {ds : List D} (hp : S p = none) (h : Q (.lst ds) S) : frz Q (.ref p) (put S p (.lst ds)) := by
  unfold frz
  simp only [put_same, era_put hp]
  exact h
section
variable {X : Cx} {W : WX} {k : Nat} {C : Addr} {spd : Spd} {a b : Expr} {ta tb : TE} {da db : TEd} {pos : Pos}
theorem vt_eqI (R : RdyM X.prog X.w X.K X.mg X.base k C "__eq__" [] [] spd) (c : EqC X.K C) (hgd : X.A.guards = some []) (hr : Room (k + 1) X.A) (ha : VE X W a ta da) (hb : VE X W b tb db) :
    VT X W (.Compare a [.Eq] [b] pos) (tTest (tOp (rEqI X.K C (lift X.K spd) id) ta tb)) (dTest (dOp (dEqI C spd id) da db)) := by
  obtain ⟨fa, fd, ps, ds0, G, hm, hbd, hd, _⟩ := R.ex
  cases hd
  exact vt_cmp (op_eqI c G hm hbd hgd (hr.mono (Nat.le_succ k))) snd_eqI ha hb (nomark _)
theorem vt_neI (R : RdyM X.prog X.w X.K X.mg X.base k C "__eq__" [] [] spd) (c : EqC X.K C) (hgd : X.A.guards = some []) (hr : Room (k + 1) X.A) (ha : VE X W a ta da) (hb : VE X W b tb db) :
    VT X W (.Compare a [.NotEq] [b] pos) (tTest (tOp (rNeI X.K C (lift X.K spd)) ta tb)) (dTest (dOp (dEqI C spd (!·)) da db)) := by
  obtain ⟨fa, fd, ps, ds0, G, hm, hbd, hd, _⟩ := R.ex
  cases hd
  exact vt_cmp (op_neI c G hm hbd hgd hr) snd_neI ha hb (nomark _)
end
end VL

namespace K30
open PySem PySem.Spec PyProof.Rows L2 VL
def top (i : Nat) : Stmt := PySem.Challenge.pw_panelwatch_k30_watches_copied_and_compar.main.body.getD i (.Pass ⟨0, 0, 0, 0⟩)
abbrev st_is_whole : Stmt := top 12
abbrev st_is_name : Stmt := top 13
abbrev st_is_time : Stmt := top 14
abbrev st_is_word : Stmt := top 17
abbrev st_is_rule : Stmt := top 18
abbrev st_is_beyond : Stmt := top 19
abbrev st_is_at_rest : Stmt := top 24
abbrev st_need_rule : Stmt := top 25
abbrev st_need_time : Stmt := top 26
abbrev st__law_cell_at : Stmt := top 29
abbrev st__law_row : Stmt := top 30
abbrev st__law_alike : Stmt := top 31
abbrev st__law_rule : Stmt := top 32
abbrev st__law_beyond : Stmt := top 33
abbrev st__law_rests : Stmt := top 34
abbrev st__law_model : Stmt := top 35
abbrev st__law_stands : Stmt := top 36
abbrev st_law : Stmt := top 37
abbrev st_Watch___init__ : Stmt := inClass (top 27) 0
abbrev st_Watch___eq__ : Stmt := inClass (top 27) 2
abbrev st_Watch___repr__ : Stmt := inClass (top 27) 3
abbrev st_Watch_marks_told : Stmt := inClass (top 27) 4
abbrev st_Watch_events : Stmt := inClass (top 27) 5
abbrev st_Watch_state : Stmt := inClass (top 27) 6
abbrev st_Watch_is_due : Stmt := inClass (top 27) 7
abbrev st_Watch_raise_now : Stmt := inClass (top 27) 8
abbrev st_Watch_end_now : Stmt := inClass (top 27) 9
abbrev st_Watch_come_to : Stmt := inClass (top 27) 10
abbrev st_Watch_need_later : Stmt := inClass (top 27) 11
abbrev st_Watch_hear : Stmt := inClass (top 27) 12
abbrev st_Watch_go_on : Stmt := inClass (top 27) 13
abbrev st_Watch_copied : Stmt := inClass (top 27) 14
/-- what is asked of the classes -/
structure Txt (K : PySem.W.Frag) (mg : Str → Option Value) : Prop where
  b_abs : mg "abs" = none
  b_all : mg "all" = none
  b_bool : mg "bool" = none
  b_dict : mg "dict" = none
  b_int : mg "int" = none
  b_isinstance : mg "isinstance" = none
  b_len : mg "len" = none
  b_list : mg "list" = none
  b_min : mg "min" = none
  b_range : mg "range" = none
  b_repr : mg "repr" = none
  b_str : mg "str" = none
  b_tuple : mg "tuple" = none
  c_MOST_TIME : ∃ t, mg "MOST_TIME" = some (.int 9999 t)
  c_MOST_LEVEL : ∃ t, mg "MOST_LEVEL" = some (.int 63 t)
  c_LETTERS : ∃ t, mg "LETTERS" = some (.str "abcdefghijklmnopqrstuvwxyz" t)
  c_QUIET : ∃ t, mg "QUIET" = some (.str "quiet" t)
  c_WAITS : ∃ t, mg "WAITS" = some (.str "waits" t)
  c_STANDS : ∃ t, mg "STANDS" = some (.str "stands" t)
  g_WORDS : mg "WORDS" = some (.ref (He.ga K "WORDS"))
  t_WORDS : ∀ M : Hp, Rep K M (.ref (He.ga K "WORDS")) (.tup [.str "above", .str "below"])
  o_Watch : mg "Watch" = some (.ref (He.ga K "Watch"))
  C_Watch : Cls K (He.ga K "Watch")
  a_Watch_last_time : NoAttr K (He.ga K "Watch") "last_time"
  a_Watch_last_worth : NoAttr K (He.ga K "Watch") "last_worth"
  a_Watch_own_events : NoAttr K (He.ga K "Watch") "own_events"
  a_Watch_own_rule : NoAttr K (He.ga K "Watch") "own_rule"
  a_Watch_own_word : NoAttr K (He.ga K "Watch") "own_word"
  a_Watch_word_since : NoAttr K (He.ga K "Watch") "word_since"
  E_Watch : EqC K (He.ga K "Watch")
variable {P : Program} {w : World} {K : PySem.W.Frag} {mg : Str → Option Value} {base : Heap}
theorem sc_is_whole : FnScope ["thing", "low", "high"] ["thing", "low", "high"] (defScope st_is_whole) := ⟨rfl, rfl, rfl, by decide +kernel, rfl, by decide +kernel, by decide +kernel⟩
def d_is_whole (K : PySem.W.Frag) : TSd := (dRet (dAndV (dCB dIsi (dCons (dVar 0) (dCons (dC (.ty "int")) dNil))) (dAndV (dNotV (dCB dIsi (dCons (dVar 0) (dCons (dC (.ty "bool")) dNil)))) (dChain dLe dLe (dVar 1) (dVar 0) (dVar 2)))))
theorem w_is_whole {k : Nat} {f : Addr} {cdv : Value} {A : Around} {outer : List Env} {s : Shared} {H : Hp} {E : XK} (T : Txt K mg) (hgd : A.guards = some []) (hr : Room k (A.deeper (envOfC "is_whole" (defScope st_is_whole) s.heap.objs.size f cdv))) :
    ∃ t, VSs (cxOf (L2.CX P w) P w K mg base ["thing", "low", "high"] "is_whole" (defScope st_is_whole) f cdv A outer s H E) (wDef E) (defBody st_is_whole) t (d_is_whole K) :=
  have hu1 := room1 hr
  have hu64 := hr.units
  have hu66 := room66 hr
  ⟨_, by exact (vss_one (vs_ret (ve_and (ve_cb snd_isi call_isA T.b_isinstance (va_cons (ve_v 0) (va_cons (ve_ty T.b_int VL.boot_int) va_nil))) (ve_and (ve_not (ve_cb snd_isi call_isA T.b_isinstance (va_cons (ve_v 0) (va_cons (ve_ty T.b_bool VL.boot_bool) va_nil)))) (ve_one (ve_chain op_le snd_iCmp op_le snd_iCmp (ve_v 1) (ve_v 0) (ve_v 2)))))))⟩
/-- what is left to be shown of is_whole: BodyOk -/
theorem g_is_whole {k : Nat} {f : Addr} {fd : FuncData} {s_ : Spd} (T : Txt K mg) (Fd : FunD K "is_whole" "is_whole" (defArgs st_is_whole) (defBody st_is_whole) (defScope st_is_whole) [] [] f fd)
    (len : ∀ ds S Q E, s_ ds S Q E → ds.length = 3) (ok : BodyOk (d_is_whole K) ["thing", "low", "high"] s_) : FnG P w K mg base (k + 1) f fd ["thing", "low", "high"] (lift K s_) :=
  def_ok Fd sc_is_whole len fun cdv A outer s H E hgd hr => (w_is_whole T hgd hr ).elim fun t v => ⟨t, _, v, ok⟩
theorem r_is_whole {k : Nat} {f : Addr} {fd : FuncData} {s_ : Spd} (T : Txt K mg) (hm : mg "is_whole" = some (.ref f)) (Fd : FunD K "is_whole" "is_whole" (defArgs st_is_whole) (defBody st_is_whole) (defScope st_is_whole) [] [] f fd)
    (len : ∀ ds S Q E, s_ ds S Q E → ds.length = 3) (ok : BodyOk (d_is_whole K) ["thing", "low", "high"] s_) : Rdy P w K mg base (k + 1) "is_whole" [] [] s_ :=
  rdy_of (g_is_whole T Fd  len ok) hm Fd.kp (Fd.bindsN fun _ _ _ _ _ _ us hl => match us, hl with | [_, _, _], _ => rfl)
theorem sc_is_name : FnScope ["thing", "sign"] ["thing"] (defScope st_is_name) := ⟨rfl, rfl, rfl, by decide +kernel, rfl, by decide +kernel, by decide +kernel⟩
def d_is_name (K : PySem.W.Frag) : TSd := (dRet (dAndV (dCB dIsi (dCons (dVar 0) (dCons (dC (.ty "str")) dNil))) (dAndV (dChain dLe dLe (dC (.int 1)) (dCB dLen (dCons (dVar 0) dNil)) (dC (.int 8))) (dCB dAll (dCons (dLc (nAny (dVar 0)) (hName 1) dYes (dOp (dInG id) (dVar 1) (dC (.str "abcdefghijklmnopqrstuvwxyz"))) [1]) dNil)))))
theorem w_is_name {k : Nat} {f : Addr} {cdv : Value} {A : Around} {outer : List Env} {s : Shared} {H : Hp} {E : XK} (T : Txt K mg) (hgd : A.guards = some []) (hr : Room k (A.deeper (envOfC "is_name" (defScope st_is_name) s.heap.objs.size f cdv))) :
    ∃ t, VSs (cxOf (L2.CX P w) P w K mg base ["thing", "sign"] "is_name" (defScope st_is_name) f cdv A outer s H E) (wDef E) (defBody st_is_name) t (d_is_name K) :=
  have hu1 := room1 hr
  have hu64 := hr.units
  have hu66 := room66 hr
  ⟨_, by exact (vss_one (vs_ret (ve_and (ve_cb snd_isi call_isA T.b_isinstance (va_cons (ve_v 0) (va_cons (ve_ty T.b_str VL.boot_str) va_nil))) (ve_and (ve_chain op_le snd_iCmp op_le snd_iCmp ve_int (ve_cb snd_len call_lenA T.b_len (va_cons (ve_v 0) va_nil)) ve_int) (ve_one (ve_cb snd_all (cr_all rfl) T.b_all (va_cons (ve_lcX (own := [("sign", 1)]) rfl sc_is_name.nd (vi_any (ve_v 0)) (blkOk_by (N := ["thing", "sign"]) (sc := defScope st_is_name) (own := [("sign", 1)]) (by decide +kernel)) (fun _ _ _ _ _ => ⟨_, (vg_n sc_is_name.nd)⟩) (fun _ _ _ _ _ => ⟨_, vts_nil⟩) (fun _ _ _ _ _ => ⟨_, (ve_in hu1 (ve_v 1) (ve_gs T.c_LETTERS))⟩)) va_nil)))))))⟩
/-- what is left to be shown of is_name: BodyOk -/
theorem g_is_name {k : Nat} {f : Addr} {fd : FuncData} {s_ : Spd} (T : Txt K mg) (Fd : FunD K "is_name" "is_name" (defArgs st_is_name) (defBody st_is_name) (defScope st_is_name) [] [] f fd)
    (len : ∀ ds S Q E, s_ ds S Q E → ds.length = 1) (ok : BodyOk (d_is_name K) ["thing", "sign"] s_) : FnG P w K mg base (k + 1) f fd ["thing"] (lift K s_) :=
  def_ok Fd sc_is_name len fun cdv A outer s H E hgd hr => (w_is_name T hgd hr ).elim fun t v => ⟨t, _, v, ok⟩
theorem r_is_name {k : Nat} {f : Addr} {fd : FuncData} {s_ : Spd} (T : Txt K mg) (hm : mg "is_name" = some (.ref f)) (Fd : FunD K "is_name" "is_name" (defArgs st_is_name) (defBody st_is_name) (defScope st_is_name) [] [] f fd)
    (len : ∀ ds S Q E, s_ ds S Q E → ds.length = 1) (ok : BodyOk (d_is_name K) ["thing", "sign"] s_) : Rdy P w K mg base (k + 1) "is_name" [] [] s_ :=
  rdy_of (g_is_name T Fd  len ok) hm Fd.kp (Fd.bindsN fun _ _ _ _ _ _ us hl => match us, hl with | [_], _ => rfl)
theorem sc_is_time : FnScope ["thing"] ["thing"] (defScope st_is_time) := ⟨rfl, rfl, rfl, by decide +kernel, rfl, by decide +kernel, by decide +kernel⟩
def d_is_time (K : PySem.W.Frag) (s_is_whole : Spd) : TSd := (dRet (dCall s_is_whole [] (dCons (dVar 0) (dCons (dC (.int 0)) (dCons (dC (.int 9999)) dNil)))))
theorem w_is_time {k : Nat} {f : Addr} {cdv : Value} {A : Around} {outer : List Env} {s : Shared} {H : Hp} {E : XK} {s_is_whole : Spd} (T : Txt K mg) (hgd : A.guards = some []) (hr : Room k (A.deeper (envOfC "is_time" (defScope st_is_time) s.heap.objs.size f cdv))) (R_is_whole : Rdy P w K mg base k "is_whole" [] [] s_is_whole) :
    ∃ t, VSs (cxOf (L2.CX P w) P w K mg base ["thing"] "is_time" (defScope st_is_time) f cdv A outer s H E) (wDef E) (defBody st_is_time) t (d_is_time K s_is_whole) :=
  have hu1 := room1 hr
  have hu64 := hr.units
  have hu66 := room66 hr
  ⟨_, by exact (vss_one (vs_ret (ve_callR R_is_whole hgd hr (takes_of rfl rfl rfl rfl) (va_cons (ve_v 0) (va_cons ve_int (va_cons (ve_gi T.c_MOST_TIME) va_nil))))))⟩
/-- what is left to be shown of is_time: BodyOk -/
theorem g_is_time {k : Nat} {f : Addr} {fd : FuncData} {s_ : Spd} {s_is_whole : Spd} (T : Txt K mg) (Fd : FunD K "is_time" "is_time" (defArgs st_is_time) (defBody st_is_time) (defScope st_is_time) [] [] f fd) (R_is_whole : Rdy P w K mg base k "is_whole" [] [] s_is_whole)
    (len : ∀ ds S Q E, s_ ds S Q E → ds.length = 1) (ok : BodyOk (d_is_time K s_is_whole) ["thing"] s_) : FnG P w K mg base (k + 1) f fd ["thing"] (lift K s_) :=
  def_ok Fd sc_is_time len fun cdv A outer s H E hgd hr => (w_is_time T hgd hr R_is_whole).elim fun t v => ⟨t, _, v, ok⟩
theorem r_is_time {k : Nat} {f : Addr} {fd : FuncData} {s_ : Spd} {s_is_whole : Spd} (T : Txt K mg) (hm : mg "is_time" = some (.ref f)) (Fd : FunD K "is_time" "is_time" (defArgs st_is_time) (defBody st_is_time) (defScope st_is_time) [] [] f fd) (R_is_whole : Rdy P w K mg base k "is_whole" [] [] s_is_whole)
    (len : ∀ ds S Q E, s_ ds S Q E → ds.length = 1) (ok : BodyOk (d_is_time K s_is_whole) ["thing"] s_) : Rdy P w K mg base (k + 1) "is_time" [] [] s_ :=
  rdy_of (g_is_time T Fd R_is_whole len ok) hm Fd.kp (Fd.bindsN fun _ _ _ _ _ _ us hl => match us, hl with | [_], _ => rfl)
theorem sc_is_word : FnScope ["thing", "words"] ["thing", "words"] (defScope st_is_word) := ⟨rfl, rfl, rfl, by decide +kernel, rfl, by decide +kernel, by decide +kernel⟩
def d_is_word (K : PySem.W.Frag) : TSd := (dRet (dAndV (dCB dIsi (dCons (dVar 0) (dCons (dC (.ty "str")) dNil))) (dOp (dInG id) (dVar 0) (dVar 1))))
theorem w_is_word {k : Nat} {f : Addr} {cdv : Value} {A : Around} {outer : List Env} {s : Shared} {H : Hp} {E : XK} (T : Txt K mg) (hgd : A.guards = some []) (hr : Room k (A.deeper (envOfC "is_word" (defScope st_is_word) s.heap.objs.size f cdv))) :
    ∃ t, VSs (cxOf (L2.CX P w) P w K mg base ["thing", "words"] "is_word" (defScope st_is_word) f cdv A outer s H E) (wDef E) (defBody st_is_word) t (d_is_word K) :=
  have hu1 := room1 hr
  have hu64 := hr.units
  have hu66 := room66 hr
  ⟨_, by exact (vss_one (vs_ret (ve_and (ve_cb snd_isi call_isA T.b_isinstance (va_cons (ve_v 0) (va_cons (ve_ty T.b_str VL.boot_str) va_nil))) (ve_one (ve_in hu1 (ve_v 0) (ve_v 1))))))⟩
/-- what is left to be shown of is_word: BodyOk -/
theorem g_is_word {k : Nat} {f : Addr} {fd : FuncData} {s_ : Spd} (T : Txt K mg) (Fd : FunD K "is_word" "is_word" (defArgs st_is_word) (defBody st_is_word) (defScope st_is_word) [] [] f fd)
    (len : ∀ ds S Q E, s_ ds S Q E → ds.length = 2) (ok : BodyOk (d_is_word K) ["thing", "words"] s_) : FnG P w K mg base (k + 1) f fd ["thing", "words"] (lift K s_) :=
  def_ok Fd sc_is_word len fun cdv A outer s H E hgd hr => (w_is_word T hgd hr ).elim fun t v => ⟨t, _, v, ok⟩
theorem r_is_word {k : Nat} {f : Addr} {fd : FuncData} {s_ : Spd} (T : Txt K mg) (hm : mg "is_word" = some (.ref f)) (Fd : FunD K "is_word" "is_word" (defArgs st_is_word) (defBody st_is_word) (defScope st_is_word) [] [] f fd)
    (len : ∀ ds S Q E, s_ ds S Q E → ds.length = 2) (ok : BodyOk (d_is_word K) ["thing", "words"] s_) : Rdy P w K mg base (k + 1) "is_word" [] [] s_ :=
  rdy_of (g_is_word T Fd  len ok) hm Fd.kp (Fd.bindsN fun _ _ _ _ _ _ us hl => match us, hl with | [_, _], _ => rfl)
theorem sc_is_rule : FnScope ["thing", "bounds", "number", "low", "high"] ["thing"] (defScope st_is_rule) := ⟨rfl, rfl, rfl, by decide +kernel, rfl, by decide +kernel, by decide +kernel⟩
def d_is_rule (K : PySem.W.Frag) (s_is_word : Spd) (s_is_name : Spd) (s_is_whole : Spd) : TSd := (dSeq (dIf (dOrT (dNotT (dTest (dCB dIsi (dCons (dVar 0) (dCons (dC (.ty "tuple")) dNil))))) (dTest (dOp dNe (dCB dLen (dCons (dVar 0) dNil)) (dC (.int 7))))) (dRet (dC (.bl false))) dNext) (dSeq (dIf (dOrT (dNotT (dTest (dCall s_is_name [] (dCons (dOp dIx (dVar 0) (dC (.int 0))) dNil)))) (dOrT (dNotT (dTest (dCall s_is_name [] (dCons (dOp dIx (dVar 0) (dC (.int 1))) dNil)))) (dNotT (dTest (dCall s_is_word [] (dCons (dOp dIx (dVar 0) (dC (.int 2))) (dCons (dC (.tup [.str "above", .str "below"])) dNil))))))) (dRet (dC (.bl false))) dNext) (dSeq (dAsg (dLst (dCons (dTup (dCons (dOp dIx (dVar 0) (dC (.int 3))) (dCons (dC (.int 0)) (dCons (dC (.int 63)) dNil)))) (dCons (dTup (dCons (dOp dIx (dVar 0) (dC (.int 4))) (dCons (dC (.int 0)) (dCons (dC (.int 63)) dNil)))) (dCons (dTup (dCons (dOp dIx (dVar 0) (dC (.int 5))) (dCons (dC (.int 0)) (dCons (dC (.int 99)) dNil)))) (dCons (dTup (dCons (dOp dIx (dVar 0) (dC (.int 6))) (dCons (dC (.int 1)) (dCons (dC (.int 3)) dNil)))) dNil))))) (hName 1)) (dRet (dCB dAll (dCons (dLc (nAny (dVar 1)) (hTup 3 (hCons (hName 2) (hCons (hName 3) (hCons (hName 4) hNil)))) dYes (dCall s_is_whole [] (dCons (dVar 2) (dCons (dVar 3) (dCons (dVar 4) dNil)))) [2, 3, 4]) dNil))))))
theorem w_is_rule {k : Nat} {f : Addr} {cdv : Value} {A : Around} {outer : List Env} {s : Shared} {H : Hp} {E : XK} {s_is_word : Spd} {s_is_name : Spd} {s_is_whole : Spd} (T : Txt K mg) (hgd : A.guards = some []) (hr : Room k (A.deeper (envOfC "is_rule" (defScope st_is_rule) s.heap.objs.size f cdv))) (R_is_word : Rdy P w K mg base k "is_word" [] [] s_is_word) (R_is_name : Rdy P w K mg base k "is_name" [] [] s_is_name) (R_is_whole : Rdy P w K mg base k "is_whole" [] [] s_is_whole) :
    ∃ t, VSs (cxOf (L2.CX P w) P w K mg base ["thing", "bounds", "number", "low", "high"] "is_rule" (defScope st_is_rule) f cdv A outer s H E) (wDef E) (defBody st_is_rule) t (d_is_rule K s_is_word s_is_name s_is_whole) :=
  have hu1 := room1 hr
  have hu64 := hr.units
  have hu66 := room66 hr
  ⟨_, by exact (vss_cons (vs_if (vt_w (vw_or (vt_not (vt_val (ve_cb snd_isi call_isA T.b_isinstance (va_cons (ve_v 0) (va_cons (ve_ty T.b_tuple VL.boot_tuple) va_nil))))) (vw_or1 (vt_ne hu64 (ve_cb snd_len call_lenA T.b_len (va_cons (ve_v 0) va_nil)) ve_int)))) (vss_one (vs_ret ve_bl)) vss_nil) (vss_cons (vs_if (vt_w (vw_or (vt_not (vt_val (ve_callR R_is_name hgd hr (takes_of rfl rfl rfl rfl) (va_cons (ve_item hu1 (ve_v 0) ve_int) va_nil)))) (vw_or (vt_not (vt_val (ve_callR R_is_name hgd hr (takes_of rfl rfl rfl rfl) (va_cons (ve_item hu1 (ve_v 0) ve_int) va_nil)))) (vw_or1 (vt_not (vt_val (ve_callR R_is_word hgd hr (takes_of rfl rfl rfl rfl) (va_cons (ve_item hu1 (ve_v 0) ve_int) (va_cons (ve_go T.g_WORDS T.t_WORDS) va_nil))))))))) (vss_one (vs_ret ve_bl)) vss_nil) (vss_cons (vs_name sc_is_rule.nd (ve_lst (va_cons (ve_tup (va_cons (ve_item hu1 (ve_v 0) ve_int) (va_cons ve_int (va_cons (ve_gi T.c_MOST_LEVEL) va_nil)))) (va_cons (ve_tup (va_cons (ve_item hu1 (ve_v 0) ve_int) (va_cons ve_int (va_cons (ve_gi T.c_MOST_LEVEL) va_nil)))) (va_cons (ve_tup (va_cons (ve_item hu1 (ve_v 0) ve_int) (va_cons ve_int (va_cons ve_int va_nil)))) (va_cons (ve_tup (va_cons (ve_item hu1 (ve_v 0) ve_int) (va_cons ve_int (va_cons ve_int va_nil)))) va_nil)))))) (vss_one (vs_ret (ve_cb snd_all (cr_all rfl) T.b_all (va_cons (ve_lcX (own := [("number", 2), ("low", 3), ("high", 4)]) rfl sc_is_rule.nd (vi_any (ve_v 1)) (blkOk_by (N := ["thing", "bounds", "number", "low", "high"]) (sc := defScope st_is_rule) (own := [("number", 2), ("low", 3), ("high", 4)]) (by decide +kernel)) (fun _ _ _ _ _ => ⟨_, (vg_tup rfl (vgs_cons (vg_n sc_is_rule.nd) (vgs_cons (vg_n sc_is_rule.nd) (vgs_cons (vg_n sc_is_rule.nd) vgs_nil))))⟩) (fun _ _ _ _ _ => ⟨_, vts_nil⟩) (fun _ _ _ _ _ => ⟨_, (ve_callR R_is_whole hgd hr takes0 (va_cons (ve_v 2) (va_cons (ve_v 3) (va_cons (ve_v 4) va_nil))))⟩)) va_nil)))))))⟩
/-- what is left to be shown of is_rule: BodyOk -/
theorem g_is_rule {k : Nat} {f : Addr} {fd : FuncData} {s_ : Spd} {s_is_word : Spd} {s_is_name : Spd} {s_is_whole : Spd} (T : Txt K mg) (Fd : FunD K "is_rule" "is_rule" (defArgs st_is_rule) (defBody st_is_rule) (defScope st_is_rule) [] [] f fd) (R_is_word : Rdy P w K mg base k "is_word" [] [] s_is_word) (R_is_name : Rdy P w K mg base k "is_name" [] [] s_is_name) (R_is_whole : Rdy P w K mg base k "is_whole" [] [] s_is_whole)
    (len : ∀ ds S Q E, s_ ds S Q E → ds.length = 1) (ok : BodyOk (d_is_rule K s_is_word s_is_name s_is_whole) ["thing", "bounds", "number", "low", "high"] s_) : FnG P w K mg base (k + 1) f fd ["thing"] (lift K s_) :=
  def_ok Fd sc_is_rule len fun cdv A outer s H E hgd hr => (w_is_rule T hgd hr R_is_word R_is_name R_is_whole).elim fun t v => ⟨t, _, v, ok⟩
theorem r_is_rule {k : Nat} {f : Addr} {fd : FuncData} {s_ : Spd} {s_is_word : Spd} {s_is_name : Spd} {s_is_whole : Spd} (T : Txt K mg) (hm : mg "is_rule" = some (.ref f)) (Fd : FunD K "is_rule" "is_rule" (defArgs st_is_rule) (defBody st_is_rule) (defScope st_is_rule) [] [] f fd) (R_is_word : Rdy P w K mg base k "is_word" [] [] s_is_word) (R_is_name : Rdy P w K mg base k "is_name" [] [] s_is_name) (R_is_whole : Rdy P w K mg base k "is_whole" [] [] s_is_whole)
    (len : ∀ ds S Q E, s_ ds S Q E → ds.length = 1) (ok : BodyOk (d_is_rule K s_is_word s_is_name s_is_whole) ["thing", "bounds", "number", "low", "high"] s_) : Rdy P w K mg base (k + 1) "is_rule" [] [] s_ :=
  rdy_of (g_is_rule T Fd R_is_word R_is_name R_is_whole len ok) hm Fd.kp (Fd.bindsN fun _ _ _ _ _ _ us hl => match us, hl with | [_], _ => rfl)
theorem sc_is_beyond : FnScope ["word", "limit", "worth"] ["word", "limit", "worth"] (defScope st_is_beyond) := ⟨rfl, rfl, rfl, by decide +kernel, rfl, by decide +kernel, by decide +kernel⟩
def d_is_beyond (K : PySem.W.Frag) : TSd := (dRet (dIfE (dTest (dOp dEq (dVar 0) (dC (.str "above")))) (dOp dGt (dVar 2) (dVar 1)) (dOp dLt (dVar 2) (dVar 1))))
theorem w_is_beyond {k : Nat} {f : Addr} {cdv : Value} {A : Around} {outer : List Env} {s : Shared} {H : Hp} {E : XK} (T : Txt K mg) (hgd : A.guards = some []) (hr : Room k (A.deeper (envOfC "is_beyond" (defScope st_is_beyond) s.heap.objs.size f cdv))) :
    ∃ t, VSs (cxOf (L2.CX P w) P w K mg base ["word", "limit", "worth"] "is_beyond" (defScope st_is_beyond) f cdv A outer s H E) (wDef E) (defBody st_is_beyond) t (d_is_beyond K) :=
  have hu1 := room1 hr
  have hu64 := hr.units
  have hu66 := room66 hr
  ⟨_, by exact (vss_one (vs_ret (ve_ifE (vt_eq hu64 (ve_v 0) ve_str) (ve_gt (ve_v 2) (ve_v 1)) (ve_lt (ve_v 2) (ve_v 1)))))⟩
/-- what is left to be shown of is_beyond: BodyOk -/
theorem g_is_beyond {k : Nat} {f : Addr} {fd : FuncData} {s_ : Spd} (T : Txt K mg) (Fd : FunD K "is_beyond" "is_beyond" (defArgs st_is_beyond) (defBody st_is_beyond) (defScope st_is_beyond) [] [] f fd)
    (len : ∀ ds S Q E, s_ ds S Q E → ds.length = 3) (ok : BodyOk (d_is_beyond K) ["word", "limit", "worth"] s_) : FnG P w K mg base (k + 1) f fd ["word", "limit", "worth"] (lift K s_) :=
  def_ok Fd sc_is_beyond len fun cdv A outer s H E hgd hr => (w_is_beyond T hgd hr ).elim fun t v => ⟨t, _, v, ok⟩
theorem r_is_beyond {k : Nat} {f : Addr} {fd : FuncData} {s_ : Spd} (T : Txt K mg) (hm : mg "is_beyond" = some (.ref f)) (Fd : FunD K "is_beyond" "is_beyond" (defArgs st_is_beyond) (defBody st_is_beyond) (defScope st_is_beyond) [] [] f fd)
    (len : ∀ ds S Q E, s_ ds S Q E → ds.length = 3) (ok : BodyOk (d_is_beyond K) ["word", "limit", "worth"] s_) : Rdy P w K mg base (k + 1) "is_beyond" [] [] s_ :=
  rdy_of (g_is_beyond T Fd  len ok) hm Fd.kp (Fd.bindsN fun _ _ _ _ _ _ us hl => match us, hl with | [_, _, _], _ => rfl)
theorem sc_is_at_rest : FnScope ["rule", "worth", "word", "limit", "back"] ["rule", "worth"] (defScope st_is_at_rest) := ⟨rfl, rfl, rfl, by decide +kernel, rfl, by decide +kernel, by decide +kernel⟩
def d_is_at_rest (K : PySem.W.Frag) : TSd := (dSeq (dAsg (dSlice (dVar 0) (dPart (dC (.int 2))) (dPart (dC (.int 5)))) (hTup 3 (hCons (hName 2) (hCons (hName 3) (hCons (hName 4) hNil))))) (dRet (dIfE (dTest (dOp dEq (dVar 2) (dC (.str "above")))) (dOp dLe (dVar 1) (dOp dSub (dVar 3) (dVar 4))) (dOp dGe (dVar 1) (dOp dAdd (dVar 3) (dVar 4))))))
theorem w_is_at_rest {k : Nat} {f : Addr} {cdv : Value} {A : Around} {outer : List Env} {s : Shared} {H : Hp} {E : XK} (T : Txt K mg) (hgd : A.guards = some []) (hr : Room k (A.deeper (envOfC "is_at_rest" (defScope st_is_at_rest) s.heap.objs.size f cdv))) :
    ∃ t, VSs (cxOf (L2.CX P w) P w K mg base ["rule", "worth", "word", "limit", "back"] "is_at_rest" (defScope st_is_at_rest) f cdv A outer s H E) (wDef E) (defBody st_is_at_rest) t (d_is_at_rest K) :=
  have hu1 := room1 hr
  have hu64 := hr.units
  have hu66 := room66 hr
  ⟨_, by exact (vss_cons (vs_asg (vs := [2, 3, 4]) (ve_slice (ve_v 0) (vo_some ve_int) (vo_some ve_int)) (vg_tup rfl (vgs_cons (vg_n sc_is_at_rest.nd) (vgs_cons (vg_n sc_is_at_rest.nd) (vgs_cons (vg_n sc_is_at_rest.nd) vgs_nil))))) (vss_one (vs_ret (ve_ifE (vt_eq hu64 (ve_v 2) ve_str) (ve_le (ve_v 1) (ve_sub (ve_v 3) (ve_v 4))) (ve_ge (ve_v 1) (ve_add (ve_v 3) (ve_v 4)))))))⟩
/-- what is left to be shown of is_at_rest: BodyOk -/
theorem g_is_at_rest {k : Nat} {f : Addr} {fd : FuncData} {s_ : Spd} (T : Txt K mg) (Fd : FunD K "is_at_rest" "is_at_rest" (defArgs st_is_at_rest) (defBody st_is_at_rest) (defScope st_is_at_rest) [] [] f fd)
    (len : ∀ ds S Q E, s_ ds S Q E → ds.length = 2) (ok : BodyOk (d_is_at_rest K) ["rule", "worth", "word", "limit", "back"] s_) : FnG P w K mg base (k + 1) f fd ["rule", "worth"] (lift K s_) :=
  def_ok Fd sc_is_at_rest len fun cdv A outer s H E hgd hr => (w_is_at_rest T hgd hr ).elim fun t v => ⟨t, _, v, ok⟩
theorem r_is_at_rest {k : Nat} {f : Addr} {fd : FuncData} {s_ : Spd} (T : Txt K mg) (hm : mg "is_at_rest" = some (.ref f)) (Fd : FunD K "is_at_rest" "is_at_rest" (defArgs st_is_at_rest) (defBody st_is_at_rest) (defScope st_is_at_rest) [] [] f fd)
    (len : ∀ ds S Q E, s_ ds S Q E → ds.length = 2) (ok : BodyOk (d_is_at_rest K) ["rule", "worth", "word", "limit", "back"] s_) : Rdy P w K mg base (k + 1) "is_at_rest" [] [] s_ :=
  rdy_of (g_is_at_rest T Fd  len ok) hm Fd.kp (Fd.bindsN fun _ _ _ _ _ _ us hl => match us, hl with | [_, _], _ => rfl)
theorem sc_need_rule : FnScope ["thing"] ["thing"] (defScope st_need_rule) := ⟨rfl, rfl, rfl, by decide +kernel, rfl, by decide +kernel, by decide +kernel⟩
def d_need_rule (K : PySem.W.Frag) (s_is_rule : Spd) : TSd := (dIf (dNotT (dTest (dCall s_is_rule [] (dCons (dVar 0) dNil)))) dNever dNext)
theorem w_need_rule {k : Nat} {f : Addr} {cdv : Value} {A : Around} {outer : List Env} {s : Shared} {H : Hp} {E : XK} {s_is_rule : Spd} (T : Txt K mg) (hgd : A.guards = some []) (hr : Room k (A.deeper (envOfC "need_rule" (defScope st_need_rule) s.heap.objs.size f cdv))) (R_is_rule : Rdy P w K mg base k "is_rule" [] [] s_is_rule) :
    ∃ t, VSs (cxOf (L2.CX P w) P w K mg base ["thing"] "need_rule" (defScope st_need_rule) f cdv A outer s H E) (wDef E) (defBody st_need_rule) t (d_need_rule K s_is_rule) :=
  have hu1 := room1 hr
  have hu64 := hr.units
  have hu66 := room66 hr
  ⟨_, by exact (vss_one (vs_if (vt_not (vt_val (ve_callR R_is_rule hgd hr (takes_of rfl rfl rfl rfl) (va_cons (ve_v 0) va_nil)))) (vss_one vs_never) vss_nil))⟩
/-- what is left to be shown of need_rule: BodyOk -/
theorem g_need_rule {k : Nat} {f : Addr} {fd : FuncData} {s_ : Spd} {s_is_rule : Spd} (T : Txt K mg) (Fd : FunD K "need_rule" "need_rule" (defArgs st_need_rule) (defBody st_need_rule) (defScope st_need_rule) [] [] f fd) (R_is_rule : Rdy P w K mg base k "is_rule" [] [] s_is_rule)
    (len : ∀ ds S Q E, s_ ds S Q E → ds.length = 1) (ok : BodyOk (d_need_rule K s_is_rule) ["thing"] s_) : FnG P w K mg base (k + 1) f fd ["thing"] (lift K s_) :=
  def_ok Fd sc_need_rule len fun cdv A outer s H E hgd hr => (w_need_rule T hgd hr R_is_rule).elim fun t v => ⟨t, _, v, ok⟩
theorem r_need_rule {k : Nat} {f : Addr} {fd : FuncData} {s_ : Spd} {s_is_rule : Spd} (T : Txt K mg) (hm : mg "need_rule" = some (.ref f)) (Fd : FunD K "need_rule" "need_rule" (defArgs st_need_rule) (defBody st_need_rule) (defScope st_need_rule) [] [] f fd) (R_is_rule : Rdy P w K mg base k "is_rule" [] [] s_is_rule)
    (len : ∀ ds S Q E, s_ ds S Q E → ds.length = 1) (ok : BodyOk (d_need_rule K s_is_rule) ["thing"] s_) : Rdy P w K mg base (k + 1) "need_rule" [] [] s_ :=
  rdy_of (g_need_rule T Fd R_is_rule len ok) hm Fd.kp (Fd.bindsN fun _ _ _ _ _ _ us hl => match us, hl with | [_], _ => rfl)
theorem sc_need_time : FnScope ["thing"] ["thing"] (defScope st_need_time) := ⟨rfl, rfl, rfl, by decide +kernel, rfl, by decide +kernel, by decide +kernel⟩
def d_need_time (K : PySem.W.Frag) (s_is_time : Spd) : TSd := (dIf (dNotT (dTest (dCall s_is_time [] (dCons (dVar 0) dNil)))) dNever dNext)
theorem w_need_time {k : Nat} {f : Addr} {cdv : Value} {A : Around} {outer : List Env} {s : Shared} {H : Hp} {E : XK} {s_is_time : Spd} (T : Txt K mg) (hgd : A.guards = some []) (hr : Room k (A.deeper (envOfC "need_time" (defScope st_need_time) s.heap.objs.size f cdv))) (R_is_time : Rdy P w K mg base k "is_time" [] [] s_is_time) :
    ∃ t, VSs (cxOf (L2.CX P w) P w K mg base ["thing"] "need_time" (defScope st_need_time) f cdv A outer s H E) (wDef E) (defBody st_need_time) t (d_need_time K s_is_time) :=
  have hu1 := room1 hr
  have hu64 := hr.units
  have hu66 := room66 hr
  ⟨_, by exact (vss_one (vs_if (vt_not (vt_val (ve_callR R_is_time hgd hr (takes_of rfl rfl rfl rfl) (va_cons (ve_v 0) va_nil)))) (vss_one vs_never) vss_nil))⟩
/-- what is left to be shown of need_time: BodyOk -/
theorem g_need_time {k : Nat} {f : Addr} {fd : FuncData} {s_ : Spd} {s_is_time : Spd} (T : Txt K mg) (Fd : FunD K "need_time" "need_time" (defArgs st_need_time) (defBody st_need_time) (defScope st_need_time) [] [] f fd) (R_is_time : Rdy P w K mg base k "is_time" [] [] s_is_time)
    (len : ∀ ds S Q E, s_ ds S Q E → ds.length = 1) (ok : BodyOk (d_need_time K s_is_time) ["thing"] s_) : FnG P w K mg base (k + 1) f fd ["thing"] (lift K s_) :=
  def_ok Fd sc_need_time len fun cdv A outer s H E hgd hr => (w_need_time T hgd hr R_is_time).elim fun t v => ⟨t, _, v, ok⟩
theorem r_need_time {k : Nat} {f : Addr} {fd : FuncData} {s_ : Spd} {s_is_time : Spd} (T : Txt K mg) (hm : mg "need_time" = some (.ref f)) (Fd : FunD K "need_time" "need_time" (defArgs st_need_time) (defBody st_need_time) (defScope st_need_time) [] [] f fd) (R_is_time : Rdy P w K mg base k "is_time" [] [] s_is_time)
    (len : ∀ ds S Q E, s_ ds S Q E → ds.length = 1) (ok : BodyOk (d_need_time K s_is_time) ["thing"] s_) : Rdy P w K mg base (k + 1) "need_time" [] [] s_ :=
  rdy_of (g_need_time T Fd R_is_time len ok) hm Fd.kp (Fd.bindsN fun _ _ _ _ _ _ us hl => match us, hl with | [_], _ => rfl)
theorem sc__law_cell_at : FnScope ["script", "k"] ["script", "k"] (defScope st__law_cell_at) := ⟨rfl, rfl, rfl, by decide +kernel, rfl, by decide +kernel, by decide +kernel⟩
def d__law_cell_at (K : PySem.W.Frag) : TSd := (dSeq (dIf (dTest (dOp dLt (dVar 1) (dCB dLen (dCons (dVar 0) dNil)))) (dRet (dOp dIx (dVar 0) (dVar 1))) dNext) (dRet (dC (.int 0))))
theorem w__law_cell_at {k : Nat} {f : Addr} {cdv : Value} {A : Around} {outer : List Env} {s : Shared} {H : Hp} {E : XK} (T : Txt K mg) (hgd : A.guards = some []) (hr : Room k (A.deeper (envOfC "_law_cell_at" (defScope st__law_cell_at) s.heap.objs.size f cdv))) :
    ∃ t, VSs (cxOf (L2.CX P w) P w K mg base ["script", "k"] "_law_cell_at" (defScope st__law_cell_at) f cdv A outer s H E) (wDef E) (defBody st__law_cell_at) t (d__law_cell_at K) :=
  have hu1 := room1 hr
  have hu64 := hr.units
  have hu66 := room66 hr
  ⟨_, by exact (vss_cons (vs_if (vt_lt (ve_v 1) (ve_cb snd_len call_lenA T.b_len (va_cons (ve_v 0) va_nil))) (vss_one (vs_ret (ve_item hu1 (ve_v 0) (ve_v 1)))) vss_nil) (vss_one (vs_ret ve_int)))⟩
/-- what is left to be shown of _law_cell_at: BodyOk -/
theorem g__law_cell_at {k : Nat} {f : Addr} {fd : FuncData} {s_ : Spd} (T : Txt K mg) (Fd : FunD K "_law_cell_at" "_law_cell_at" (defArgs st__law_cell_at) (defBody st__law_cell_at) (defScope st__law_cell_at) [] [] f fd)
    (len : ∀ ds S Q E, s_ ds S Q E → ds.length = 2) (ok : BodyOk (d__law_cell_at K) ["script", "k"] s_) : FnG P w K mg base (k + 1) f fd ["script", "k"] (lift K s_) :=
  def_ok Fd sc__law_cell_at len fun cdv A outer s H E hgd hr => (w__law_cell_at T hgd hr ).elim fun t v => ⟨t, _, v, ok⟩
theorem r__law_cell_at {k : Nat} {f : Addr} {fd : FuncData} {s_ : Spd} (T : Txt K mg) (hm : mg "_law_cell_at" = some (.ref f)) (Fd : FunD K "_law_cell_at" "_law_cell_at" (defArgs st__law_cell_at) (defBody st__law_cell_at) (defScope st__law_cell_at) [] [] f fd)
    (len : ∀ ds S Q E, s_ ds S Q E → ds.length = 2) (ok : BodyOk (d__law_cell_at K) ["script", "k"] s_) : Rdy P w K mg base (k + 1) "_law_cell_at" [] [] s_ :=
  rdy_of (g__law_cell_at T Fd  len ok) hm Fd.kp (Fd.bindsN fun _ _ _ _ _ _ us hl => match us, hl with | [_, _], _ => rfl)
theorem sc__law_row : FnScope ["cell", "many", "salt", "row", "rest", "k", "mixed"] ["cell", "many", "salt"] (defScope st__law_row) := ⟨rfl, rfl, rfl, by decide +kernel, rfl, by decide +kernel, by decide +kernel⟩
def g__law_row_0 (K : PySem.W.Frag) : TGd := (hName 5)
theorem u_g__law_row_0 {d : D} {σ : Sd} {S : Sto} {Q : Sd → Sto → Prop} : g__law_row_0 K d σ S Q = (hName 5) d σ S Q := rfl
def b__law_row_0 (K : PySem.W.Frag) : TSd := (dIf (dTest (dOp dGt (dVar 4) (dC (.int 0)))) (dSeq (dDrop (dAppend (dVar 3) (dCons (dOp dMod (dVar 4) (dC (.int 1000003))) dNil))) (dAsg (dOp dFdiv (dVar 4) (dC (.int 1000003))) (hName 4))) (dSeq (dAsg (dOp dAdd (dOp dAdd (dOp dMulI (dOp dAdd (dOp dMod (dVar 0) (dC (.int 2147483629))) (dC (.int 1))) (dOp dAdd (dVar 2) (dOp dMulI (dC (.int 48271)) (dVar 5)))) (dOp dMulI (dC (.int 69621)) (dVar 5))) (dVar 2)) (hName 6)) (dSeq (dAsg (dOp dMod (dOp dPow (dOp dMod (dVar 6) (dC (.int 2147483647))) (dC (.int 5))) (dC (.int 2147483647))) (hName 6)) (dDrop (dAppend (dVar 3) (dCons (dOp dFdiv (dOp dMod (dOp dPow (dOp dAdd (dVar 6) (dVar 5)) (dC (.int 5))) (dC (.int 2147483629))) (dC (.int 16))) dNil))))))
theorem u_b__law_row_0 {D : EndsD} {σ : Sd} {S : Sto} : b__law_row_0 K D σ S = (dIf (dTest (dOp dGt (dVar 4) (dC (.int 0)))) (dSeq (dDrop (dAppend (dVar 3) (dCons (dOp dMod (dVar 4) (dC (.int 1000003))) dNil))) (dAsg (dOp dFdiv (dVar 4) (dC (.int 1000003))) (hName 4))) (dSeq (dAsg (dOp dAdd (dOp dAdd (dOp dMulI (dOp dAdd (dOp dMod (dVar 0) (dC (.int 2147483629))) (dC (.int 1))) (dOp dAdd (dVar 2) (dOp dMulI (dC (.int 48271)) (dVar 5)))) (dOp dMulI (dC (.int 69621)) (dVar 5))) (dVar 2)) (hName 6)) (dSeq (dAsg (dOp dMod (dOp dPow (dOp dMod (dVar 6) (dC (.int 2147483647))) (dC (.int 5))) (dC (.int 2147483647))) (hName 6)) (dDrop (dAppend (dVar 3) (dCons (dOp dFdiv (dOp dMod (dOp dPow (dOp dAdd (dVar 6) (dVar 5)) (dC (.int 5))) (dC (.int 2147483629))) (dC (.int 16))) dNil)))))) D σ S := rfl
def d__law_row (K : PySem.W.Frag) : TSd := (dSeq (dAsg (dLstM dNil) (hName 3)) (dSeq (dAsg (dC (.int 0)) (hName 4)) (dSeq (dIf (dTest (dOp dGe (dCB dAbs (dCons (dVar 0) dNil)) (dOp dPow (dC (.int 10)) (dC (.int 18))))) (dAsg (dCB dAbs (dCons (dVar 0) dNil)) (hName 4)) dNext) (dSeq (dFor (nRng1 (dCons (dVar 1) dNil)) (g__law_row_0 K) (b__law_row_0 K)) (dSee 3 (dRet (dVar 3)))))))
theorem w__law_row {k : Nat} {f : Addr} {cdv : Value} {A : Around} {outer : List Env} {s : Shared} {H : Hp} {E : XK} (T : Txt K mg) (hgd : A.guards = some []) (hr : Room k (A.deeper (envOfC "_law_row" (defScope st__law_row) s.heap.objs.size f cdv))) :
    ∃ t, VSs (cxOf (L2.CX P w) P w K mg base ["cell", "many", "salt", "row", "rest", "k", "mixed"] "_law_row" (defScope st__law_row) f cdv A outer s H E) (wDef E) (defBody st__law_row) t (d__law_row K) :=
  have hu1 := room1 hr
  have hu64 := hr.units
  have hu66 := room66 hr
  ⟨_, by exact (vss_cons (vs_name sc__law_row.nd (ve_lstM va_nil)) (vss_cons (vs_name sc__law_row.nd ve_int) (vss_cons (vs_if (vt_ge (ve_cb snd_abs call_abs T.b_abs (va_cons (ve_v 0) va_nil)) (ve_pow ve_int ve_int)) (vss_one (vs_name sc__law_row.nd (ve_cb snd_abs call_abs T.b_abs (va_cons (ve_v 0) va_nil)))) vss_nil) (vss_cons (vs_for (vs := [5]) (passes_of rfl) rfl (vi_range1 T.b_range (va_cons (ve_v 1) va_nil)) (vg_n sc__law_row.nd) (vss_one (vs_if (vt_gt (ve_v 4) ve_int) (vss_cons (vs_expr (ve_app (ve_v 3) (va_cons (ve_mod (ve_v 4) ve_int) va_nil))) (vss_one (vs_name sc__law_row.nd (ve_fdiv (ve_v 4) ve_int)))) (vss_cons (vs_name sc__law_row.nd (ve_add (ve_add (ve_mul (ve_add (ve_mod (ve_v 0) ve_int) ve_int) (ve_add (ve_v 2) (ve_mul ve_int (ve_v 5)))) (ve_mul ve_int (ve_v 5))) (ve_v 2))) (vss_cons (vs_name sc__law_row.nd (ve_mod (ve_pow (ve_mod (ve_v 6) ve_int) ve_int) ve_int)) (vss_one (vs_expr (ve_app (ve_v 3) (va_cons (ve_fdiv (ve_mod (ve_pow (ve_add (ve_v 6) (ve_v 5)) ve_int) ve_int) ve_int) va_nil))))))))) (vss_see (j := 3) (vss_one (vs_ret (ve_v 3))))))))⟩
/-- what is left to be shown of _law_row: BodyOk -/
theorem g__law_row {k : Nat} {f : Addr} {fd : FuncData} {s_ : Spd} (T : Txt K mg) (Fd : FunD K "_law_row" "_law_row" (defArgs st__law_row) (defBody st__law_row) (defScope st__law_row) [] [] f fd)
    (len : ∀ ds S Q E, s_ ds S Q E → ds.length = 3) (ok : BodyOk (d__law_row K) ["cell", "many", "salt", "row", "rest", "k", "mixed"] s_) : FnG P w K mg base (k + 1) f fd ["cell", "many", "salt"] (lift K s_) :=
  def_ok Fd sc__law_row len fun cdv A outer s H E hgd hr => (w__law_row T hgd hr ).elim fun t v => ⟨t, _, v, ok⟩
theorem r__law_row {k : Nat} {f : Addr} {fd : FuncData} {s_ : Spd} (T : Txt K mg) (hm : mg "_law_row" = some (.ref f)) (Fd : FunD K "_law_row" "_law_row" (defArgs st__law_row) (defBody st__law_row) (defScope st__law_row) [] [] f fd)
    (len : ∀ ds S Q E, s_ ds S Q E → ds.length = 3) (ok : BodyOk (d__law_row K) ["cell", "many", "salt", "row", "rest", "k", "mixed"] s_) : Rdy P w K mg base (k + 1) "_law_row" [] [] s_ :=
  rdy_of (g__law_row T Fd  len ok) hm Fd.kp (Fd.bindsN fun _ _ _ _ _ _ us hl => match us, hl with | [_, _, _], _ => rfl)
theorem sc__law_alike : FnScope ["found", "due", "name", "k"] ["found", "due"] (defScope st__law_alike) := ⟨rfl, rfl, rfl, by decide +kernel, rfl, by decide +kernel, by decide +kernel⟩
def d__law_alike (K : PySem.W.Frag) (s__law_alike : Spd) : TSd := (dSeq (dIf (dTest (dOp (dIsG id) (dVar 1) (dC .non))) (dRet (dOp (dIsG id) (dVar 0) (dC .non))) dNext) (dSeq (dIf (dTest (dCB dIsi (dCons (dVar 1) (dCons (dC (.ty "bool")) dNil)))) (dRet (dAndV (dCB dIsi (dCons (dVar 0) (dCons (dC (.ty "bool")) dNil))) (dOp dEq (dVar 0) (dVar 1)))) dNext) (dSeq (dIf (dTest (dCB dIsi (dCons (dVar 1) (dCons (dC (.ty "int")) dNil)))) (dRet (dAndV (dCB dIsi (dCons (dVar 0) (dCons (dC (.ty "int")) dNil))) (dAndV (dNotV (dCB dIsi (dCons (dVar 0) (dCons (dC (.ty "bool")) dNil)))) (dOp dEq (dVar 0) (dVar 1))))) dNext) (dSeq (dIf (dTest (dCB dIsi (dCons (dVar 1) (dCons (dC (.ty "str")) dNil)))) (dRet (dAndV (dCB dIsi (dCons (dVar 0) (dCons (dC (.ty "str")) dNil))) (dOp dEq (dVar 0) (dVar 1)))) dNext) (dSeq (dIf (dTest (dCB dIsi (dCons (dVar 1) (dCons (dC (.ty "dict")) dNil)))) (dSeq (dIf (dOrT (dNotT (dTest (dCB dIsi (dCons (dVar 0) (dCons (dC (.ty "dict")) dNil))))) (dTest (dOp dNe (dCB dListOf (dCons (dVar 0) dNil)) (dCB dListOf (dCons (dVar 1) dNil))))) (dRet (dC (.bl false))) dNext) (dRet (dCB dAll (dCons (dLc (nAny (dVar 1)) (hName 2) dYes (dCall s__law_alike [] (dCons (dOp dIx (dVar 0) (dVar 2)) (dCons (dOp dIx (dVar 1) (dVar 2)) dNil))) [2]) dNil)))) dNext) (dSeq (dIf (dTest (dCB dIsi (dCons (dVar 1) (dCons (dC (.ty "tuple")) dNil)))) (dIf (dNotT (dTest (dCB dIsi (dCons (dVar 0) (dCons (dC (.ty "tuple")) dNil))))) (dRet (dC (.bl false))) dNext) (dIf (dNotT (dTest (dCB dIsi (dCons (dVar 0) (dCons (dC (.ty "list")) dNil))))) (dRet (dC (.bl false))) dNext)) (dSeq (dIf (dTest (dOp dNe (dCB dLen (dCons (dVar 0) dNil)) (dCB dLen (dCons (dVar 1) dNil)))) (dRet (dC (.bl false))) dNext) (dRet (dCB dAll (dCons (dLc (nRng1 (dCons (dCB dLen (dCons (dVar 1) dNil)) dNil)) (hName 3) dYes (dCall s__law_alike [] (dCons (dOp dIx (dVar 0) (dVar 3)) (dCons (dOp dIx (dVar 1) (dVar 3)) dNil))) [3]) dNil))))))))))
theorem w__law_alike {k : Nat} {f : Addr} {cdv : Value} {A : Around} {outer : List Env} {s : Shared} {H : Hp} {E : XK} {s__law_alike : Spd} (T : Txt K mg) (hgd : A.guards = some []) (hr : Room k (A.deeper (envOfC "_law_alike" (defScope st__law_alike) s.heap.objs.size f cdv))) (R__law_alike : Rdy P w K mg base k "_law_alike" [] [] s__law_alike) :
    ∃ t, VSs (cxOf (L2.CX P w) P w K mg base ["found", "due", "name", "k"] "_law_alike" (defScope st__law_alike) f cdv A outer s H E) (wDef E) (defBody st__law_alike) t (d__law_alike K s__law_alike) :=
  have hu1 := room1 hr
  have hu64 := hr.units
  have hu66 := room66 hr
  ⟨_, by exact (vss_cons (vs_if (vt_is (ve_v 1) ve_non) (vss_one (vs_ret (ve_is (ve_v 0) ve_non))) vss_nil) (vss_cons (vs_if (vt_val (ve_cb snd_isi call_isA T.b_isinstance (va_cons (ve_v 1) (va_cons (ve_ty T.b_bool VL.boot_bool) va_nil)))) (vss_one (vs_ret (ve_and (ve_cb snd_isi call_isA T.b_isinstance (va_cons (ve_v 0) (va_cons (ve_ty T.b_bool VL.boot_bool) va_nil))) (ve_one (ve_eq hu64 (ve_v 0) (ve_v 1)))))) vss_nil) (vss_cons (vs_if (vt_val (ve_cb snd_isi call_isA T.b_isinstance (va_cons (ve_v 1) (va_cons (ve_ty T.b_int VL.boot_int) va_nil)))) (vss_one (vs_ret (ve_and (ve_cb snd_isi call_isA T.b_isinstance (va_cons (ve_v 0) (va_cons (ve_ty T.b_int VL.boot_int) va_nil))) (ve_and (ve_not (ve_cb snd_isi call_isA T.b_isinstance (va_cons (ve_v 0) (va_cons (ve_ty T.b_bool VL.boot_bool) va_nil)))) (ve_one (ve_eq hu64 (ve_v 0) (ve_v 1))))))) vss_nil) (vss_cons (vs_if (vt_val (ve_cb snd_isi call_isA T.b_isinstance (va_cons (ve_v 1) (va_cons (ve_ty T.b_str VL.boot_str) va_nil)))) (vss_one (vs_ret (ve_and (ve_cb snd_isi call_isA T.b_isinstance (va_cons (ve_v 0) (va_cons (ve_ty T.b_str VL.boot_str) va_nil))) (ve_one (ve_eq hu64 (ve_v 0) (ve_v 1)))))) vss_nil) (vss_cons (vs_if (vt_val (ve_cb snd_isi call_isA T.b_isinstance (va_cons (ve_v 1) (va_cons (ve_ty T.b_dict VL.boot_dict) va_nil)))) (vss_cons (vs_if (vt_w (vw_or (vt_not (vt_val (ve_cb snd_isi call_isA T.b_isinstance (va_cons (ve_v 0) (va_cons (ve_ty T.b_dict VL.boot_dict) va_nil))))) (vw_or1 (vt_ne hu64 (ve_ct snd_listOf call_list_of T.b_list (va_cons (ve_v 0) va_nil)) (ve_ct snd_listOf call_list_of T.b_list (va_cons (ve_v 1) va_nil)))))) (vss_one (vs_ret ve_bl)) vss_nil) (vss_one (vs_ret (ve_cb snd_all (cr_all rfl) T.b_all (va_cons (ve_lcX (own := [("name", 2)]) rfl sc__law_alike.nd (vi_any (ve_v 1)) (blkOk_by (N := ["found", "due", "name", "k"]) (sc := defScope st__law_alike) (own := [("name", 2)]) (by decide +kernel)) (fun _ _ _ _ _ => ⟨_, (vg_n sc__law_alike.nd)⟩) (fun _ _ _ _ _ => ⟨_, vts_nil⟩) (fun _ _ _ _ _ => ⟨_, (ve_callR R__law_alike hgd hr takes0 (va_cons (ve_item hu1 (ve_v 0) (ve_v 2)) (va_cons (ve_item hu1 (ve_v 1) (ve_v 2)) va_nil)))⟩)) va_nil))))) vss_nil) (vss_cons (vs_if (vt_val (ve_cb snd_isi call_isA T.b_isinstance (va_cons (ve_v 1) (va_cons (ve_ty T.b_tuple VL.boot_tuple) va_nil)))) (vss_one (vs_if (vt_not (vt_val (ve_cb snd_isi call_isA T.b_isinstance (va_cons (ve_v 0) (va_cons (ve_ty T.b_tuple VL.boot_tuple) va_nil))))) (vss_one (vs_ret ve_bl)) vss_nil)) (vss_one (vs_if (vt_not (vt_val (ve_cb snd_isi call_isA T.b_isinstance (va_cons (ve_v 0) (va_cons (ve_ty T.b_list VL.boot_list) va_nil))))) (vss_one (vs_ret ve_bl)) vss_nil))) (vss_cons (vs_if (vt_ne hu64 (ve_cb snd_len call_lenA T.b_len (va_cons (ve_v 0) va_nil)) (ve_cb snd_len call_lenA T.b_len (va_cons (ve_v 1) va_nil))) (vss_one (vs_ret ve_bl)) vss_nil) (vss_one (vs_ret (ve_cb snd_all (cr_all rfl) T.b_all (va_cons (ve_lcX (own := [("k", 3)]) rfl sc__law_alike.nd (vi_range1 T.b_range (va_cons (ve_cb snd_len call_lenA T.b_len (va_cons (ve_v 1) va_nil)) va_nil)) (blkOk_by (N := ["found", "due", "name", "k"]) (sc := defScope st__law_alike) (own := [("k", 3)]) (by decide +kernel)) (fun _ _ _ _ _ => ⟨_, (vg_n sc__law_alike.nd)⟩) (fun _ _ _ _ _ => ⟨_, vts_nil⟩) (fun _ _ _ _ _ => ⟨_, (ve_callR R__law_alike hgd hr takes0 (va_cons (ve_item hu1 (ve_v 0) (ve_v 3)) (va_cons (ve_item hu1 (ve_v 1) (ve_v 3)) va_nil)))⟩)) va_nil)))))))))))⟩
/-- what is left to be shown of _law_alike: BodyOk -/
theorem g__law_alike {k : Nat} {f : Addr} {fd : FuncData} {s_ : Spd} {s__law_alike : Spd} (T : Txt K mg) (Fd : FunD K "_law_alike" "_law_alike" (defArgs st__law_alike) (defBody st__law_alike) (defScope st__law_alike) [] [] f fd) (R__law_alike : Rdy P w K mg base k "_law_alike" [] [] s__law_alike)
    (len : ∀ ds S Q E, s_ ds S Q E → ds.length = 2) (ok : BodyOk (d__law_alike K s__law_alike) ["found", "due", "name", "k"] s_) : FnG P w K mg base (k + 1) f fd ["found", "due"] (lift K s_) :=
  def_ok Fd sc__law_alike len fun cdv A outer s H E hgd hr => (w__law_alike T hgd hr R__law_alike).elim fun t v => ⟨t, _, v, ok⟩
theorem r__law_alike {k : Nat} {f : Addr} {fd : FuncData} {s_ : Spd} {s__law_alike : Spd} (T : Txt K mg) (hm : mg "_law_alike" = some (.ref f)) (Fd : FunD K "_law_alike" "_law_alike" (defArgs st__law_alike) (defBody st__law_alike) (defScope st__law_alike) [] [] f fd) (R__law_alike : Rdy P w K mg base k "_law_alike" [] [] s__law_alike)
    (len : ∀ ds S Q E, s_ ds S Q E → ds.length = 2) (ok : BodyOk (d__law_alike K s__law_alike) ["found", "due", "name", "k"] s_) : Rdy P w K mg base (k + 1) "_law_alike" [] [] s_ :=
  rdy_of (g__law_alike T Fd R__law_alike len ok) hm Fd.kp (Fd.bindsN fun _ _ _ _ _ _ us hl => match us, hl with | [_, _], _ => rfl)
theorem sc__law_rule : FnScope ["name", "point", "row", "word", "back", "hold"] ["name", "point", "row"] (defScope st__law_rule) := ⟨rfl, rfl, rfl, by decide +kernel, rfl, by decide +kernel, by decide +kernel⟩
def d__law_rule (K : PySem.W.Frag) : TSd := (dSeq (dAsg (dOp dIx (dLst (dCons (dC (.str "above")) (dCons (dC (.str "below")) dNil))) (dOp dMod (dOp dIx (dVar 2) (dC (.int 0))) (dC (.int 2)))) (hName 3)) (dSeq (dAsg (dOp dIx (dLst (dCons (dC (.int 0)) (dCons (dC (.int 1)) (dCons (dOp dMod (dOp dIx (dVar 2) (dC (.int 2))) (dC (.int 5))) (dCons (dOp dMod (dOp dIx (dVar 2) (dC (.int 2))) (dC (.int 64))) dNil))))) (dOp dMod (dOp dIx (dVar 2) (dC (.int 3))) (dC (.int 4)))) (hName 4)) (dSeq (dAsg (dOp dIx (dLst (dCons (dC (.int 0)) (dCons (dC (.int 1)) (dCons (dOp dMod (dOp dIx (dVar 2) (dC (.int 4))) (dC (.int 6))) (dCons (dOp dMod (dOp dIx (dVar 2) (dC (.int 4))) (dC (.int 99))) (dCons (dC (.int 99)) dNil)))))) (dOp dMod (dOp dIx (dVar 2) (dC (.int 5))) (dC (.int 5)))) (hName 5)) (dRet (dTup (dCons (dVar 0) (dCons (dVar 1) (dCons (dVar 3) (dCons (dOp dMod (dOp dIx (dVar 2) (dC (.int 1))) (dC (.int 64))) (dCons (dVar 4) (dCons (dVar 5) (dCons (dOp dAdd (dC (.int 1)) (dOp dMod (dOp dIx (dVar 2) (dC (.int 6))) (dC (.int 3)))) dNil))))))))))))
theorem w__law_rule {k : Nat} {f : Addr} {cdv : Value} {A : Around} {outer : List Env} {s : Shared} {H : Hp} {E : XK} (T : Txt K mg) (hgd : A.guards = some []) (hr : Room k (A.deeper (envOfC "_law_rule" (defScope st__law_rule) s.heap.objs.size f cdv))) :
    ∃ t, VSs (cxOf (L2.CX P w) P w K mg base ["name", "point", "row", "word", "back", "hold"] "_law_rule" (defScope st__law_rule) f cdv A outer s H E) (wDef E) (defBody st__law_rule) t (d__law_rule K) :=
  have hu1 := room1 hr
  have hu64 := hr.units
  have hu66 := room66 hr
  ⟨_, by exact (vss_cons (vs_name sc__law_rule.nd (ve_item hu1 (ve_lst (va_cons ve_str (va_cons ve_str va_nil))) (ve_mod (ve_item hu1 (ve_v 2) ve_int) ve_int))) (vss_cons (vs_name sc__law_rule.nd (ve_item hu1 (ve_lst (va_cons ve_int (va_cons ve_int (va_cons (ve_mod (ve_item hu1 (ve_v 2) ve_int) ve_int) (va_cons (ve_mod (ve_item hu1 (ve_v 2) ve_int) ve_int) va_nil))))) (ve_mod (ve_item hu1 (ve_v 2) ve_int) ve_int))) (vss_cons (vs_name sc__law_rule.nd (ve_item hu1 (ve_lst (va_cons ve_int (va_cons ve_int (va_cons (ve_mod (ve_item hu1 (ve_v 2) ve_int) ve_int) (va_cons (ve_mod (ve_item hu1 (ve_v 2) ve_int) ve_int) (va_cons ve_int va_nil)))))) (ve_mod (ve_item hu1 (ve_v 2) ve_int) ve_int))) (vss_one (vs_ret (ve_tup (va_cons (ve_v 0) (va_cons (ve_v 1) (va_cons (ve_v 3) (va_cons (ve_mod (ve_item hu1 (ve_v 2) ve_int) ve_int) (va_cons (ve_v 4) (va_cons (ve_v 5) (va_cons (ve_add ve_int (ve_mod (ve_item hu1 (ve_v 2) ve_int) ve_int)) va_nil)))))))))))))⟩
/-- what is left to be shown of _law_rule: BodyOk -/
theorem g__law_rule {k : Nat} {f : Addr} {fd : FuncData} {s_ : Spd} (T : Txt K mg) (Fd : FunD K "_law_rule" "_law_rule" (defArgs st__law_rule) (defBody st__law_rule) (defScope st__law_rule) [] [] f fd)
    (len : ∀ ds S Q E, s_ ds S Q E → ds.length = 3) (ok : BodyOk (d__law_rule K) ["name", "point", "row", "word", "back", "hold"] s_) : FnG P w K mg base (k + 1) f fd ["name", "point", "row"] (lift K s_) :=
  def_ok Fd sc__law_rule len fun cdv A outer s H E hgd hr => (w__law_rule T hgd hr ).elim fun t v => ⟨t, _, v, ok⟩
theorem r__law_rule {k : Nat} {f : Addr} {fd : FuncData} {s_ : Spd} (T : Txt K mg) (hm : mg "_law_rule" = some (.ref f)) (Fd : FunD K "_law_rule" "_law_rule" (defArgs st__law_rule) (defBody st__law_rule) (defScope st__law_rule) [] [] f fd)
    (len : ∀ ds S Q E, s_ ds S Q E → ds.length = 3) (ok : BodyOk (d__law_rule K) ["name", "point", "row", "word", "back", "hold"] s_) : Rdy P w K mg base (k + 1) "_law_rule" [] [] s_ :=
  rdy_of (g__law_rule T Fd  len ok) hm Fd.kp (Fd.bindsN fun _ _ _ _ _ _ us hl => match us, hl with | [_, _, _], _ => rfl)
theorem sc__law_beyond : FnScope ["rule", "worth"] ["rule", "worth"] (defScope st__law_beyond) := ⟨rfl, rfl, rfl, by decide +kernel, rfl, by decide +kernel, by decide +kernel⟩
def d__law_beyond (K : PySem.W.Frag) : TSd := (dRet (dOp dIx (dLst (dCons (dOp dLt (dVar 1) (dOp dIx (dVar 0) (dC (.int 3)))) (dCons (dOp dGt (dVar 1) (dOp dIx (dVar 0) (dC (.int 3)))) dNil))) (dCB dInt (dCons (dOp dEq (dOp dIx (dVar 0) (dC (.int 2))) (dC (.str "above"))) dNil))))
theorem w__law_beyond {k : Nat} {f : Addr} {cdv : Value} {A : Around} {outer : List Env} {s : Shared} {H : Hp} {E : XK} (T : Txt K mg) (hgd : A.guards = some []) (hr : Room k (A.deeper (envOfC "_law_beyond" (defScope st__law_beyond) s.heap.objs.size f cdv))) :
    ∃ t, VSs (cxOf (L2.CX P w) P w K mg base ["rule", "worth"] "_law_beyond" (defScope st__law_beyond) f cdv A outer s H E) (wDef E) (defBody st__law_beyond) t (d__law_beyond K) :=
  have hu1 := room1 hr
  have hu64 := hr.units
  have hu66 := room66 hr
  ⟨_, by exact (vss_one (vs_ret (ve_item hu1 (ve_lst (va_cons (ve_lt (ve_v 1) (ve_item hu1 (ve_v 0) ve_int)) (va_cons (ve_gt (ve_v 1) (ve_item hu1 (ve_v 0) ve_int)) va_nil))) (ve_ct snd_int call_intA T.b_int (va_cons (ve_eq hu64 (ve_item hu1 (ve_v 0) ve_int) ve_str) va_nil)))))⟩
/-- what is left to be shown of _law_beyond: BodyOk -/
theorem g__law_beyond {k : Nat} {f : Addr} {fd : FuncData} {s_ : Spd} (T : Txt K mg) (Fd : FunD K "_law_beyond" "_law_beyond" (defArgs st__law_beyond) (defBody st__law_beyond) (defScope st__law_beyond) [] [] f fd)
    (len : ∀ ds S Q E, s_ ds S Q E → ds.length = 2) (ok : BodyOk (d__law_beyond K) ["rule", "worth"] s_) : FnG P w K mg base (k + 1) f fd ["rule", "worth"] (lift K s_) :=
  def_ok Fd sc__law_beyond len fun cdv A outer s H E hgd hr => (w__law_beyond T hgd hr ).elim fun t v => ⟨t, _, v, ok⟩
theorem r__law_beyond {k : Nat} {f : Addr} {fd : FuncData} {s_ : Spd} (T : Txt K mg) (hm : mg "_law_beyond" = some (.ref f)) (Fd : FunD K "_law_beyond" "_law_beyond" (defArgs st__law_beyond) (defBody st__law_beyond) (defScope st__law_beyond) [] [] f fd)
    (len : ∀ ds S Q E, s_ ds S Q E → ds.length = 2) (ok : BodyOk (d__law_beyond K) ["rule", "worth"] s_) : Rdy P w K mg base (k + 1) "_law_beyond" [] [] s_ :=
  rdy_of (g__law_beyond T Fd  len ok) hm Fd.kp (Fd.bindsN fun _ _ _ _ _ _ us hl => match us, hl with | [_, _], _ => rfl)
theorem sc__law_rests : FnScope ["rule", "worth"] ["rule", "worth"] (defScope st__law_rests) := ⟨rfl, rfl, rfl, by decide +kernel, rfl, by decide +kernel, by decide +kernel⟩
def d__law_rests (K : PySem.W.Frag) : TSd := (dRet (dOp dIx (dLst (dCons (dOp dGe (dVar 1) (dOp dAdd (dOp dIx (dVar 0) (dC (.int 3))) (dOp dIx (dVar 0) (dC (.int 4))))) (dCons (dOp dLe (dVar 1) (dOp dSub (dOp dIx (dVar 0) (dC (.int 3))) (dOp dIx (dVar 0) (dC (.int 4))))) dNil))) (dCB dInt (dCons (dOp dEq (dOp dIx (dVar 0) (dC (.int 2))) (dC (.str "above"))) dNil))))
theorem w__law_rests {k : Nat} {f : Addr} {cdv : Value} {A : Around} {outer : List Env} {s : Shared} {H : Hp} {E : XK} (T : Txt K mg) (hgd : A.guards = some []) (hr : Room k (A.deeper (envOfC "_law_rests" (defScope st__law_rests) s.heap.objs.size f cdv))) :
    ∃ t, VSs (cxOf (L2.CX P w) P w K mg base ["rule", "worth"] "_law_rests" (defScope st__law_rests) f cdv A outer s H E) (wDef E) (defBody st__law_rests) t (d__law_rests K) :=
  have hu1 := room1 hr
  have hu64 := hr.units
  have hu66 := room66 hr
  ⟨_, by exact (vss_one (vs_ret (ve_item hu1 (ve_lst (va_cons (ve_ge (ve_v 1) (ve_add (ve_item hu1 (ve_v 0) ve_int) (ve_item hu1 (ve_v 0) ve_int))) (va_cons (ve_le (ve_v 1) (ve_sub (ve_item hu1 (ve_v 0) ve_int) (ve_item hu1 (ve_v 0) ve_int))) va_nil))) (ve_ct snd_int call_intA T.b_int (va_cons (ve_eq hu64 (ve_item hu1 (ve_v 0) ve_int) ve_str) va_nil)))))⟩
/-- what is left to be shown of _law_rests: BodyOk -/
theorem g__law_rests {k : Nat} {f : Addr} {fd : FuncData} {s_ : Spd} (T : Txt K mg) (Fd : FunD K "_law_rests" "_law_rests" (defArgs st__law_rests) (defBody st__law_rests) (defScope st__law_rests) [] [] f fd)
    (len : ∀ ds S Q E, s_ ds S Q E → ds.length = 2) (ok : BodyOk (d__law_rests K) ["rule", "worth"] s_) : FnG P w K mg base (k + 1) f fd ["rule", "worth"] (lift K s_) :=
  def_ok Fd sc__law_rests len fun cdv A outer s H E hgd hr => (w__law_rests T hgd hr ).elim fun t v => ⟨t, _, v, ok⟩
theorem r__law_rests {k : Nat} {f : Addr} {fd : FuncData} {s_ : Spd} (T : Txt K mg) (hm : mg "_law_rests" = some (.ref f)) (Fd : FunD K "_law_rests" "_law_rests" (defArgs st__law_rests) (defBody st__law_rests) (defScope st__law_rests) [] [] f fd)
    (len : ∀ ds S Q E, s_ ds S Q E → ds.length = 2) (ok : BodyOk (d__law_rests K) ["rule", "worth"] s_) : Rdy P w K mg base (k + 1) "_law_rests" [] [] s_ :=
  rdy_of (g__law_rests T Fd  len ok) hm Fd.kp (Fd.bindsN fun _ _ _ _ _ _ us hl => match us, hl with | [_, _], _ => rfl)
theorem sc__law_model : FnScope ["rule", "signs", "till", "worths", "time", "worth", "mark", "found", "since", "stands"] ["rule", "signs", "till"] (defScope st__law_model) := ⟨rfl, rfl, rfl, by decide +kernel, rfl, by decide +kernel, by decide +kernel⟩
def g__law_model_0 (K : PySem.W.Frag) (s__law_rests : Spd) (s__law_beyond : Spd) : TGd := (hTup 3 (hCons (hName 4) (hCons (hName 5) (hCons (hName 6) hNil))))
theorem u_g__law_model_0 {s__law_rests : Spd} {s__law_beyond : Spd} {d : D} {σ : Sd} {S : Sto} {Q : Sd → Sto → Prop} : g__law_model_0 K s__law_rests s__law_beyond d σ S Q = (hTup 3 (hCons (hName 4) (hCons (hName 5) (hCons (hName 6) hNil)))) d σ S Q := rfl
def b__law_model_0 (K : PySem.W.Frag) (s__law_rests : Spd) (s__law_beyond : Spd) : TSd := (dIf (dTest (dOp dEq (dVar 6) (dC (.str "good")))) (dSetI (dVar 5) (dVar 3) (dVar 4)) dNext)
theorem u_b__law_model_0 {s__law_rests : Spd} {s__law_beyond : Spd} {D : EndsD} {σ : Sd} {S : Sto} : b__law_model_0 K s__law_rests s__law_beyond D σ S = (dIf (dTest (dOp dEq (dVar 6) (dC (.str "good")))) (dSetI (dVar 5) (dVar 3) (dVar 4)) dNext) D σ S := rfl
def g__law_model_1 (K : PySem.W.Frag) (s__law_rests : Spd) (s__law_beyond : Spd) : TGd := (hName 4)
theorem u_g__law_model_1 {s__law_rests : Spd} {s__law_beyond : Spd} {d : D} {σ : Sd} {S : Sto} {Q : Sd → Sto → Prop} : g__law_model_1 K s__law_rests s__law_beyond d σ S Q = (hName 4) d σ S Q := rfl
def b__law_model_1 (K : PySem.W.Frag) (s__law_rests : Spd) (s__law_beyond : Spd) : TSd := (dSeq (dAsg (dGet2 (dVar 3) (dVar 4) (dVar 5)) (hName 5)) (dSeq (dIf (dTest (dOp (dIsG id) (dVar 5) (dC .non))) dCont dNext) (dSeq (dIf (dAndT (dTest (dVar 9)) (dTest (dCall s__law_rests [] (dCons (dVar 0) (dCons (dVar 5) dNil))))) (dSeq (dSetI (dTup (dCons (dOp dIx (dOp dIx (dVar 7) (dNeg (dC (.int 1)))) (dC (.int 0))) (dCons (dVar 4) dNil))) (dVar 7) (dNeg (dC (.int 1)))) (dSeq (dAsg (dC (.bl false)) (hName 9)) (dAsg (dC .non) (hName 8)))) (dIf (dAndT (dNotT (dTest (dVar 9))) (dNotT (dTest (dCall s__law_beyond [] (dCons (dVar 0) (dCons (dVar 5) dNil)))))) (dAsg (dC .non) (hName 8)) (dIf (dAndT (dNotT (dTest (dVar 9))) (dTest (dOp (dIsG id) (dVar 8) (dC .non)))) (dAsg (dVar 4) (hName 8)) dNext))) (dIf (dAndT (dNotT (dTest (dVar 9))) (dAndT (dTest (dOp (dIsG (!·)) (dVar 8) (dC .non))) (dTest (dOp dGe (dOp dSub (dVar 4) (dVar 8)) (dOp dIx (dVar 0) (dC (.int 5))))))) (dSeq (dDrop (dAppend (dVar 7) (dCons (dTup (dCons (dVar 4) (dCons (dC .non) dNil))) dNil))) (dAsg (dC (.bl true)) (hName 9))) dNext))))
theorem u_b__law_model_1 {s__law_rests : Spd} {s__law_beyond : Spd} {D : EndsD} {σ : Sd} {S : Sto} : b__law_model_1 K s__law_rests s__law_beyond D σ S = (dSeq (dAsg (dGet2 (dVar 3) (dVar 4) (dVar 5)) (hName 5)) (dSeq (dIf (dTest (dOp (dIsG id) (dVar 5) (dC .non))) dCont dNext) (dSeq (dIf (dAndT (dTest (dVar 9)) (dTest (dCall s__law_rests [] (dCons (dVar 0) (dCons (dVar 5) dNil))))) (dSeq (dSetI (dTup (dCons (dOp dIx (dOp dIx (dVar 7) (dNeg (dC (.int 1)))) (dC (.int 0))) (dCons (dVar 4) dNil))) (dVar 7) (dNeg (dC (.int 1)))) (dSeq (dAsg (dC (.bl false)) (hName 9)) (dAsg (dC .non) (hName 8)))) (dIf (dAndT (dNotT (dTest (dVar 9))) (dNotT (dTest (dCall s__law_beyond [] (dCons (dVar 0) (dCons (dVar 5) dNil)))))) (dAsg (dC .non) (hName 8)) (dIf (dAndT (dNotT (dTest (dVar 9))) (dTest (dOp (dIsG id) (dVar 8) (dC .non)))) (dAsg (dVar 4) (hName 8)) dNext))) (dIf (dAndT (dNotT (dTest (dVar 9))) (dAndT (dTest (dOp (dIsG (!·)) (dVar 8) (dC .non))) (dTest (dOp dGe (dOp dSub (dVar 4) (dVar 8)) (dOp dIx (dVar 0) (dC (.int 5))))))) (dSeq (dDrop (dAppend (dVar 7) (dCons (dTup (dCons (dVar 4) (dCons (dC .non) dNil))) dNil))) (dAsg (dC (.bl true)) (hName 9))) dNext)))) D σ S := rfl
def d__law_model (K : PySem.W.Frag) (s__law_rests : Spd) (s__law_beyond : Spd) : TSd := (dSeq (dAsg dDctM (hName 3)) (dSeq (dForR (dVar 1) (g__law_model_0 K s__law_rests s__law_beyond) (b__law_model_0 K s__law_rests s__law_beyond)) (dSeq (dAsg (dLstM dNil) (hName 7)) (dSeq (dAsg (dC .non) (hName 8)) (dSeq (dAsg (dC (.bl false)) (hName 9)) (dSeq (dAsg (dC .non) (hName 5)) (dSeq (dFor (nRng2 (dCons (dCB dMinL (dCons (dOp dAdd (dCB dKeys (dCons (dVar 3) dNil)) (dLst (dCons (dVar 2) dNil))) dNil)) (dCons (dOp dAdd (dVar 2) (dC (.int 1))) dNil))) (g__law_model_1 K s__law_rests s__law_beyond) (b__law_model_1 K s__law_rests s__law_beyond)) (dSee 7 (dSeq (dIf (dTest (dVar 9)) (dRet (dTup (dCons (dVar 7) (dCons (dTup (dCons (dC (.str "stands")) (dCons (dOp dIx (dOp dIx (dVar 7) (dNeg (dC (.int 1)))) (dC (.int 0))) dNil))) dNil)))) dNext) (dSeq (dIf (dTest (dOp (dIsG (!·)) (dVar 8) (dC .non))) (dRet (dTup (dCons (dVar 7) (dCons (dTup (dCons (dC (.str "waits")) (dCons (dVar 8) dNil))) dNil)))) dNext) (dRet (dTup (dCons (dVar 7) (dCons (dTup (dCons (dC (.str "quiet")) (dCons (dC .non) dNil))) dNil))))))))))))))
theorem w__law_model {k : Nat} {f : Addr} {cdv : Value} {A : Around} {outer : List Env} {s : Shared} {H : Hp} {E : XK} {s__law_rests : Spd} {s__law_beyond : Spd} (T : Txt K mg) (hgd : A.guards = some []) (hr : Room k (A.deeper (envOfC "_law_model" (defScope st__law_model) s.heap.objs.size f cdv))) (R__law_rests : Rdy P w K mg base k "_law_rests" [] [] s__law_rests) (R__law_beyond : Rdy P w K mg base k "_law_beyond" [] [] s__law_beyond) :
    ∃ t, VSs (cxOf (L2.CX P w) P w K mg base ["rule", "signs", "till", "worths", "time", "worth", "mark", "found", "since", "stands"] "_law_model" (defScope st__law_model) f cdv A outer s H E) (wDef E) (defBody st__law_model) t (d__law_model K s__law_rests s__law_beyond) :=
  have hu1 := room1 hr
  have hu64 := hr.units
  have hu66 := room66 hr
  ⟨_, by exact (vss_cons (vs_name sc__law_model.nd ve_dctM) (vss_cons (vs_forR (vs := [4, 5, 6]) (passes_of rfl) rfl (ve_v 1) (vg_tup rfl (vgs_cons (vg_n sc__law_model.nd) (vgs_cons (vg_n sc__law_model.nd) (vgs_cons (vg_n sc__law_model.nd) vgs_nil)))) (vss_one (vs_if (vt_eq hu64 (ve_v 6) ve_str) (vss_one (vs_setI hu1 (ve_v 5) (ve_v 3) (ve_v 4))) vss_nil))) (vss_cons (vs_name sc__law_model.nd (ve_lstM va_nil)) (vss_cons (vs_name sc__law_model.nd ve_non) (vss_cons (vs_name sc__law_model.nd ve_bl) (vss_cons (vs_name sc__law_model.nd ve_non) (vss_cons (vs_for (vs := [4]) (passes_of rfl) rfl (vi_range2 T.b_range (va_cons (ve_cb snd_minL (cr_min rfl) T.b_min (va_cons (ve_add (ve_keys rfl T.b_list (va_cons (ve_v 3) va_nil)) (ve_lst (va_cons (ve_v 2) va_nil))) va_nil)) (va_cons (ve_add (ve_v 2) ve_int) va_nil))) (vg_n sc__law_model.nd) (vss_cons (vs_name sc__law_model.nd (ve_get2 hu1 (ve_v 3) (ve_v 4) (ve_v 5) m2_of)) (vss_cons (vs_if (vt_is (ve_v 5) ve_non) (vss_one vs_continue) vss_nil) (vss_cons (vs_if (vt_w (vw_and (vt_val (ve_v 9)) (vw_and1 (vt_val (ve_callR R__law_rests hgd hr (takes_of rfl rfl rfl rfl) (va_cons (ve_v 0) (va_cons (ve_v 5) va_nil))))))) (vss_cons (vs_setI hu1 (ve_tup (va_cons (ve_item hu1 (ve_item hu1 (ve_v 7) (ve_neg ve_int)) ve_int) (va_cons (ve_v 4) va_nil))) (ve_v 7) (ve_neg ve_int)) (vss_cons (vs_name sc__law_model.nd ve_bl) (vss_one (vs_name sc__law_model.nd ve_non)))) (vss_one (vs_if (vt_w (vw_and (vt_not (vt_val (ve_v 9))) (vw_and1 (vt_not (vt_val (ve_callR R__law_beyond hgd hr (takes_of rfl rfl rfl rfl) (va_cons (ve_v 0) (va_cons (ve_v 5) va_nil)))))))) (vss_one (vs_name sc__law_model.nd ve_non)) (vss_one (vs_if (vt_w (vw_and (vt_not (vt_val (ve_v 9))) (vw_and1 (vt_is (ve_v 8) ve_non)))) (vss_one (vs_name sc__law_model.nd (ve_v 4))) vss_nil))))) (vss_one (vs_if (vt_w (vw_and (vt_not (vt_val (ve_v 9))) (vw_and (vt_isnot (ve_v 8) ve_non) (vw_and1 (vt_ge (ve_sub (ve_v 4) (ve_v 8)) (ve_item hu1 (ve_v 0) ve_int)))))) (vss_cons (vs_expr (ve_app (ve_v 7) (va_cons (ve_tup (va_cons (ve_v 4) (va_cons ve_non va_nil))) va_nil))) (vss_one (vs_name sc__law_model.nd ve_bl))) vss_nil)))))) (vss_see (j := 7) (vss_cons (vs_if (vt_val (ve_v 9)) (vss_one (vs_ret (ve_tup (va_cons (ve_v 7) (va_cons (ve_tup (va_cons ve_str (va_cons (ve_item hu1 (ve_item hu1 (ve_v 7) (ve_neg ve_int)) ve_int) va_nil))) va_nil))))) vss_nil) (vss_cons (vs_if (vt_isnot (ve_v 8) ve_non) (vss_one (vs_ret (ve_tup (va_cons (ve_v 7) (va_cons (ve_tup (va_cons ve_str (va_cons (ve_v 8) va_nil))) va_nil))))) vss_nil) (vss_one (vs_ret (ve_tup (va_cons (ve_v 7) (va_cons (ve_tup (va_cons ve_str (va_cons ve_non va_nil))) va_nil)))))))))))))))⟩
/-- what is left to be shown of _law_model: BodyOk -/
theorem g__law_model {k : Nat} {f : Addr} {fd : FuncData} {s_ : Spd} {s__law_rests : Spd} {s__law_beyond : Spd} (T : Txt K mg) (Fd : FunD K "_law_model" "_law_model" (defArgs st__law_model) (defBody st__law_model) (defScope st__law_model) [] [] f fd) (R__law_rests : Rdy P w K mg base k "_law_rests" [] [] s__law_rests) (R__law_beyond : Rdy P w K mg base k "_law_beyond" [] [] s__law_beyond)
    (len : ∀ ds S Q E, s_ ds S Q E → ds.length = 3) (ok : BodyOk (d__law_model K s__law_rests s__law_beyond) ["rule", "signs", "till", "worths", "time", "worth", "mark", "found", "since", "stands"] s_) : FnG P w K mg base (k + 1) f fd ["rule", "signs", "till"] (lift K s_) :=
  def_ok Fd sc__law_model len fun cdv A outer s H E hgd hr => (w__law_model T hgd hr R__law_rests R__law_beyond).elim fun t v => ⟨t, _, v, ok⟩
theorem r__law_model {k : Nat} {f : Addr} {fd : FuncData} {s_ : Spd} {s__law_rests : Spd} {s__law_beyond : Spd} (T : Txt K mg) (hm : mg "_law_model" = some (.ref f)) (Fd : FunD K "_law_model" "_law_model" (defArgs st__law_model) (defBody st__law_model) (defScope st__law_model) [] [] f fd) (R__law_rests : Rdy P w K mg base k "_law_rests" [] [] s__law_rests) (R__law_beyond : Rdy P w K mg base k "_law_beyond" [] [] s__law_beyond)
    (len : ∀ ds S Q E, s_ ds S Q E → ds.length = 3) (ok : BodyOk (d__law_model K s__law_rests s__law_beyond) ["rule", "signs", "till", "worths", "time", "worth", "mark", "found", "since", "stands"] s_) : Rdy P w K mg base (k + 1) "_law_model" [] [] s_ :=
  rdy_of (g__law_model T Fd R__law_rests R__law_beyond len ok) hm Fd.kp (Fd.bindsN fun _ _ _ _ _ _ us hl => match us, hl with | [_, _, _], _ => rfl)
theorem sc__law_stands : FnScope ["box", "watch", "rule", "signs", "last", "found", "state"] ["box"] (defScope st__law_stands) := ⟨rfl, rfl, rfl, by decide +kernel, rfl, by decide +kernel, by decide +kernel⟩
def d__law_stands (K : PySem.W.Frag) (s__law_model : Spd) : TSd := (dSeq (dAsg (dVar 0) (hTup 4 (hCons (hName 1) (hCons (hName 2) (hCons (hName 3) (hCons (hName 4) hNil)))))) (dSeq (dIf (dTest (dOp (dIsG id) (dVar 4) (dC .non))) (dRet (dLst (dCons (dVar 2) (dCons (dLst dNil) (dCons (dTup (dCons (dC (.str "quiet")) (dCons (dC .non) dNil))) (dCons (dC .non) (dCons (dC .non) dNil))))))) dNext) (dSeq (dAsg (dCall s__law_model [] (dCons (dVar 2) (dCons (dVar 3) (dCons (dVar 4) dNil)))) (hTup 2 (hCons (hName 5) (hCons (hName 6) hNil)))) (dRet (dLst (dCons (dVar 2) (dCons (dVar 5) (dCons (dVar 6) (dCons (dIfE (dTest (dOp dEq (dVar 3) (dLst dNil))) (dC .non) (dOp dIx (dOp dIx (dVar 3) (dNeg (dC (.int 1)))) (dC (.int 1)))) (dCons (dVar 4) dNil))))))))))
theorem w__law_stands {k : Nat} {f : Addr} {cdv : Value} {A : Around} {outer : List Env} {s : Shared} {H : Hp} {E : XK} {s__law_model : Spd} (T : Txt K mg) (hgd : A.guards = some []) (hr : Room k (A.deeper (envOfC "_law_stands" (defScope st__law_stands) s.heap.objs.size f cdv))) (R__law_model : Rdy P w K mg base k "_law_model" [] [] s__law_model) :
    ∃ t, VSs (cxOf (L2.CX P w) P w K mg base ["box", "watch", "rule", "signs", "last", "found", "state"] "_law_stands" (defScope st__law_stands) f cdv A outer s H E) (wDef E) (defBody st__law_stands) t (d__law_stands K s__law_model) :=
  have hu1 := room1 hr
  have hu64 := hr.units
  have hu66 := room66 hr
  ⟨_, by exact (vss_cons (vs_asg (vs := [1, 2, 3, 4]) (ve_v 0) (vg_tup rfl (vgs_cons (vg_n sc__law_stands.nd) (vgs_cons (vg_n sc__law_stands.nd) (vgs_cons (vg_n sc__law_stands.nd) (vgs_cons (vg_n sc__law_stands.nd) vgs_nil)))))) (vss_cons (vs_if (vt_is (ve_v 4) ve_non) (vss_one (vs_ret (ve_lst (va_cons (ve_v 2) (va_cons (ve_lst va_nil) (va_cons (ve_tup (va_cons ve_str (va_cons ve_non va_nil))) (va_cons ve_non (va_cons ve_non va_nil)))))))) vss_nil) (vss_cons (vs_asg (vs := [5, 6]) (ve_callR R__law_model hgd hr (takes_of rfl rfl rfl rfl) (va_cons (ve_v 2) (va_cons (ve_v 3) (va_cons (ve_v 4) va_nil)))) (vg_tup rfl (vgs_cons (vg_n sc__law_stands.nd) (vgs_cons (vg_n sc__law_stands.nd) vgs_nil)))) (vss_one (vs_ret (ve_lst (va_cons (ve_v 2) (va_cons (ve_v 5) (va_cons (ve_v 6) (va_cons (ve_ifE (vt_eq hu64 (ve_v 3) (ve_lst va_nil)) ve_non (ve_item hu1 (ve_item hu1 (ve_v 3) (ve_neg ve_int)) ve_int)) (va_cons (ve_v 4) va_nil)))))))))))⟩
/-- what is left to be shown of _law_stands: BodyOk -/
theorem g__law_stands {k : Nat} {f : Addr} {fd : FuncData} {s_ : Spd} {s__law_model : Spd} (T : Txt K mg) (Fd : FunD K "_law_stands" "_law_stands" (defArgs st__law_stands) (defBody st__law_stands) (defScope st__law_stands) [] [] f fd) (R__law_model : Rdy P w K mg base k "_law_model" [] [] s__law_model)
    (len : ∀ ds S Q E, s_ ds S Q E → ds.length = 1) (ok : BodyOk (d__law_stands K s__law_model) ["box", "watch", "rule", "signs", "last", "found", "state"] s_) : FnG P w K mg base (k + 1) f fd ["box"] (lift K s_) :=
  def_ok Fd sc__law_stands len fun cdv A outer s H E hgd hr => (w__law_stands T hgd hr R__law_model).elim fun t v => ⟨t, _, v, ok⟩
theorem r__law_stands {k : Nat} {f : Addr} {fd : FuncData} {s_ : Spd} {s__law_model : Spd} (T : Txt K mg) (hm : mg "_law_stands" = some (.ref f)) (Fd : FunD K "_law_stands" "_law_stands" (defArgs st__law_stands) (defBody st__law_stands) (defScope st__law_stands) [] [] f fd) (R__law_model : Rdy P w K mg base k "_law_model" [] [] s__law_model)
    (len : ∀ ds S Q E, s_ ds S Q E → ds.length = 1) (ok : BodyOk (d__law_stands K s__law_model) ["box", "watch", "rule", "signs", "last", "found", "state"] s_) : Rdy P w K mg base (k + 1) "_law_stands" [] [] s_ :=
  rdy_of (g__law_stands T Fd R__law_model len ok) hm Fd.kp (Fd.bindsN fun _ _ _ _ _ _ us hl => match us, hl with | [_], _ => rfl)
theorem sc_law : FnScope ["script", "row", "rule", "other", "some", "cell", "draws", "elder", "box", "time", "copy", "told", "worth", "stands", "one", "k", "j", "same", "thing"] ["script"] (defScope st_law) := ⟨rfl, rfl, rfl, by decide +kernel, rfl, by decide +kernel, by decide +kernel⟩
def g_law_2 (K : PySem.W.Frag) (s__law_row : Spd) (s__law_cell_at : Spd) (s__law_rule : Spd) (s__law_alike : Spd) (s__law_stands : Spd) (s_Watch_copied : Spd) (s_Watch_go_on : Spd) (s_Watch_hear : Spd) (s_Watch_state : Spd) (s_Watch_events : Spd) (s_Watch___init__ : Spd) (s_Watch___eq__ : Spd) (s_Watch___repr__ : Spd) : TGd := (hName 16)
theorem u_g_law_2 {s__law_row : Spd} {s__law_cell_at : Spd} {s__law_rule : Spd} {s__law_alike : Spd} {s__law_stands : Spd} {s_Watch_copied : Spd} {s_Watch_go_on : Spd} {s_Watch_hear : Spd} {s_Watch_state : Spd} {s_Watch_events : Spd} {s_Watch___init__ : Spd} {s_Watch___eq__ : Spd} {s_Watch___repr__ : Spd} {d : D} {σ : Sd} {S : Sto} {Q : Sd → Sto → Prop} : g_law_2 K s__law_row s__law_cell_at s__law_rule s__law_alike s__law_stands s_Watch_copied s_Watch_go_on s_Watch_hear s_Watch_state s_Watch_events s_Watch___init__ s_Watch___eq__ s_Watch___repr__ d σ S Q = (hName 16) d σ S Q := rfl
def b_law_2 (K : PySem.W.Frag) (s__law_row : Spd) (s__law_cell_at : Spd) (s__law_rule : Spd) (s__law_alike : Spd) (s__law_stands : Spd) (s_Watch_copied : Spd) (s_Watch_go_on : Spd) (s_Watch_hear : Spd) (s_Watch_state : Spd) (s_Watch_events : Spd) (s_Watch___init__ : Spd) (s_Watch___eq__ : Spd) (s_Watch___repr__ : Spd) : TSd := (dSeq (dAsg (dOp dEq (dOp dIx (dVar 13) (dVar 15)) (dOp dIx (dVar 13) (dVar 16))) (hName 17)) (dIf (dTest (dOp dNe (dOp (dEqI (He.ga K "Watch") s_Watch___eq__ id) (dOp dIx (dOp dIx (dVar 4) (dVar 15)) (dC (.int 0))) (dOp dIx (dOp dIx (dVar 4) (dVar 16)) (dC (.int 0)))) (dVar 17))) (dRet (dC (.bl false))) dNext))
theorem u_b_law_2 {s__law_row : Spd} {s__law_cell_at : Spd} {s__law_rule : Spd} {s__law_alike : Spd} {s__law_stands : Spd} {s_Watch_copied : Spd} {s_Watch_go_on : Spd} {s_Watch_hear : Spd} {s_Watch_state : Spd} {s_Watch_events : Spd} {s_Watch___init__ : Spd} {s_Watch___eq__ : Spd} {s_Watch___repr__ : Spd} {D : EndsD} {σ : Sd} {S : Sto} : b_law_2 K s__law_row s__law_cell_at s__law_rule s__law_alike s__law_stands s_Watch_copied s_Watch_go_on s_Watch_hear s_Watch_state s_Watch_events s_Watch___init__ s_Watch___eq__ s_Watch___repr__ D σ S = (dSeq (dAsg (dOp dEq (dOp dIx (dVar 13) (dVar 15)) (dOp dIx (dVar 13) (dVar 16))) (hName 17)) (dIf (dTest (dOp dNe (dOp (dEqI (He.ga K "Watch") s_Watch___eq__ id) (dOp dIx (dOp dIx (dVar 4) (dVar 15)) (dC (.int 0))) (dOp dIx (dOp dIx (dVar 4) (dVar 16)) (dC (.int 0)))) (dVar 17))) (dRet (dC (.bl false))) dNext)) D σ S := rfl
def g_law_1 (K : PySem.W.Frag) (s__law_row : Spd) (s__law_cell_at : Spd) (s__law_rule : Spd) (s__law_alike : Spd) (s__law_stands : Spd) (s_Watch_copied : Spd) (s_Watch_go_on : Spd) (s_Watch_hear : Spd) (s_Watch_state : Spd) (s_Watch_events : Spd) (s_Watch___init__ : Spd) (s_Watch___eq__ : Spd) (s_Watch___repr__ : Spd) : TGd := (hName 15)
theorem u_g_law_1 {s__law_row : Spd} {s__law_cell_at : Spd} {s__law_rule : Spd} {s__law_alike : Spd} {s__law_stands : Spd} {s_Watch_copied : Spd} {s_Watch_go_on : Spd} {s_Watch_hear : Spd} {s_Watch_state : Spd} {s_Watch_events : Spd} {s_Watch___init__ : Spd} {s_Watch___eq__ : Spd} {s_Watch___repr__ : Spd} {d : D} {σ : Sd} {S : Sto} {Q : Sd → Sto → Prop} : g_law_1 K s__law_row s__law_cell_at s__law_rule s__law_alike s__law_stands s_Watch_copied s_Watch_go_on s_Watch_hear s_Watch_state s_Watch_events s_Watch___init__ s_Watch___eq__ s_Watch___repr__ d σ S Q = (hName 15) d σ S Q := rfl
def b_law_1 (K : PySem.W.Frag) (s__law_row : Spd) (s__law_cell_at : Spd) (s__law_rule : Spd) (s__law_alike : Spd) (s__law_stands : Spd) (s_Watch_copied : Spd) (s_Watch_go_on : Spd) (s_Watch_hear : Spd) (s_Watch_state : Spd) (s_Watch_events : Spd) (s_Watch___init__ : Spd) (s_Watch___eq__ : Spd) (s_Watch___repr__ : Spd) : TSd := (dSeq (dAsg (dLst (dCons (dFrz (dMeth (He.ga K "Watch") "events" s_Watch_events [] (dOp dIx (dOp dIx (dVar 4) (dVar 15)) (dC (.int 0))) dNil)) (dCons (dMeth (He.ga K "Watch") "state" s_Watch_state [] (dOp dIx (dOp dIx (dVar 4) (dVar 15)) (dC (.int 0))) dNil) dNil))) (hName 11)) (dSeq (dIf (dNotT (dTest (dCall s__law_alike [] (dCons (dVar 11) (dCons (dSlice (dOp dIx (dVar 13) (dVar 15)) (dPart (dC (.int 1))) (dPart (dC (.int 3)))) dNil))))) (dRet (dC (.bl false))) dNext) (dFor (nRng1 (dCons (dCB dLen (dCons (dVar 4) dNil)) dNil)) (g_law_2 K s__law_row s__law_cell_at s__law_rule s__law_alike s__law_stands s_Watch_copied s_Watch_go_on s_Watch_hear s_Watch_state s_Watch_events s_Watch___init__ s_Watch___eq__ s_Watch___repr__) (b_law_2 K s__law_row s__law_cell_at s__law_rule s__law_alike s__law_stands s_Watch_copied s_Watch_go_on s_Watch_hear s_Watch_state s_Watch_events s_Watch___init__ s_Watch___eq__ s_Watch___repr__))))
theorem u_b_law_1 {s__law_row : Spd} {s__law_cell_at : Spd} {s__law_rule : Spd} {s__law_alike : Spd} {s__law_stands : Spd} {s_Watch_copied : Spd} {s_Watch_go_on : Spd} {s_Watch_hear : Spd} {s_Watch_state : Spd} {s_Watch_events : Spd} {s_Watch___init__ : Spd} {s_Watch___eq__ : Spd} {s_Watch___repr__ : Spd} {D : EndsD} {σ : Sd} {S : Sto} : b_law_1 K s__law_row s__law_cell_at s__law_rule s__law_alike s__law_stands s_Watch_copied s_Watch_go_on s_Watch_hear s_Watch_state s_Watch_events s_Watch___init__ s_Watch___eq__ s_Watch___repr__ D σ S = (dSeq (dAsg (dLst (dCons (dFrz (dMeth (He.ga K "Watch") "events" s_Watch_events [] (dOp dIx (dOp dIx (dVar 4) (dVar 15)) (dC (.int 0))) dNil)) (dCons (dMeth (He.ga K "Watch") "state" s_Watch_state [] (dOp dIx (dOp dIx (dVar 4) (dVar 15)) (dC (.int 0))) dNil) dNil))) (hName 11)) (dSeq (dIf (dNotT (dTest (dCall s__law_alike [] (dCons (dVar 11) (dCons (dSlice (dOp dIx (dVar 13) (dVar 15)) (dPart (dC (.int 1))) (dPart (dC (.int 3)))) dNil))))) (dRet (dC (.bl false))) dNext) (dFor (nRng1 (dCons (dCB dLen (dCons (dVar 4) dNil)) dNil)) (g_law_2 K s__law_row s__law_cell_at s__law_rule s__law_alike s__law_stands s_Watch_copied s_Watch_go_on s_Watch_hear s_Watch_state s_Watch_events s_Watch___init__ s_Watch___eq__ s_Watch___repr__) (b_law_2 K s__law_row s__law_cell_at s__law_rule s__law_alike s__law_stands s_Watch_copied s_Watch_go_on s_Watch_hear s_Watch_state s_Watch_events s_Watch___init__ s_Watch___eq__ s_Watch___repr__)))) D σ S := rfl
def g_law_0 (K : PySem.W.Frag) (s__law_row : Spd) (s__law_cell_at : Spd) (s__law_rule : Spd) (s__law_alike : Spd) (s__law_stands : Spd) (s_Watch_copied : Spd) (s_Watch_go_on : Spd) (s_Watch_hear : Spd) (s_Watch_state : Spd) (s_Watch_events : Spd) (s_Watch___init__ : Spd) (s_Watch___eq__ : Spd) (s_Watch___repr__ : Spd) : TGd := (hName 5)
theorem u_g_law_0 {s__law_row : Spd} {s__law_cell_at : Spd} {s__law_rule : Spd} {s__law_alike : Spd} {s__law_stands : Spd} {s_Watch_copied : Spd} {s_Watch_go_on : Spd} {s_Watch_hear : Spd} {s_Watch_state : Spd} {s_Watch_events : Spd} {s_Watch___init__ : Spd} {s_Watch___eq__ : Spd} {s_Watch___repr__ : Spd} {d : D} {σ : Sd} {S : Sto} {Q : Sd → Sto → Prop} : g_law_0 K s__law_row s__law_cell_at s__law_rule s__law_alike s__law_stands s_Watch_copied s_Watch_go_on s_Watch_hear s_Watch_state s_Watch_events s_Watch___init__ s_Watch___eq__ s_Watch___repr__ d σ S Q = (hName 5) d σ S Q := rfl
def b_law_0 (K : PySem.W.Frag) (s__law_row : Spd) (s__law_cell_at : Spd) (s__law_rule : Spd) (s__law_alike : Spd) (s__law_stands : Spd) (s_Watch_copied : Spd) (s_Watch_go_on : Spd) (s_Watch_hear : Spd) (s_Watch_state : Spd) (s_Watch_events : Spd) (s_Watch___init__ : Spd) (s_Watch___eq__ : Spd) (s_Watch___repr__ : Spd) : TSd := (dSeq (dAsg (dCall s__law_row [] (dCons (dVar 5) (dCons (dC (.int 8)) (dCons (dC (.int 29)) dNil)))) (hName 6)) (dSeq (dIf (dAndT (dTest (dOp dLt (dCB dLen (dCons (dVar 4) dNil)) (dC (.int 4)))) (dTest (dOp dEq (dOp dMod (dOp dIx (dVar 6) (dC (.int 0))) (dC (.int 5))) (dC (.int 0))))) (dSeq (dAsg (dOp dIx (dVar 4) (dOp dMod (dOp dIx (dVar 6) (dC (.int 1))) (dCB dLen (dCons (dVar 4) dNil)))) (hName 7)) (dDrop (dAppend (dVar 4) (dCons (dLstM (dCons (dMeth (He.ga K "Watch") "copied" s_Watch_copied [] (dOp dIx (dVar 7) (dC (.int 0))) dNil) (dCons (dOp dIx (dVar 7) (dC (.int 1))) (dCons (dCB dListOfM (dCons (dOp dIx (dVar 7) (dC (.int 2))) dNil)) (dCons (dOp dIx (dVar 7) (dC (.int 3))) dNil))))) dNil)))) dNext) (dSeq (dAsg (dOp dIx (dVar 4) (dOp dMod (dOp dIx (dVar 6) (dC (.int 2))) (dCB dLen (dCons (dVar 4) dNil)))) (hName 8)) (dSeq (dAsg (dC (.int 0)) (hName 9)) (dSeq (dIf (dTest (dOp (dIsG (!·)) (dOp dIx (dVar 8) (dC (.int 3))) (dC .non))) (dAsg (dOp dAdd (dOp dAdd (dOp dIx (dVar 8) (dC (.int 3))) (dC (.int 1))) (dOp dIx (dLst (dCons (dC (.int 0)) (dCons (dOp dMod (dOp dIx (dVar 6) (dC (.int 3))) (dC (.int 3))) (dCons (dOp dIx (dOp dIx (dVar 8) (dC (.int 1))) (dC (.int 5))) dNil)))) (dOp dMod (dOp dIx (dVar 6) (dC (.int 4))) (dC (.int 3))))) (hName 9)) dNext) (dSeq (dAsg (dMeth (He.ga K "Watch") "copied" s_Watch_copied [] (dOp dIx (dVar 8) (dC (.int 0))) dNil) (hName 10)) (dSeq (dIf (dTest (dOp dEq (dOp dMod (dOp dIx (dVar 6) (dC (.int 5))) (dC (.int 4))) (dC (.int 0)))) (dAsg (dLst (dCons (dFrz (dMeth (He.ga K "Watch") "go_on" s_Watch_go_on [] (dOp dIx (dVar 8) (dC (.int 0))) (dCons (dVar 9) dNil))) (dCons (dFrz (dMeth (He.ga K "Watch") "go_on" s_Watch_go_on [] (dVar 10) (dCons (dVar 9) dNil))) dNil))) (hName 11)) (dSeq (dAsg (dOp dIx (dLst (dCons (dC (.int 63)) (dCons (dC (.int 0)) (dCons (dOp dIx (dOp dIx (dVar 8) (dC (.int 1))) (dC (.int 3))) (dCons (dOp dMod (dOp dIx (dVar 6) (dC (.int 6))) (dC (.int 64))) dNil))))) (dOp dMod (dOp dIx (dVar 6) (dC (.int 7))) (dC (.int 4)))) (hName 12)) (dSeq (dAsg (dLst (dCons (dMeth (He.ga K "Watch") "hear" s_Watch_hear [] (dOp dIx (dVar 8) (dC (.int 0))) (dCons (dVar 9) (dCons (dVar 12) dNil))) (dCons (dMeth (He.ga K "Watch") "hear" s_Watch_hear [] (dVar 10) (dCons (dVar 9) (dCons (dVar 12) dNil))) dNil))) (hName 11)) (dDrop (dAppend (dOp dIx (dVar 8) (dC (.int 2))) (dCons (dTup (dCons (dVar 9) (dCons (dVar 12) (dCons (dC (.str "good")) dNil)))) dNil)))))) (dSeq (dIf (dOrT (dNotT (dTest (dCall s__law_alike [] (dCons (dOp dIx (dVar 11) (dC (.int 1))) (dCons (dOp dIx (dVar 11) (dC (.int 0))) dNil))))) (dTest (dOp (dEqI (He.ga K "Watch") s_Watch___eq__ (!·)) (dVar 10) (dOp dIx (dVar 8) (dC (.int 0)))))) (dRet (dC (.bl false))) dNext) (dSeq (dSetI (dVar 9) (dVar 8) (dC (.int 3))) (dSeq (dAsg (dLcR (dVar 4) (hName 14) dYes (dCall s__law_stands [] (dCons (dVar 14) dNil)) [14]) (hName 13)) (dFor (nRng1 (dCons (dCB dLen (dCons (dVar 4) dNil)) dNil)) (g_law_1 K s__law_row s__law_cell_at s__law_rule s__law_alike s__law_stands s_Watch_copied s_Watch_go_on s_Watch_hear s_Watch_state s_Watch_events s_Watch___init__ s_Watch___eq__ s_Watch___repr__) (b_law_1 K s__law_row s__law_cell_at s__law_rule s__law_alike s__law_stands s_Watch_copied s_Watch_go_on s_Watch_hear s_Watch_state s_Watch_events s_Watch___init__ s_Watch___eq__ s_Watch___repr__))))))))))))
theorem u_b_law_0 {s__law_row : Spd} {s__law_cell_at : Spd} {s__law_rule : Spd} {s__law_alike : Spd} {s__law_stands : Spd} {s_Watch_copied : Spd} {s_Watch_go_on : Spd} {s_Watch_hear : Spd} {s_Watch_state : Spd} {s_Watch_events : Spd} {s_Watch___init__ : Spd} {s_Watch___eq__ : Spd} {s_Watch___repr__ : Spd} {D : EndsD} {σ : Sd} {S : Sto} : b_law_0 K s__law_row s__law_cell_at s__law_rule s__law_alike s__law_stands s_Watch_copied s_Watch_go_on s_Watch_hear s_Watch_state s_Watch_events s_Watch___init__ s_Watch___eq__ s_Watch___repr__ D σ S = (dSeq (dAsg (dCall s__law_row [] (dCons (dVar 5) (dCons (dC (.int 8)) (dCons (dC (.int 29)) dNil)))) (hName 6)) (dSeq (dIf (dAndT (dTest (dOp dLt (dCB dLen (dCons (dVar 4) dNil)) (dC (.int 4)))) (dTest (dOp dEq (dOp dMod (dOp dIx (dVar 6) (dC (.int 0))) (dC (.int 5))) (dC (.int 0))))) (dSeq (dAsg (dOp dIx (dVar 4) (dOp dMod (dOp dIx (dVar 6) (dC (.int 1))) (dCB dLen (dCons (dVar 4) dNil)))) (hName 7)) (dDrop (dAppend (dVar 4) (dCons (dLstM (dCons (dMeth (He.ga K "Watch") "copied" s_Watch_copied [] (dOp dIx (dVar 7) (dC (.int 0))) dNil) (dCons (dOp dIx (dVar 7) (dC (.int 1))) (dCons (dCB dListOfM (dCons (dOp dIx (dVar 7) (dC (.int 2))) dNil)) (dCons (dOp dIx (dVar 7) (dC (.int 3))) dNil))))) dNil)))) dNext) (dSeq (dAsg (dOp dIx (dVar 4) (dOp dMod (dOp dIx (dVar 6) (dC (.int 2))) (dCB dLen (dCons (dVar 4) dNil)))) (hName 8)) (dSeq (dAsg (dC (.int 0)) (hName 9)) (dSeq (dIf (dTest (dOp (dIsG (!·)) (dOp dIx (dVar 8) (dC (.int 3))) (dC .non))) (dAsg (dOp dAdd (dOp dAdd (dOp dIx (dVar 8) (dC (.int 3))) (dC (.int 1))) (dOp dIx (dLst (dCons (dC (.int 0)) (dCons (dOp dMod (dOp dIx (dVar 6) (dC (.int 3))) (dC (.int 3))) (dCons (dOp dIx (dOp dIx (dVar 8) (dC (.int 1))) (dC (.int 5))) dNil)))) (dOp dMod (dOp dIx (dVar 6) (dC (.int 4))) (dC (.int 3))))) (hName 9)) dNext) (dSeq (dAsg (dMeth (He.ga K "Watch") "copied" s_Watch_copied [] (dOp dIx (dVar 8) (dC (.int 0))) dNil) (hName 10)) (dSeq (dIf (dTest (dOp dEq (dOp dMod (dOp dIx (dVar 6) (dC (.int 5))) (dC (.int 4))) (dC (.int 0)))) (dAsg (dLst (dCons (dFrz (dMeth (He.ga K "Watch") "go_on" s_Watch_go_on [] (dOp dIx (dVar 8) (dC (.int 0))) (dCons (dVar 9) dNil))) (dCons (dFrz (dMeth (He.ga K "Watch") "go_on" s_Watch_go_on [] (dVar 10) (dCons (dVar 9) dNil))) dNil))) (hName 11)) (dSeq (dAsg (dOp dIx (dLst (dCons (dC (.int 63)) (dCons (dC (.int 0)) (dCons (dOp dIx (dOp dIx (dVar 8) (dC (.int 1))) (dC (.int 3))) (dCons (dOp dMod (dOp dIx (dVar 6) (dC (.int 6))) (dC (.int 64))) dNil))))) (dOp dMod (dOp dIx (dVar 6) (dC (.int 7))) (dC (.int 4)))) (hName 12)) (dSeq (dAsg (dLst (dCons (dMeth (He.ga K "Watch") "hear" s_Watch_hear [] (dOp dIx (dVar 8) (dC (.int 0))) (dCons (dVar 9) (dCons (dVar 12) dNil))) (dCons (dMeth (He.ga K "Watch") "hear" s_Watch_hear [] (dVar 10) (dCons (dVar 9) (dCons (dVar 12) dNil))) dNil))) (hName 11)) (dDrop (dAppend (dOp dIx (dVar 8) (dC (.int 2))) (dCons (dTup (dCons (dVar 9) (dCons (dVar 12) (dCons (dC (.str "good")) dNil)))) dNil)))))) (dSeq (dIf (dOrT (dNotT (dTest (dCall s__law_alike [] (dCons (dOp dIx (dVar 11) (dC (.int 1))) (dCons (dOp dIx (dVar 11) (dC (.int 0))) dNil))))) (dTest (dOp (dEqI (He.ga K "Watch") s_Watch___eq__ (!·)) (dVar 10) (dOp dIx (dVar 8) (dC (.int 0)))))) (dRet (dC (.bl false))) dNext) (dSeq (dSetI (dVar 9) (dVar 8) (dC (.int 3))) (dSeq (dAsg (dLcR (dVar 4) (hName 14) dYes (dCall s__law_stands [] (dCons (dVar 14) dNil)) [14]) (hName 13)) (dFor (nRng1 (dCons (dCB dLen (dCons (dVar 4) dNil)) dNil)) (g_law_1 K s__law_row s__law_cell_at s__law_rule s__law_alike s__law_stands s_Watch_copied s_Watch_go_on s_Watch_hear s_Watch_state s_Watch_events s_Watch___init__ s_Watch___eq__ s_Watch___repr__) (b_law_1 K s__law_row s__law_cell_at s__law_rule s__law_alike s__law_stands s_Watch_copied s_Watch_go_on s_Watch_hear s_Watch_state s_Watch_events s_Watch___init__ s_Watch___eq__ s_Watch___repr__)))))))))))) D σ S := rfl
def g_law_3 (K : PySem.W.Frag) (s__law_row : Spd) (s__law_cell_at : Spd) (s__law_rule : Spd) (s__law_alike : Spd) (s__law_stands : Spd) (s_Watch_copied : Spd) (s_Watch_go_on : Spd) (s_Watch_hear : Spd) (s_Watch_state : Spd) (s_Watch_events : Spd) (s_Watch___init__ : Spd) (s_Watch___eq__ : Spd) (s_Watch___repr__ : Spd) : TGd := (hName 18)
theorem u_g_law_3 {s__law_row : Spd} {s__law_cell_at : Spd} {s__law_rule : Spd} {s__law_alike : Spd} {s__law_stands : Spd} {s_Watch_copied : Spd} {s_Watch_go_on : Spd} {s_Watch_hear : Spd} {s_Watch_state : Spd} {s_Watch_events : Spd} {s_Watch___init__ : Spd} {s_Watch___eq__ : Spd} {s_Watch___repr__ : Spd} {d : D} {σ : Sd} {S : Sto} {Q : Sd → Sto → Prop} : g_law_3 K s__law_row s__law_cell_at s__law_rule s__law_alike s__law_stands s_Watch_copied s_Watch_go_on s_Watch_hear s_Watch_state s_Watch_events s_Watch___init__ s_Watch___eq__ s_Watch___repr__ d σ S Q = (hName 18) d σ S Q := rfl
def b_law_3 (K : PySem.W.Frag) (s__law_row : Spd) (s__law_cell_at : Spd) (s__law_rule : Spd) (s__law_alike : Spd) (s__law_stands : Spd) (s_Watch_copied : Spd) (s_Watch_go_on : Spd) (s_Watch_hear : Spd) (s_Watch_state : Spd) (s_Watch_events : Spd) (s_Watch___init__ : Spd) (s_Watch___eq__ : Spd) (s_Watch___repr__ : Spd) : TSd := (dIf (dTest (dOp (dEqI (He.ga K "Watch") s_Watch___eq__ id) (dOp dIx (dOp dIx (dVar 4) (dC (.int 0))) (dC (.int 0))) (dVar 18))) (dRet (dC (.bl false))) dNext)
theorem u_b_law_3 {s__law_row : Spd} {s__law_cell_at : Spd} {s__law_rule : Spd} {s__law_alike : Spd} {s__law_stands : Spd} {s_Watch_copied : Spd} {s_Watch_go_on : Spd} {s_Watch_hear : Spd} {s_Watch_state : Spd} {s_Watch_events : Spd} {s_Watch___init__ : Spd} {s_Watch___eq__ : Spd} {s_Watch___repr__ : Spd} {D : EndsD} {σ : Sd} {S : Sto} : b_law_3 K s__law_row s__law_cell_at s__law_rule s__law_alike s__law_stands s_Watch_copied s_Watch_go_on s_Watch_hear s_Watch_state s_Watch_events s_Watch___init__ s_Watch___eq__ s_Watch___repr__ D σ S = (dIf (dTest (dOp (dEqI (He.ga K "Watch") s_Watch___eq__ id) (dOp dIx (dOp dIx (dVar 4) (dC (.int 0))) (dC (.int 0))) (dVar 18))) (dRet (dC (.bl false))) dNext) D σ S := rfl
def d_law (K : PySem.W.Frag) (s__law_row : Spd) (s__law_cell_at : Spd) (s__law_rule : Spd) (s__law_alike : Spd) (s__law_stands : Spd) (s_Watch_copied : Spd) (s_Watch_go_on : Spd) (s_Watch_hear : Spd) (s_Watch_state : Spd) (s_Watch_events : Spd) (s_Watch___init__ : Spd) (s_Watch___eq__ : Spd) (s_Watch___repr__ : Spd) : TSd := (dSeq (dAsg (dCall s__law_row [] (dCons (dCall s__law_cell_at [] (dCons (dVar 0) (dCons (dC (.int 0)) dNil))) (dCons (dC (.int 20)) (dCons (dC (.int 23)) dNil)))) (hName 1)) (dSeq (dPar 2 3 (dCons (dCall s__law_rule [] (dCons (dC (.str "a")) (dCons (dC (.str "p")) (dCons (dVar 1) dNil)))) (dCons (dCall s__law_rule [] (dCons (dOp dIx (dLst (dCons (dC (.str "a")) (dCons (dC (.str "b")) dNil))) (dOp dMod (dOp dIx (dVar 1) (dC (.int 15))) (dC (.int 2)))) (dCons (dOp dIx (dLst (dCons (dC (.str "p")) (dCons (dC (.str "q")) dNil))) (dOp dMod (dOp dIx (dVar 1) (dC (.int 16))) (dC (.int 2)))) (dCons (dSliceA (dVar 1) (dPart (dC (.int 7))) dNoPart) dNil)))) dNil))) (dSeq (dIf (dTest (dOp dGt (dOp dMod (dOp dIx (dVar 1) (dC (.int 14))) (dC (.int 3))) (dC (.int 0)))) (dAsg (dOp dIx (dLst (dCons (dVar 2) (dCons (dVar 2) (dCons (dOp dAddT (dTup (dCons (dC (.str "b")) dNil)) (dSliceA (dVar 2) (dPart (dC (.int 1))) dNoPart)) (dCons (dOp dAddT (dOp dAddT (dSliceA (dVar 2) dNoPart (dPart (dC (.int 1)))) (dTup (dCons (dC (.str "q")) dNil))) (dSliceA (dVar 2) (dPart (dC (.int 2))) dNoPart)) dNil))))) (dOp dMod (dOp dIx (dVar 1) (dC (.int 17))) (dC (.int 4)))) (hName 3)) dNext) (dSeq (dAsg (dLstM (dCons (dLstM (dCons (dMake (He.ga K "Watch") s_Watch___init__ [] (dCons (dVar 2) dNil)) (dCons (dVar 2) (dCons (dLstM dNil) (dCons (dC .non) dNil))))) (dCons (dLstM (dCons (dMake (He.ga K "Watch") s_Watch___init__ [] (dCons (dVar 3) dNil)) (dCons (dVar 3) (dCons (dLstM dNil) (dCons (dC .non) dNil))))) dNil))) (hName 4)) (dSeq (dFor (nAny (dOp dAdd (dSlice (dVar 0) (dPart (dC (.int 3))) (dPart (dC (.int 33)))) (dLst (dCons (dCall s__law_cell_at [] (dCons (dVar 0) (dCons (dC (.int 2)) dNil))) dNil)))) (g_law_0 K s__law_row s__law_cell_at s__law_rule s__law_alike s__law_stands s_Watch_copied s_Watch_go_on s_Watch_hear s_Watch_state s_Watch_events s_Watch___init__ s_Watch___eq__ s_Watch___repr__) (b_law_0 K s__law_row s__law_cell_at s__law_rule s__law_alike s__law_stands s_Watch_copied s_Watch_go_on s_Watch_hear s_Watch_state s_Watch_events s_Watch___init__ s_Watch___eq__ s_Watch___repr__)) (dSeq (dFor (nAny (dLst (dCons (dC .non) (dCons (dC (.int 0)) (dCons (dVar 2) (dCons (dFrz (dMeth (He.ga K "Watch") "events" s_Watch_events [] (dOp dIx (dOp dIx (dVar 4) (dC (.int 0))) (dC (.int 0))) dNil)) (dCons (dC (.str "watch")) dNil))))))) (g_law_3 K s__law_row s__law_cell_at s__law_rule s__law_alike s__law_stands s_Watch_copied s_Watch_go_on s_Watch_hear s_Watch_state s_Watch_events s_Watch___init__ s_Watch___eq__ s_Watch___repr__) (b_law_3 K s__law_row s__law_cell_at s__law_rule s__law_alike s__law_stands s_Watch_copied s_Watch_go_on s_Watch_hear s_Watch_state s_Watch_events s_Watch___init__ s_Watch___eq__ s_Watch___repr__)) (dRet (dCB dIsi (dCons (dCB (dReprI (He.ga K "Watch") s_Watch___repr__) (dCons (dOp dIx (dOp dIx (dVar 4) (dC (.int 0))) (dC (.int 0))) dNil)) (dCons (dC (.ty "str")) dNil))))))))))
theorem w_law {k : Nat} {f : Addr} {cdv : Value} {A : Around} {outer : List Env} {s : Shared} {H : Hp} {E : XK} {s__law_row : Spd} {s__law_cell_at : Spd} {s__law_rule : Spd} {s__law_alike : Spd} {s__law_stands : Spd} {s_Watch_copied : Spd} {s_Watch_go_on : Spd} {s_Watch_hear : Spd} {s_Watch_state : Spd} {s_Watch_events : Spd} {s_Watch___init__ : Spd} {s_Watch___eq__ : Spd} {s_Watch___repr__ : Spd} (T : Txt K mg) (hgd : A.guards = some []) (hr : Room (k + 1) (A.deeper (envOfC "law" (defScope st_law) s.heap.objs.size f cdv))) (R__law_row : Rdy P w K mg base (k + 1) "_law_row" [] [] s__law_row) (R__law_cell_at : Rdy P w K mg base (k + 1) "_law_cell_at" [] [] s__law_cell_at) (R__law_rule : Rdy P w K mg base (k + 1) "_law_rule" [] [] s__law_rule) (R__law_alike : Rdy P w K mg base (k + 1) "_law_alike" [] [] s__law_alike) (R__law_stands : Rdy P w K mg base (k + 1) "_law_stands" [] [] s__law_stands) (R_Watch_copied : RdyM P w K mg base (k + 1) (He.ga K "Watch") "copied" [] [] s_Watch_copied) (R_Watch_go_on : RdyM P w K mg base (k + 1) (He.ga K "Watch") "go_on" [] [] s_Watch_go_on) (R_Watch_hear : RdyM P w K mg base (k + 1) (He.ga K "Watch") "hear" [] [] s_Watch_hear) (R_Watch_state : RdyM P w K mg base (k + 1) (He.ga K "Watch") "state" [] [] s_Watch_state) (R_Watch_events : RdyM P w K mg base (k + 1) (He.ga K "Watch") "events" [] [] s_Watch_events) (M_Watch : RdyC P w K mg base k "Watch" (He.ga K "Watch") [] [] s_Watch___init__) (E_Watch___eq__ : RdyM P w K mg base k (He.ga K "Watch") "__eq__" [] [] s_Watch___eq__) (E_Watch___repr__ : RdyM P w K mg base k (He.ga K "Watch") "__repr__" [] [] s_Watch___repr__) :
    ∃ t, VSs (cxOf (L2.CX P w) P w K mg base ["script", "row", "rule", "other", "some", "cell", "draws", "elder", "box", "time", "copy", "told", "worth", "stands", "one", "k", "j", "same", "thing"] "law" (defScope st_law) f cdv A outer s H E) (wDef E) (defBody st_law) t (d_law K s__law_row s__law_cell_at s__law_rule s__law_alike s__law_stands s_Watch_copied s_Watch_go_on s_Watch_hear s_Watch_state s_Watch_events s_Watch___init__ s_Watch___eq__ s_Watch___repr__) :=
  have hu1 := room1 hr
  have hu64 := hr.units
  have hu66 := room66 hr
  ⟨_, by exact (vss_cons (vs_name sc_law.nd (ve_callR R__law_row hgd hr (takes_of rfl rfl rfl rfl) (va_cons (ve_callR R__law_cell_at hgd hr (takes_of rfl rfl rfl rfl) (va_cons (ve_v 0) (va_cons ve_int va_nil))) (va_cons ve_int (va_cons ve_int va_nil))))) (vss_cons (vs_pair rfl sc_law.nd (va_cons (ve_callR R__law_rule hgd hr (takes_of rfl rfl rfl rfl) (va_cons ve_str (va_cons ve_str (va_cons (ve_v 1) va_nil)))) (va_cons (ve_callR R__law_rule hgd hr (takes_of rfl rfl rfl rfl) (va_cons (ve_item hu1 (ve_lst (va_cons ve_str (va_cons ve_str va_nil))) (ve_mod (ve_item hu1 (ve_v 1) ve_int) ve_int)) (va_cons (ve_item hu1 (ve_lst (va_cons ve_str (va_cons ve_str va_nil))) (ve_mod (ve_item hu1 (ve_v 1) ve_int) ve_int)) (va_cons (ve_sliceA (ve_v 1) (vo_some ve_int) vo_none) va_nil)))) va_nil))) (vss_cons (vs_if (vt_gt (ve_mod (ve_item hu1 (ve_v 1) ve_int) ve_int) ve_int) (vss_one (vs_name sc_law.nd (ve_item hu1 (ve_lst (va_cons (ve_v 2) (va_cons (ve_v 2) (va_cons (ve_addT (ve_tup (va_cons ve_str va_nil)) (ve_sliceA (ve_v 2) (vo_some ve_int) vo_none)) (va_cons (ve_addT (ve_addT (ve_sliceA (ve_v 2) vo_none (vo_some ve_int)) (ve_tup (va_cons ve_str va_nil))) (ve_sliceA (ve_v 2) (vo_some ve_int) vo_none)) va_nil))))) (ve_mod (ve_item hu1 (ve_v 1) ve_int) ve_int)))) vss_nil) (vss_cons (vs_name sc_law.nd (ve_lstM (va_cons (ve_lstM (va_cons (ve_makeR M_Watch hgd hr (takes_of rfl rfl rfl rfl) (va_cons (ve_v 2) va_nil)) (va_cons (ve_v 2) (va_cons (ve_lstM va_nil) (va_cons ve_non va_nil))))) (va_cons (ve_lstM (va_cons (ve_makeR M_Watch hgd hr (takes_of rfl rfl rfl rfl) (va_cons (ve_v 3) va_nil)) (va_cons (ve_v 3) (va_cons (ve_lstM va_nil) (va_cons ve_non va_nil))))) va_nil)))) (vss_cons (vs_for (vs := [5]) (passes_of rfl) rfl (vi_any (ve_add (ve_slice (ve_v 0) (vo_some ve_int) (vo_some ve_int)) (ve_lst (va_cons (ve_callR R__law_cell_at hgd hr (takes_of rfl rfl rfl rfl) (va_cons (ve_v 0) (va_cons ve_int va_nil))) va_nil)))) (vg_n sc_law.nd) (vss_cons (vs_name sc_law.nd (ve_callR R__law_row hgd hr (takes_of rfl rfl rfl rfl) (va_cons (ve_v 5) (va_cons ve_int (va_cons ve_int va_nil))))) (vss_cons (vs_if (vt_w (vw_and (vt_lt (ve_cb snd_len call_lenA T.b_len (va_cons (ve_v 4) va_nil)) ve_int) (vw_and1 (vt_eq hu64 (ve_mod (ve_item hu1 (ve_v 6) ve_int) ve_int) ve_int)))) (vss_cons (vs_name sc_law.nd (ve_item hu1 (ve_v 4) (ve_mod (ve_item hu1 (ve_v 6) ve_int) (ve_cb snd_len call_lenA T.b_len (va_cons (ve_v 4) va_nil))))) (vss_one (vs_expr (ve_app (ve_v 4) (va_cons (ve_lstM (va_cons (ve_methR0 R_Watch_copied T.C_Watch hgd hr (takes_of rfl rfl rfl rfl) (ve_item hu1 (ve_v 7) ve_int)) (va_cons (ve_item hu1 (ve_v 7) ve_int) (va_cons (ve_ct snd_listOfM call_list_of T.b_list (va_cons (ve_item hu1 (ve_v 7) ve_int) va_nil)) (va_cons (ve_item hu1 (ve_v 7) ve_int) va_nil))))) va_nil))))) vss_nil) (vss_cons (vs_name sc_law.nd (ve_item hu1 (ve_v 4) (ve_mod (ve_item hu1 (ve_v 6) ve_int) (ve_cb snd_len call_lenA T.b_len (va_cons (ve_v 4) va_nil))))) (vss_cons (vs_name sc_law.nd ve_int) (vss_cons (vs_if (vt_isnot (ve_item hu1 (ve_v 8) ve_int) ve_non) (vss_one (vs_name sc_law.nd (ve_add (ve_add (ve_item hu1 (ve_v 8) ve_int) ve_int) (ve_item hu1 (ve_lst (va_cons ve_int (va_cons (ve_mod (ve_item hu1 (ve_v 6) ve_int) ve_int) (va_cons (ve_item hu1 (ve_item hu1 (ve_v 8) ve_int) ve_int) va_nil)))) (ve_mod (ve_item hu1 (ve_v 6) ve_int) ve_int))))) vss_nil) (vss_cons (vs_name sc_law.nd (ve_methR0 R_Watch_copied T.C_Watch hgd hr (takes_of rfl rfl rfl rfl) (ve_item hu1 (ve_v 8) ve_int))) (vss_cons (vs_if (vt_eq hu64 (ve_mod (ve_item hu1 (ve_v 6) ve_int) ve_int) ve_int) (vss_one (vs_name sc_law.nd (ve_lst (va_cons (ve_frz (ve_methR R_Watch_go_on T.C_Watch hgd hr (takes_of rfl rfl rfl rfl) (ve_item hu1 (ve_v 8) ve_int) (va_cons (ve_v 9) va_nil))) (va_cons (ve_frz (ve_methR R_Watch_go_on T.C_Watch hgd hr (takes_of rfl rfl rfl rfl) (ve_v 10) (va_cons (ve_v 9) va_nil))) va_nil))))) (vss_cons (vs_name sc_law.nd (ve_item hu1 (ve_lst (va_cons ve_int (va_cons ve_int (va_cons (ve_item hu1 (ve_item hu1 (ve_v 8) ve_int) ve_int) (va_cons (ve_mod (ve_item hu1 (ve_v 6) ve_int) ve_int) va_nil))))) (ve_mod (ve_item hu1 (ve_v 6) ve_int) ve_int))) (vss_cons (vs_name sc_law.nd (ve_lst (va_cons (ve_methR R_Watch_hear T.C_Watch hgd hr (takes_of rfl rfl rfl rfl) (ve_item hu1 (ve_v 8) ve_int) (va_cons (ve_v 9) (va_cons (ve_v 12) va_nil))) (va_cons (ve_methR R_Watch_hear T.C_Watch hgd hr (takes_of rfl rfl rfl rfl) (ve_v 10) (va_cons (ve_v 9) (va_cons (ve_v 12) va_nil))) va_nil)))) (vss_one (vs_expr (ve_app (ve_item hu1 (ve_v 8) ve_int) (va_cons (ve_tup (va_cons (ve_v 9) (va_cons (ve_v 12) (va_cons ve_str va_nil)))) va_nil))))))) (vss_cons (vs_if (vt_w (vw_or (vt_not (vt_val (ve_callR R__law_alike hgd hr (takes_of rfl rfl rfl rfl) (va_cons (ve_item hu1 (ve_v 11) ve_int) (va_cons (ve_item hu1 (ve_v 11) ve_int) va_nil))))) (vw_or1 (vt_neI E_Watch___eq__ T.E_Watch hgd hr (ve_v 10) (ve_item hu1 (ve_v 8) ve_int))))) (vss_one (vs_ret ve_bl)) vss_nil) (vss_cons (vs_setI hu1 (ve_v 9) (ve_v 8) ve_int) (vss_cons (vs_setLcR (own := [("one", 14)]) rfl sc_law.nd (ve_v 4) (blkOk_by (N := ["script", "row", "rule", "other", "some", "cell", "draws", "elder", "box", "time", "copy", "told", "worth", "stands", "one", "k", "j", "same", "thing"]) (sc := defScope st_law) (own := [("one", 14)]) (by decide +kernel)) (fun _ _ _ _ _ => ⟨_, (vg_n sc_law.nd)⟩) (fun _ _ _ _ _ => ⟨_, vts_nil⟩) (fun _ _ _ _ _ => ⟨_, (ve_callR R__law_stands hgd hr takes0 (va_cons (ve_v 14) va_nil))⟩)) (vss_one (vs_for (vs := [15]) (passes_of rfl) rfl (vi_range1 T.b_range (va_cons (ve_cb snd_len call_lenA T.b_len (va_cons (ve_v 4) va_nil)) va_nil)) (vg_n sc_law.nd) (vss_cons (vs_name sc_law.nd (ve_lst (va_cons (ve_frz (ve_methR0 R_Watch_events T.C_Watch hgd hr (takes_of rfl rfl rfl rfl) (ve_item hu1 (ve_item hu1 (ve_v 4) (ve_v 15)) ve_int))) (va_cons (ve_methR0 R_Watch_state T.C_Watch hgd hr (takes_of rfl rfl rfl rfl) (ve_item hu1 (ve_item hu1 (ve_v 4) (ve_v 15)) ve_int)) va_nil)))) (vss_cons (vs_if (vt_not (vt_val (ve_callR R__law_alike hgd hr (takes_of rfl rfl rfl rfl) (va_cons (ve_v 11) (va_cons (ve_slice (ve_item hu1 (ve_v 13) (ve_v 15)) (vo_some ve_int) (vo_some ve_int)) va_nil))))) (vss_one (vs_ret ve_bl)) vss_nil) (vss_one (vs_for (vs := [16]) (passes_of rfl) rfl (vi_range1 T.b_range (va_cons (ve_cb snd_len call_lenA T.b_len (va_cons (ve_v 4) va_nil)) va_nil)) (vg_n sc_law.nd) (vss_cons (vs_name sc_law.nd (ve_eq hu64 (ve_item hu1 (ve_v 13) (ve_v 15)) (ve_item hu1 (ve_v 13) (ve_v 16)))) (vss_one (vs_if (vt_ne hu64 (ve_eqI E_Watch___eq__ T.E_Watch hgd hr (ve_item hu1 (ve_item hu1 (ve_v 4) (ve_v 15)) ve_int) (ve_item hu1 (ve_item hu1 (ve_v 4) (ve_v 16)) ve_int)) (ve_v 17)) (vss_one (vs_ret ve_bl)) vss_nil)))))))))))))))))))) (vss_cons (vs_for (vs := [18]) (passes_of rfl) rfl (vi_any (ve_lst (va_cons ve_non (va_cons ve_int (va_cons (ve_v 2) (va_cons (ve_frz (ve_methR0 R_Watch_events T.C_Watch hgd hr (takes_of rfl rfl rfl rfl) (ve_item hu1 (ve_item hu1 (ve_v 4) ve_int) ve_int))) (va_cons ve_str va_nil))))))) (vg_n sc_law.nd) (vss_one (vs_if (vt_eqI E_Watch___eq__ T.E_Watch hgd hr (ve_item hu1 (ve_item hu1 (ve_v 4) ve_int) ve_int) (ve_v 18)) (vss_one (vs_ret ve_bl)) vss_nil))) (vss_one (vs_ret (ve_cb snd_isi call_isA T.b_isinstance (va_cons (ve_reprI E_Watch___repr__ hgd hr T.b_repr (va_cons (ve_item hu1 (ve_item hu1 (ve_v 4) ve_int) ve_int) va_nil)) (va_cons (ve_ty T.b_str VL.boot_str) va_nil)))))))))))⟩
/-- what is left to be shown of law: BodyOk -/
theorem g_law {k : Nat} {f : Addr} {fd : FuncData} {s_ : Spd} {s__law_row : Spd} {s__law_cell_at : Spd} {s__law_rule : Spd} {s__law_alike : Spd} {s__law_stands : Spd} {s_Watch_copied : Spd} {s_Watch_go_on : Spd} {s_Watch_hear : Spd} {s_Watch_state : Spd} {s_Watch_events : Spd} {s_Watch___init__ : Spd} {s_Watch___eq__ : Spd} {s_Watch___repr__ : Spd} (T : Txt K mg) (Fd : FunD K "law" "law" (defArgs st_law) (defBody st_law) (defScope st_law) [] [] f fd) (R__law_row : Rdy P w K mg base (k + 1) "_law_row" [] [] s__law_row) (R__law_cell_at : Rdy P w K mg base (k + 1) "_law_cell_at" [] [] s__law_cell_at) (R__law_rule : Rdy P w K mg base (k + 1) "_law_rule" [] [] s__law_rule) (R__law_alike : Rdy P w K mg base (k + 1) "_law_alike" [] [] s__law_alike) (R__law_stands : Rdy P w K mg base (k + 1) "_law_stands" [] [] s__law_stands) (R_Watch_copied : RdyM P w K mg base (k + 1) (He.ga K "Watch") "copied" [] [] s_Watch_copied) (R_Watch_go_on : RdyM P w K mg base (k + 1) (He.ga K "Watch") "go_on" [] [] s_Watch_go_on) (R_Watch_hear : RdyM P w K mg base (k + 1) (He.ga K "Watch") "hear" [] [] s_Watch_hear) (R_Watch_state : RdyM P w K mg base (k + 1) (He.ga K "Watch") "state" [] [] s_Watch_state) (R_Watch_events : RdyM P w K mg base (k + 1) (He.ga K "Watch") "events" [] [] s_Watch_events) (M_Watch : RdyC P w K mg base k "Watch" (He.ga K "Watch") [] [] s_Watch___init__) (E_Watch___eq__ : RdyM P w K mg base k (He.ga K "Watch") "__eq__" [] [] s_Watch___eq__) (E_Watch___repr__ : RdyM P w K mg base k (He.ga K "Watch") "__repr__" [] [] s_Watch___repr__)
    (len : ∀ ds S Q E, s_ ds S Q E → ds.length = 1) (ok : BodyOk (d_law K s__law_row s__law_cell_at s__law_rule s__law_alike s__law_stands s_Watch_copied s_Watch_go_on s_Watch_hear s_Watch_state s_Watch_events s_Watch___init__ s_Watch___eq__ s_Watch___repr__) ["script", "row", "rule", "other", "some", "cell", "draws", "elder", "box", "time", "copy", "told", "worth", "stands", "one", "k", "j", "same", "thing"] s_) : FnG P w K mg base (k + 2) f fd ["script"] (lift K s_) :=
  def_ok Fd sc_law len fun cdv A outer s H E hgd hr => (w_law T hgd hr R__law_row R__law_cell_at R__law_rule R__law_alike R__law_stands R_Watch_copied R_Watch_go_on R_Watch_hear R_Watch_state R_Watch_events M_Watch E_Watch___eq__ E_Watch___repr__).elim fun t v => ⟨t, _, v, ok⟩
theorem r_law {k : Nat} {f : Addr} {fd : FuncData} {s_ : Spd} {s__law_row : Spd} {s__law_cell_at : Spd} {s__law_rule : Spd} {s__law_alike : Spd} {s__law_stands : Spd} {s_Watch_copied : Spd} {s_Watch_go_on : Spd} {s_Watch_hear : Spd} {s_Watch_state : Spd} {s_Watch_events : Spd} {s_Watch___init__ : Spd} {s_Watch___eq__ : Spd} {s_Watch___repr__ : Spd} (T : Txt K mg) (hm : mg "law" = some (.ref f)) (Fd : FunD K "law" "law" (defArgs st_law) (defBody st_law) (defScope st_law) [] [] f fd) (R__law_row : Rdy P w K mg base (k + 1) "_law_row" [] [] s__law_row) (R__law_cell_at : Rdy P w K mg base (k + 1) "_law_cell_at" [] [] s__law_cell_at) (R__law_rule : Rdy P w K mg base (k + 1) "_law_rule" [] [] s__law_rule) (R__law_alike : Rdy P w K mg base (k + 1) "_law_alike" [] [] s__law_alike) (R__law_stands : Rdy P w K mg base (k + 1) "_law_stands" [] [] s__law_stands) (R_Watch_copied : RdyM P w K mg base (k + 1) (He.ga K "Watch") "copied" [] [] s_Watch_copied) (R_Watch_go_on : RdyM P w K mg base (k + 1) (He.ga K "Watch") "go_on" [] [] s_Watch_go_on) (R_Watch_hear : RdyM P w K mg base (k + 1) (He.ga K "Watch") "hear" [] [] s_Watch_hear) (R_Watch_state : RdyM P w K mg base (k + 1) (He.ga K "Watch") "state" [] [] s_Watch_state) (R_Watch_events : RdyM P w K mg base (k + 1) (He.ga K "Watch") "events" [] [] s_Watch_events) (M_Watch : RdyC P w K mg base k "Watch" (He.ga K "Watch") [] [] s_Watch___init__) (E_Watch___eq__ : RdyM P w K mg base k (He.ga K "Watch") "__eq__" [] [] s_Watch___eq__) (E_Watch___repr__ : RdyM P w K mg base k (He.ga K "Watch") "__repr__" [] [] s_Watch___repr__)
    (len : ∀ ds S Q E, s_ ds S Q E → ds.length = 1) (ok : BodyOk (d_law K s__law_row s__law_cell_at s__law_rule s__law_alike s__law_stands s_Watch_copied s_Watch_go_on s_Watch_hear s_Watch_state s_Watch_events s_Watch___init__ s_Watch___eq__ s_Watch___repr__) ["script", "row", "rule", "other", "some", "cell", "draws", "elder", "box", "time", "copy", "told", "worth", "stands", "one", "k", "j", "same", "thing"] s_) : Rdy P w K mg base (k + 2) "law" [] [] s_ :=
  rdy_of (g_law T Fd R__law_row R__law_cell_at R__law_rule R__law_alike R__law_stands R_Watch_copied R_Watch_go_on R_Watch_hear R_Watch_state R_Watch_events M_Watch E_Watch___eq__ E_Watch___repr__ len ok) hm Fd.kp (Fd.bindsN fun _ _ _ _ _ _ us hl => match us, hl with | [_], _ => rfl)
theorem sc_Watch___init__ : FnScope ["self", "rule"] ["self", "rule"] (defScope st_Watch___init__) := ⟨rfl, rfl, rfl, by decide +kernel, rfl, by decide +kernel, by decide +kernel⟩
def d_Watch___init__ (K : PySem.W.Frag) (s_need_rule : Spd) : TSd := (dSeq (dDrop (dCall s_need_rule [] (dCons (dVar 1) dNil))) (dSeq (dSetF (He.ga K "Watch") "own_rule" (dVar 0) (dVar 1)) (dSeq (dSetF (He.ga K "Watch") "own_events" (dVar 0) (dLstM dNil)) (dSeq (dSetF (He.ga K "Watch") "own_word" (dVar 0) (dC (.str "quiet"))) (dSeq (dSetF (He.ga K "Watch") "word_since" (dVar 0) (dC .non)) (dSeq (dSetF (He.ga K "Watch") "last_worth" (dVar 0) (dC .non)) (dSetF (He.ga K "Watch") "last_time" (dVar 0) (dC .non))))))))
theorem w_Watch___init__ {k : Nat} {f : Addr} {cdv : Value} {A : Around} {outer : List Env} {s : Shared} {H : Hp} {E : XK} {s_need_rule : Spd} (T : Txt K mg) (hgd : A.guards = some []) (hr : Room k (A.deeper (envOfC "Watch.__init__" (defScope st_Watch___init__) s.heap.objs.size f cdv))) (R_need_rule : Rdy P w K mg base k "need_rule" [] [] s_need_rule) :
    ∃ t, VSs (cxOf (L2.CX P w) P w K mg base ["self", "rule"] "Watch.__init__" (defScope st_Watch___init__) f cdv A outer s H E) (wDef E) (defBody st_Watch___init__) t (d_Watch___init__ K s_need_rule) :=
  have hu1 := room1 hr
  have hu64 := hr.units
  have hu66 := room66 hr
  ⟨_, by exact (vss_cons (vs_expr (ve_callR R_need_rule hgd hr (takes_of rfl rfl rfl rfl) (va_cons (ve_v 1) va_nil))) (vss_cons (vs_fld T.C_Watch T.a_Watch_own_rule (ve_v 0) (ve_v 1)) (vss_cons (vs_fld T.C_Watch T.a_Watch_own_events (ve_v 0) (ve_lstM va_nil)) (vss_cons (vs_fld T.C_Watch T.a_Watch_own_word (ve_v 0) (ve_gs T.c_QUIET)) (vss_cons (vs_fld T.C_Watch T.a_Watch_word_since (ve_v 0) ve_non) (vss_cons (vs_fld T.C_Watch T.a_Watch_last_worth (ve_v 0) ve_non) (vss_one (vs_fld T.C_Watch T.a_Watch_last_time (ve_v 0) ve_non))))))))⟩
/-- what is left to be shown of Watch___init__: BodyOk -/
theorem g_Watch___init__ {k : Nat} {f : Addr} {fd : FuncData} {s_ : Spd} {s_need_rule : Spd} (T : Txt K mg) (Fd : FunD K "__init__" "Watch.__init__" (defArgs st_Watch___init__) (defBody st_Watch___init__) (defScope st_Watch___init__) [] [] f fd) (R_need_rule : Rdy P w K mg base k "need_rule" [] [] s_need_rule)
    (len : ∀ ds S Q E, s_ ds S Q E → ds.length = 2) (ok : BodyOk (d_Watch___init__ K s_need_rule) ["self", "rule"] s_) : FnG P w K mg base (k + 1) f fd ["self", "rule"] (lift K s_) :=
  def_ok Fd sc_Watch___init__ len fun cdv A outer s H E hgd hr => (w_Watch___init__ T hgd hr R_need_rule).elim fun t v => ⟨t, _, v, ok⟩
theorem b_Watch___init__ {f : Addr} {fd : FuncData} (Fd : FunD K "__init__" "Watch.__init__" (defArgs st_Watch___init__) (defBody st_Watch___init__) (defScope st_Watch___init__) [] [] f fd) : Binds K fd ["self", "rule"] [] := Fd.bindsN fun _ _ _ _ _ _ us hl => match us, hl with | [_, _], _ => rfl
theorem sc_Watch___eq__ : FnScope ["self", "other"] ["self", "other"] (defScope st_Watch___eq__) := ⟨rfl, rfl, rfl, by decide +kernel, rfl, by decide +kernel, by decide +kernel⟩
def d_Watch___eq__ (K : PySem.W.Frag) (s_Watch_marks_told : Spd) : TSd := (dRet (dAndV (dCB (dIsC (He.ga K "Watch")) (dCons (dVar 1) (dCons (dC (.ref (He.ga K "Watch"))) dNil))) (dOp dEq (dMeth (He.ga K "Watch") "marks_told" s_Watch_marks_told [] (dVar 0) dNil) (dMeth (He.ga K "Watch") "marks_told" s_Watch_marks_told [] (dVar 1) dNil))))
theorem w_Watch___eq__ {k : Nat} {f : Addr} {cdv : Value} {A : Around} {outer : List Env} {s : Shared} {H : Hp} {E : XK} {s_Watch_marks_told : Spd} (T : Txt K mg) (hgd : A.guards = some []) (hr : Room k (A.deeper (envOfC "Watch.__eq__" (defScope st_Watch___eq__) s.heap.objs.size f cdv))) (R_Watch_marks_told : RdyM P w K mg base k (He.ga K "Watch") "marks_told" [] [] s_Watch_marks_told) :
    ∃ t, VSs (cxOf (L2.CX P w) P w K mg base ["self", "other"] "Watch.__eq__" (defScope st_Watch___eq__) f cdv A outer s H E) (wDef E) (defBody st_Watch___eq__) t (d_Watch___eq__ K s_Watch_marks_told) :=
  have hu1 := room1 hr
  have hu64 := hr.units
  have hu66 := room66 hr
  ⟨_, by exact (vss_one (vs_ret (ve_and (ve_cb (snd_isC T.E_Watch) L2.call_isi T.b_isinstance (va_cons (ve_v 1) (va_cons (ve_go T.o_Watch (fun _ => .ref _)) va_nil))) (ve_one (ve_eq hu64 (ve_methR0 R_Watch_marks_told T.C_Watch hgd hr (takes_of rfl rfl rfl rfl) (ve_v 0)) (ve_methR0 R_Watch_marks_told T.C_Watch hgd hr (takes_of rfl rfl rfl rfl) (ve_v 1)))))))⟩
/-- what is left to be shown of Watch___eq__: BodyOk -/
theorem g_Watch___eq__ {k : Nat} {f : Addr} {fd : FuncData} {s_ : Spd} {s_Watch_marks_told : Spd} (T : Txt K mg) (Fd : FunD K "__eq__" "Watch.__eq__" (defArgs st_Watch___eq__) (defBody st_Watch___eq__) (defScope st_Watch___eq__) [] [] f fd) (R_Watch_marks_told : RdyM P w K mg base k (He.ga K "Watch") "marks_told" [] [] s_Watch_marks_told)
    (len : ∀ ds S Q E, s_ ds S Q E → ds.length = 2) (ok : BodyOk (d_Watch___eq__ K s_Watch_marks_told) ["self", "other"] s_) : FnG P w K mg base (k + 1) f fd ["self", "other"] (lift K s_) :=
  def_ok Fd sc_Watch___eq__ len fun cdv A outer s H E hgd hr => (w_Watch___eq__ T hgd hr R_Watch_marks_told).elim fun t v => ⟨t, _, v, ok⟩
theorem b_Watch___eq__ {f : Addr} {fd : FuncData} (Fd : FunD K "__eq__" "Watch.__eq__" (defArgs st_Watch___eq__) (defBody st_Watch___eq__) (defScope st_Watch___eq__) [] [] f fd) : Binds K fd ["self", "other"] [] := Fd.bindsN fun _ _ _ _ _ _ us hl => match us, hl with | [_, _], _ => rfl
theorem sc_Watch___repr__ : FnScope ["self"] ["self"] (defScope st_Watch___repr__) := ⟨rfl, rfl, rfl, by decide +kernel, rfl, by decide +kernel, by decide +kernel⟩
def d_Watch___repr__ (K : PySem.W.Frag) (s_Watch_state : Spd) : TSd := (dRet (dFstr [(dC (.str "<watch ")), (dFmt (dOp dIx (dFld (He.ga K "Watch") "own_rule" (dVar 0)) (dC (.int 0)))), (dC (.str " ")), (dFmt (dMeth (He.ga K "Watch") "state" s_Watch_state [] (dVar 0) dNil)), (dC (.str ">"))]))
theorem w_Watch___repr__ {k : Nat} {f : Addr} {cdv : Value} {A : Around} {outer : List Env} {s : Shared} {H : Hp} {E : XK} {s_Watch_state : Spd} (T : Txt K mg) (hgd : A.guards = some []) (hr : Room k (A.deeper (envOfC "Watch.__repr__" (defScope st_Watch___repr__) s.heap.objs.size f cdv))) (R_Watch_state : RdyM P w K mg base k (He.ga K "Watch") "state" [] [] s_Watch_state) :
    ∃ t, VSs (cxOf (L2.CX P w) P w K mg base ["self"] "Watch.__repr__" (defScope st_Watch___repr__) f cdv A outer s H E) (wDef E) (defBody st_Watch___repr__) t (d_Watch___repr__ K s_Watch_state) :=
  have hu1 := room1 hr
  have hu64 := hr.units
  have hu66 := room66 hr
  ⟨_, by exact (vss_one (vs_ret (ve_fstr (VJ.cons ve_str (VJ.cons (ve_fmtD hgd hu66 (ve_item hu1 (ve_fld T.C_Watch T.a_Watch_own_rule (ve_v 0)) ve_int)) (VJ.cons ve_str (VJ.cons (ve_fmtD hgd hu66 (ve_methR0 R_Watch_state T.C_Watch hgd hr (takes_of rfl rfl rfl rfl) (ve_v 0))) (VJ.cons ve_str VJ.nil))))))))⟩
/-- what is left to be shown of Watch___repr__: BodyOk -/
theorem g_Watch___repr__ {k : Nat} {f : Addr} {fd : FuncData} {s_ : Spd} {s_Watch_state : Spd} (T : Txt K mg) (Fd : FunD K "__repr__" "Watch.__repr__" (defArgs st_Watch___repr__) (defBody st_Watch___repr__) (defScope st_Watch___repr__) [] [] f fd) (R_Watch_state : RdyM P w K mg base k (He.ga K "Watch") "state" [] [] s_Watch_state)
    (len : ∀ ds S Q E, s_ ds S Q E → ds.length = 1) (ok : BodyOk (d_Watch___repr__ K s_Watch_state) ["self"] s_) : FnG P w K mg base (k + 1) f fd ["self"] (lift K s_) :=
  def_ok Fd sc_Watch___repr__ len fun cdv A outer s H E hgd hr => (w_Watch___repr__ T hgd hr R_Watch_state).elim fun t v => ⟨t, _, v, ok⟩
theorem b_Watch___repr__ {f : Addr} {fd : FuncData} (Fd : FunD K "__repr__" "Watch.__repr__" (defArgs st_Watch___repr__) (defBody st_Watch___repr__) (defScope st_Watch___repr__) [] [] f fd) : Binds K fd ["self"] [] := Fd.bindsN fun _ _ _ _ _ _ us hl => match us, hl with | [_], _ => rfl
theorem sc_Watch_marks_told : FnScope ["self"] ["self"] (defScope st_Watch_marks_told) := ⟨rfl, rfl, rfl, by decide +kernel, rfl, by decide +kernel, by decide +kernel⟩
def d_Watch_marks_told (K : PySem.W.Frag) (s_Watch_state : Spd) (s_Watch_events : Spd) : TSd := (dRet (dTup (dCons (dFld (He.ga K "Watch") "own_rule" (dVar 0)) (dCons (dFrz (dMeth (He.ga K "Watch") "events" s_Watch_events [] (dVar 0) dNil)) (dCons (dMeth (He.ga K "Watch") "state" s_Watch_state [] (dVar 0) dNil) (dCons (dFld (He.ga K "Watch") "last_worth" (dVar 0)) (dCons (dFld (He.ga K "Watch") "last_time" (dVar 0)) dNil)))))))
theorem w_Watch_marks_told {k : Nat} {f : Addr} {cdv : Value} {A : Around} {outer : List Env} {s : Shared} {H : Hp} {E : XK} {s_Watch_state : Spd} {s_Watch_events : Spd} (T : Txt K mg) (hgd : A.guards = some []) (hr : Room k (A.deeper (envOfC "Watch.marks_told" (defScope st_Watch_marks_told) s.heap.objs.size f cdv))) (R_Watch_state : RdyM P w K mg base k (He.ga K "Watch") "state" [] [] s_Watch_state) (R_Watch_events : RdyM P w K mg base k (He.ga K "Watch") "events" [] [] s_Watch_events) :
    ∃ t, VSs (cxOf (L2.CX P w) P w K mg base ["self"] "Watch.marks_told" (defScope st_Watch_marks_told) f cdv A outer s H E) (wDef E) (defBody st_Watch_marks_told) t (d_Watch_marks_told K s_Watch_state s_Watch_events) :=
  have hu1 := room1 hr
  have hu64 := hr.units
  have hu66 := room66 hr
  ⟨_, by exact (vss_one (vs_ret (ve_tup (va_cons (ve_fld T.C_Watch T.a_Watch_own_rule (ve_v 0)) (va_cons (ve_frz (ve_methR0 R_Watch_events T.C_Watch hgd hr (takes_of rfl rfl rfl rfl) (ve_v 0))) (va_cons (ve_methR0 R_Watch_state T.C_Watch hgd hr (takes_of rfl rfl rfl rfl) (ve_v 0)) (va_cons (ve_fld T.C_Watch T.a_Watch_last_worth (ve_v 0)) (va_cons (ve_fld T.C_Watch T.a_Watch_last_time (ve_v 0)) va_nil))))))))⟩
/-- what is left to be shown of Watch_marks_told: BodyOk -/
theorem g_Watch_marks_told {k : Nat} {f : Addr} {fd : FuncData} {s_ : Spd} {s_Watch_state : Spd} {s_Watch_events : Spd} (T : Txt K mg) (Fd : FunD K "marks_told" "Watch.marks_told" (defArgs st_Watch_marks_told) (defBody st_Watch_marks_told) (defScope st_Watch_marks_told) [] [] f fd) (R_Watch_state : RdyM P w K mg base k (He.ga K "Watch") "state" [] [] s_Watch_state) (R_Watch_events : RdyM P w K mg base k (He.ga K "Watch") "events" [] [] s_Watch_events)
    (len : ∀ ds S Q E, s_ ds S Q E → ds.length = 1) (ok : BodyOk (d_Watch_marks_told K s_Watch_state s_Watch_events) ["self"] s_) : FnG P w K mg base (k + 1) f fd ["self"] (lift K s_) :=
  def_ok Fd sc_Watch_marks_told len fun cdv A outer s H E hgd hr => (w_Watch_marks_told T hgd hr R_Watch_state R_Watch_events).elim fun t v => ⟨t, _, v, ok⟩
theorem b_Watch_marks_told {f : Addr} {fd : FuncData} (Fd : FunD K "marks_told" "Watch.marks_told" (defArgs st_Watch_marks_told) (defBody st_Watch_marks_told) (defScope st_Watch_marks_told) [] [] f fd) : Binds K fd ["self"] [] := Fd.bindsN fun _ _ _ _ _ _ us hl => match us, hl with | [_], _ => rfl
theorem sc_Watch_events : FnScope ["self"] ["self"] (defScope st_Watch_events) := ⟨rfl, rfl, rfl, by decide +kernel, rfl, by decide +kernel, by decide +kernel⟩
def d_Watch_events (K : PySem.W.Frag) : TSd := (dRet (dCB dListOfM (dCons (dFld (He.ga K "Watch") "own_events" (dVar 0)) dNil)))
theorem w_Watch_events {k : Nat} {f : Addr} {cdv : Value} {A : Around} {outer : List Env} {s : Shared} {H : Hp} {E : XK} (T : Txt K mg) (hgd : A.guards = some []) (hr : Room k (A.deeper (envOfC "Watch.events" (defScope st_Watch_events) s.heap.objs.size f cdv))) :
    ∃ t, VSs (cxOf (L2.CX P w) P w K mg base ["self"] "Watch.events" (defScope st_Watch_events) f cdv A outer s H E) (wDef E) (defBody st_Watch_events) t (d_Watch_events K) :=
  have hu1 := room1 hr
  have hu64 := hr.units
  have hu66 := room66 hr
  ⟨_, by exact (vss_one (vs_ret (ve_ct snd_listOfM call_list_of T.b_list (va_cons (ve_fld T.C_Watch T.a_Watch_own_events (ve_v 0)) va_nil))))⟩
/-- what is left to be shown of Watch_events: BodyOk -/
theorem g_Watch_events {k : Nat} {f : Addr} {fd : FuncData} {s_ : Spd} (T : Txt K mg) (Fd : FunD K "events" "Watch.events" (defArgs st_Watch_events) (defBody st_Watch_events) (defScope st_Watch_events) [] [] f fd)
    (len : ∀ ds S Q E, s_ ds S Q E → ds.length = 1) (ok : BodyOk (d_Watch_events K) ["self"] s_) : FnG P w K mg base (k + 1) f fd ["self"] (lift K s_) :=
  def_ok Fd sc_Watch_events len fun cdv A outer s H E hgd hr => (w_Watch_events T hgd hr ).elim fun t v => ⟨t, _, v, ok⟩
theorem b_Watch_events {f : Addr} {fd : FuncData} (Fd : FunD K "events" "Watch.events" (defArgs st_Watch_events) (defBody st_Watch_events) (defScope st_Watch_events) [] [] f fd) : Binds K fd ["self"] [] := Fd.bindsN fun _ _ _ _ _ _ us hl => match us, hl with | [_], _ => rfl
theorem sc_Watch_state : FnScope ["self"] ["self"] (defScope st_Watch_state) := ⟨rfl, rfl, rfl, by decide +kernel, rfl, by decide +kernel, by decide +kernel⟩
def d_Watch_state (K : PySem.W.Frag) : TSd := (dRet (dTup (dCons (dFld (He.ga K "Watch") "own_word" (dVar 0)) (dCons (dFld (He.ga K "Watch") "word_since" (dVar 0)) dNil))))
theorem w_Watch_state {k : Nat} {f : Addr} {cdv : Value} {A : Around} {outer : List Env} {s : Shared} {H : Hp} {E : XK} (T : Txt K mg) (hgd : A.guards = some []) (hr : Room k (A.deeper (envOfC "Watch.state" (defScope st_Watch_state) s.heap.objs.size f cdv))) :
    ∃ t, VSs (cxOf (L2.CX P w) P w K mg base ["self"] "Watch.state" (defScope st_Watch_state) f cdv A outer s H E) (wDef E) (defBody st_Watch_state) t (d_Watch_state K) :=
  have hu1 := room1 hr
  have hu64 := hr.units
  have hu66 := room66 hr
  ⟨_, by exact (vss_one (vs_ret (ve_tup (va_cons (ve_fld T.C_Watch T.a_Watch_own_word (ve_v 0)) (va_cons (ve_fld T.C_Watch T.a_Watch_word_since (ve_v 0)) va_nil)))))⟩
/-- what is left to be shown of Watch_state: BodyOk -/
theorem g_Watch_state {k : Nat} {f : Addr} {fd : FuncData} {s_ : Spd} (T : Txt K mg) (Fd : FunD K "state" "Watch.state" (defArgs st_Watch_state) (defBody st_Watch_state) (defScope st_Watch_state) [] [] f fd)
    (len : ∀ ds S Q E, s_ ds S Q E → ds.length = 1) (ok : BodyOk (d_Watch_state K) ["self"] s_) : FnG P w K mg base (k + 1) f fd ["self"] (lift K s_) :=
  def_ok Fd sc_Watch_state len fun cdv A outer s H E hgd hr => (w_Watch_state T hgd hr ).elim fun t v => ⟨t, _, v, ok⟩
theorem b_Watch_state {f : Addr} {fd : FuncData} (Fd : FunD K "state" "Watch.state" (defArgs st_Watch_state) (defBody st_Watch_state) (defScope st_Watch_state) [] [] f fd) : Binds K fd ["self"] [] := Fd.bindsN fun _ _ _ _ _ _ us hl => match us, hl with | [_], _ => rfl
theorem sc_Watch_is_due : FnScope ["self", "time"] ["self", "time"] (defScope st_Watch_is_due) := ⟨rfl, rfl, rfl, by decide +kernel, rfl, by decide +kernel, by decide +kernel⟩
def d_Watch_is_due (K : PySem.W.Frag) : TSd := (dRet (dAndV (dOp dEq (dFld (He.ga K "Watch") "own_word" (dVar 0)) (dC (.str "waits"))) (dOp dLe (dOp dAdd (dFld (He.ga K "Watch") "word_since" (dVar 0)) (dOp dIx (dFld (He.ga K "Watch") "own_rule" (dVar 0)) (dC (.int 5)))) (dVar 1))))
theorem w_Watch_is_due {k : Nat} {f : Addr} {cdv : Value} {A : Around} {outer : List Env} {s : Shared} {H : Hp} {E : XK} (T : Txt K mg) (hgd : A.guards = some []) (hr : Room k (A.deeper (envOfC "Watch.is_due" (defScope st_Watch_is_due) s.heap.objs.size f cdv))) :
    ∃ t, VSs (cxOf (L2.CX P w) P w K mg base ["self", "time"] "Watch.is_due" (defScope st_Watch_is_due) f cdv A outer s H E) (wDef E) (defBody st_Watch_is_due) t (d_Watch_is_due K) :=
  have hu1 := room1 hr
  have hu64 := hr.units
  have hu66 := room66 hr
  ⟨_, by exact (vss_one (vs_ret (ve_and (ve_eq hu64 (ve_fld T.C_Watch T.a_Watch_own_word (ve_v 0)) (ve_gs T.c_WAITS)) (ve_one (ve_le (ve_add (ve_fld T.C_Watch T.a_Watch_word_since (ve_v 0)) (ve_item hu1 (ve_fld T.C_Watch T.a_Watch_own_rule (ve_v 0)) ve_int)) (ve_v 1))))))⟩
/-- what is left to be shown of Watch_is_due: BodyOk -/
theorem g_Watch_is_due {k : Nat} {f : Addr} {fd : FuncData} {s_ : Spd} (T : Txt K mg) (Fd : FunD K "is_due" "Watch.is_due" (defArgs st_Watch_is_due) (defBody st_Watch_is_due) (defScope st_Watch_is_due) [] [] f fd)
    (len : ∀ ds S Q E, s_ ds S Q E → ds.length = 2) (ok : BodyOk (d_Watch_is_due K) ["self", "time"] s_) : FnG P w K mg base (k + 1) f fd ["self", "time"] (lift K s_) :=
  def_ok Fd sc_Watch_is_due len fun cdv A outer s H E hgd hr => (w_Watch_is_due T hgd hr ).elim fun t v => ⟨t, _, v, ok⟩
theorem b_Watch_is_due {f : Addr} {fd : FuncData} (Fd : FunD K "is_due" "Watch.is_due" (defArgs st_Watch_is_due) (defBody st_Watch_is_due) (defScope st_Watch_is_due) [] [] f fd) : Binds K fd ["self", "time"] [] := Fd.bindsN fun _ _ _ _ _ _ us hl => match us, hl with | [_, _], _ => rfl
theorem sc_Watch_raise_now : FnScope ["self", "time"] ["self"] (defScope st_Watch_raise_now) := ⟨rfl, rfl, rfl, by decide +kernel, rfl, by decide +kernel, by decide +kernel⟩
def d_Watch_raise_now (K : PySem.W.Frag) : TSd := (dSeq (dAsg (dOp dAdd (dFld (He.ga K "Watch") "word_since" (dVar 0)) (dOp dIx (dFld (He.ga K "Watch") "own_rule" (dVar 0)) (dC (.int 5)))) (hName 1)) (dSeq (dDrop (dAppend (dFld (He.ga K "Watch") "own_events" (dVar 0)) (dCons (dTup (dCons (dVar 1) (dCons (dC .non) dNil))) dNil))) (dSeq (dAsg (dTup (dCons (dC (.str "stands")) (dCons (dVar 1) dNil))) (hTup 2 (hCons (hAtt (He.ga K "Watch") "own_word" (dVar 0)) (hCons (hAtt (He.ga K "Watch") "word_since" (dVar 0)) hNil)))) (dRet (dTup (dCons (dC (.str "raised")) (dCons (dVar 1) dNil)))))))
theorem w_Watch_raise_now {k : Nat} {f : Addr} {cdv : Value} {A : Around} {outer : List Env} {s : Shared} {H : Hp} {E : XK} (T : Txt K mg) (hgd : A.guards = some []) (hr : Room k (A.deeper (envOfC "Watch.raise_now" (defScope st_Watch_raise_now) s.heap.objs.size f cdv))) :
    ∃ t, VSs (cxOf (L2.CX P w) P w K mg base ["self", "time"] "Watch.raise_now" (defScope st_Watch_raise_now) f cdv A outer s H E) (wDef E) (defBody st_Watch_raise_now) t (d_Watch_raise_now K) :=
  have hu1 := room1 hr
  have hu64 := hr.units
  have hu66 := room66 hr
  ⟨_, by exact (vss_cons (vs_name sc_Watch_raise_now.nd (ve_add (ve_fld T.C_Watch T.a_Watch_word_since (ve_v 0)) (ve_item hu1 (ve_fld T.C_Watch T.a_Watch_own_rule (ve_v 0)) ve_int))) (vss_cons (vs_expr (ve_app (ve_fld T.C_Watch T.a_Watch_own_events (ve_v 0)) (va_cons (ve_tup (va_cons (ve_v 1) (va_cons ve_non va_nil))) va_nil))) (vss_cons (vs_asg (vs := [0, 0]) (ve_tup (va_cons (ve_gs T.c_STANDS) (va_cons (ve_v 1) va_nil))) (vg_tup rfl (vgs_cons (vg_att (W := WF) T.C_Watch T.a_Watch_own_word (ve_v 0)) (vgs_cons (vg_att (W := WF) T.C_Watch T.a_Watch_word_since (ve_v 0)) vgs_nil)))) (vss_one (vs_ret (ve_tup (va_cons ve_str (va_cons (ve_v 1) va_nil))))))))⟩
/-- what is left to be shown of Watch_raise_now: BodyOk -/
theorem g_Watch_raise_now {k : Nat} {f : Addr} {fd : FuncData} {s_ : Spd} (T : Txt K mg) (Fd : FunD K "raise_now" "Watch.raise_now" (defArgs st_Watch_raise_now) (defBody st_Watch_raise_now) (defScope st_Watch_raise_now) [] [] f fd)
    (len : ∀ ds S Q E, s_ ds S Q E → ds.length = 1) (ok : BodyOk (d_Watch_raise_now K) ["self", "time"] s_) : FnG P w K mg base (k + 1) f fd ["self"] (lift K s_) :=
  def_ok Fd sc_Watch_raise_now len fun cdv A outer s H E hgd hr => (w_Watch_raise_now T hgd hr ).elim fun t v => ⟨t, _, v, ok⟩
theorem b_Watch_raise_now {f : Addr} {fd : FuncData} (Fd : FunD K "raise_now" "Watch.raise_now" (defArgs st_Watch_raise_now) (defBody st_Watch_raise_now) (defScope st_Watch_raise_now) [] [] f fd) : Binds K fd ["self"] [] := Fd.bindsN fun _ _ _ _ _ _ us hl => match us, hl with | [_], _ => rfl
theorem sc_Watch_end_now : FnScope ["self", "time", "raised", "ended"] ["self", "time"] (defScope st_Watch_end_now) := ⟨rfl, rfl, rfl, by decide +kernel, rfl, by decide +kernel, by decide +kernel⟩
def d_Watch_end_now (K : PySem.W.Frag) : TSd := (dSeq (dAsg (dPop (dFld (He.ga K "Watch") "own_events" (dVar 0))) (hTup 2 (hCons (hName 2) (hCons (hName 3) hNil)))) (dSeq (dDrop (dAppend (dFld (He.ga K "Watch") "own_events" (dVar 0)) (dCons (dTup (dCons (dVar 2) (dCons (dVar 1) dNil))) dNil))) (dSeq (dAsg (dTup (dCons (dC (.str "quiet")) (dCons (dC .non) dNil))) (hTup 2 (hCons (hAtt (He.ga K "Watch") "own_word" (dVar 0)) (hCons (hAtt (He.ga K "Watch") "word_since" (dVar 0)) hNil)))) (dRet (dTup (dCons (dC (.str "ended")) (dCons (dVar 1) dNil)))))))
theorem w_Watch_end_now {k : Nat} {f : Addr} {cdv : Value} {A : Around} {outer : List Env} {s : Shared} {H : Hp} {E : XK} (T : Txt K mg) (hgd : A.guards = some []) (hr : Room k (A.deeper (envOfC "Watch.end_now" (defScope st_Watch_end_now) s.heap.objs.size f cdv))) :
    ∃ t, VSs (cxOf (L2.CX P w) P w K mg base ["self", "time", "raised", "ended"] "Watch.end_now" (defScope st_Watch_end_now) f cdv A outer s H E) (wDef E) (defBody st_Watch_end_now) t (d_Watch_end_now K) :=
  have hu1 := room1 hr
  have hu64 := hr.units
  have hu66 := room66 hr
  ⟨_, by exact (vss_cons (vs_asg (vs := [2, 3]) (ve_pop (ve_fld T.C_Watch T.a_Watch_own_events (ve_v 0))) (vg_tup rfl (vgs_cons (vg_n sc_Watch_end_now.nd) (vgs_cons (vg_n sc_Watch_end_now.nd) vgs_nil)))) (vss_cons (vs_expr (ve_app (ve_fld T.C_Watch T.a_Watch_own_events (ve_v 0)) (va_cons (ve_tup (va_cons (ve_v 2) (va_cons (ve_v 1) va_nil))) va_nil))) (vss_cons (vs_asg (vs := [0, 0]) (ve_tup (va_cons (ve_gs T.c_QUIET) (va_cons ve_non va_nil))) (vg_tup rfl (vgs_cons (vg_att (W := WF) T.C_Watch T.a_Watch_own_word (ve_v 0)) (vgs_cons (vg_att (W := WF) T.C_Watch T.a_Watch_word_since (ve_v 0)) vgs_nil)))) (vss_one (vs_ret (ve_tup (va_cons ve_str (va_cons (ve_v 1) va_nil))))))))⟩
/-- what is left to be shown of Watch_end_now: BodyOk -/
theorem g_Watch_end_now {k : Nat} {f : Addr} {fd : FuncData} {s_ : Spd} (T : Txt K mg) (Fd : FunD K "end_now" "Watch.end_now" (defArgs st_Watch_end_now) (defBody st_Watch_end_now) (defScope st_Watch_end_now) [] [] f fd)
    (len : ∀ ds S Q E, s_ ds S Q E → ds.length = 2) (ok : BodyOk (d_Watch_end_now K) ["self", "time", "raised", "ended"] s_) : FnG P w K mg base (k + 1) f fd ["self", "time"] (lift K s_) :=
  def_ok Fd sc_Watch_end_now len fun cdv A outer s H E hgd hr => (w_Watch_end_now T hgd hr ).elim fun t v => ⟨t, _, v, ok⟩
theorem b_Watch_end_now {f : Addr} {fd : FuncData} (Fd : FunD K "end_now" "Watch.end_now" (defArgs st_Watch_end_now) (defBody st_Watch_end_now) (defScope st_Watch_end_now) [] [] f fd) : Binds K fd ["self", "time"] [] := Fd.bindsN fun _ _ _ _ _ _ us hl => match us, hl with | [_, _], _ => rfl
theorem sc_Watch_come_to : FnScope ["self", "time"] ["self", "time"] (defScope st_Watch_come_to) := ⟨rfl, rfl, rfl, by decide +kernel, rfl, by decide +kernel, by decide +kernel⟩
def d_Watch_come_to (K : PySem.W.Frag) (s_Watch_is_due : Spd) (s_Watch_raise_now : Spd) : TSd := (dRet (dIfE (dTest (dMeth (He.ga K "Watch") "is_due" s_Watch_is_due [] (dVar 0) (dCons (dVar 1) dNil))) (dLstM (dCons (dMeth (He.ga K "Watch") "raise_now" s_Watch_raise_now [] (dVar 0) dNil) dNil)) (dLstM dNil)))
theorem w_Watch_come_to {k : Nat} {f : Addr} {cdv : Value} {A : Around} {outer : List Env} {s : Shared} {H : Hp} {E : XK} {s_Watch_is_due : Spd} {s_Watch_raise_now : Spd} (T : Txt K mg) (hgd : A.guards = some []) (hr : Room k (A.deeper (envOfC "Watch.come_to" (defScope st_Watch_come_to) s.heap.objs.size f cdv))) (R_Watch_is_due : RdyM P w K mg base k (He.ga K "Watch") "is_due" [] [] s_Watch_is_due) (R_Watch_raise_now : RdyM P w K mg base k (He.ga K "Watch") "raise_now" [] [] s_Watch_raise_now) :
    ∃ t, VSs (cxOf (L2.CX P w) P w K mg base ["self", "time"] "Watch.come_to" (defScope st_Watch_come_to) f cdv A outer s H E) (wDef E) (defBody st_Watch_come_to) t (d_Watch_come_to K s_Watch_is_due s_Watch_raise_now) :=
  have hu1 := room1 hr
  have hu64 := hr.units
  have hu66 := room66 hr
  ⟨_, by exact (vss_one (vs_ret (ve_ifE (vt_val (ve_methR R_Watch_is_due T.C_Watch hgd hr (takes_of rfl rfl rfl rfl) (ve_v 0) (va_cons (ve_v 1) va_nil))) (ve_lstM (va_cons (ve_methR0 R_Watch_raise_now T.C_Watch hgd hr (takes_of rfl rfl rfl rfl) (ve_v 0)) va_nil)) (ve_lstM va_nil))))⟩
/-- what is left to be shown of Watch_come_to: BodyOk -/
theorem g_Watch_come_to {k : Nat} {f : Addr} {fd : FuncData} {s_ : Spd} {s_Watch_is_due : Spd} {s_Watch_raise_now : Spd} (T : Txt K mg) (Fd : FunD K "come_to" "Watch.come_to" (defArgs st_Watch_come_to) (defBody st_Watch_come_to) (defScope st_Watch_come_to) [] [] f fd) (R_Watch_is_due : RdyM P w K mg base k (He.ga K "Watch") "is_due" [] [] s_Watch_is_due) (R_Watch_raise_now : RdyM P w K mg base k (He.ga K "Watch") "raise_now" [] [] s_Watch_raise_now)
    (len : ∀ ds S Q E, s_ ds S Q E → ds.length = 2) (ok : BodyOk (d_Watch_come_to K s_Watch_is_due s_Watch_raise_now) ["self", "time"] s_) : FnG P w K mg base (k + 1) f fd ["self", "time"] (lift K s_) :=
  def_ok Fd sc_Watch_come_to len fun cdv A outer s H E hgd hr => (w_Watch_come_to T hgd hr R_Watch_is_due R_Watch_raise_now).elim fun t v => ⟨t, _, v, ok⟩
theorem b_Watch_come_to {f : Addr} {fd : FuncData} (Fd : FunD K "come_to" "Watch.come_to" (defArgs st_Watch_come_to) (defBody st_Watch_come_to) (defScope st_Watch_come_to) [] [] f fd) : Binds K fd ["self", "time"] [] := Fd.bindsN fun _ _ _ _ _ _ us hl => match us, hl with | [_, _], _ => rfl
theorem sc_Watch_need_later : FnScope ["self", "time"] ["self", "time"] (defScope st_Watch_need_later) := ⟨rfl, rfl, rfl, by decide +kernel, rfl, by decide +kernel, by decide +kernel⟩
def d_Watch_need_later (K : PySem.W.Frag) (s_need_time : Spd) : TSd := (dSeq (dDrop (dCall s_need_time [] (dCons (dVar 1) dNil))) (dIf (dAndT (dTest (dOp (dIsG (!·)) (dFld (He.ga K "Watch") "last_time" (dVar 0)) (dC .non))) (dTest (dOp dLe (dVar 1) (dFld (He.ga K "Watch") "last_time" (dVar 0))))) dNever dNext))
theorem w_Watch_need_later {k : Nat} {f : Addr} {cdv : Value} {A : Around} {outer : List Env} {s : Shared} {H : Hp} {E : XK} {s_need_time : Spd} (T : Txt K mg) (hgd : A.guards = some []) (hr : Room k (A.deeper (envOfC "Watch.need_later" (defScope st_Watch_need_later) s.heap.objs.size f cdv))) (R_need_time : Rdy P w K mg base k "need_time" [] [] s_need_time) :
    ∃ t, VSs (cxOf (L2.CX P w) P w K mg base ["self", "time"] "Watch.need_later" (defScope st_Watch_need_later) f cdv A outer s H E) (wDef E) (defBody st_Watch_need_later) t (d_Watch_need_later K s_need_time) :=
  have hu1 := room1 hr
  have hu64 := hr.units
  have hu66 := room66 hr
  ⟨_, by exact (vss_cons (vs_expr (ve_callR R_need_time hgd hr (takes_of rfl rfl rfl rfl) (va_cons (ve_v 1) va_nil))) (vss_one (vs_if (vt_w (vw_and (vt_isnot (ve_fld T.C_Watch T.a_Watch_last_time (ve_v 0)) ve_non) (vw_and1 (vt_le (ve_v 1) (ve_fld T.C_Watch T.a_Watch_last_time (ve_v 0)))))) (vss_one vs_never) vss_nil)))⟩
/-- what is left to be shown of Watch_need_later: BodyOk -/
theorem g_Watch_need_later {k : Nat} {f : Addr} {fd : FuncData} {s_ : Spd} {s_need_time : Spd} (T : Txt K mg) (Fd : FunD K "need_later" "Watch.need_later" (defArgs st_Watch_need_later) (defBody st_Watch_need_later) (defScope st_Watch_need_later) [] [] f fd) (R_need_time : Rdy P w K mg base k "need_time" [] [] s_need_time)
    (len : ∀ ds S Q E, s_ ds S Q E → ds.length = 2) (ok : BodyOk (d_Watch_need_later K s_need_time) ["self", "time"] s_) : FnG P w K mg base (k + 1) f fd ["self", "time"] (lift K s_) :=
  def_ok Fd sc_Watch_need_later len fun cdv A outer s H E hgd hr => (w_Watch_need_later T hgd hr R_need_time).elim fun t v => ⟨t, _, v, ok⟩
theorem b_Watch_need_later {f : Addr} {fd : FuncData} (Fd : FunD K "need_later" "Watch.need_later" (defArgs st_Watch_need_later) (defBody st_Watch_need_later) (defScope st_Watch_need_later) [] [] f fd) : Binds K fd ["self", "time"] [] := Fd.bindsN fun _ _ _ _ _ _ us hl => match us, hl with | [_, _], _ => rfl
theorem sc_Watch_hear : FnScope ["self", "time", "worth", "told", "beyond"] ["self", "time", "worth"] (defScope st_Watch_hear) := ⟨rfl, rfl, rfl, by decide +kernel, rfl, by decide +kernel, by decide +kernel⟩
def d_Watch_hear (K : PySem.W.Frag) (s_need_time : Spd) (s_is_whole : Spd) (s_is_beyond : Spd) (s_is_at_rest : Spd) (s_Watch_need_later : Spd) (s_Watch_come_to : Spd) (s_Watch_end_now : Spd) : TSd := (dSeq (dDrop (dCall s_need_time [] (dCons (dVar 1) dNil))) (dSeq (dIf (dNotT (dTest (dCall s_is_whole [] (dCons (dVar 2) (dCons (dC (.int 0)) (dCons (dC (.int 63)) dNil)))))) dNever dNext) (dSeq (dDrop (dMeth (He.ga K "Watch") "need_later" s_Watch_need_later [] (dVar 0) (dCons (dVar 1) dNil))) (dSeq (dAsg (dMeth (He.ga K "Watch") "come_to" s_Watch_come_to [] (dVar 0) (dCons (dOp dSub (dVar 1) (dC (.int 1))) dNil)) (hName 3)) (dSeq (dAsg (dTup (dCons (dVar 2) (dCons (dVar 1) dNil))) (hTup 2 (hCons (hAtt (He.ga K "Watch") "last_worth" (dVar 0)) (hCons (hAtt (He.ga K "Watch") "last_time" (dVar 0)) hNil)))) (dSeq (dAsg (dCall s_is_beyond [] (dCons (dOp dIx (dFld (He.ga K "Watch") "own_rule" (dVar 0)) (dC (.int 2))) (dCons (dOp dIx (dFld (He.ga K "Watch") "own_rule" (dVar 0)) (dC (.int 3))) (dCons (dVar 2) dNil)))) (hName 4)) (dSeq (dIf (dAndT (dTest (dOp dEq (dFld (He.ga K "Watch") "own_word" (dVar 0)) (dC (.str "stands")))) (dTest (dCall s_is_at_rest [] (dCons (dFld (He.ga K "Watch") "own_rule" (dVar 0)) (dCons (dVar 2) dNil))))) (dDrop (dAppend (dVar 3) (dCons (dMeth (He.ga K "Watch") "end_now" s_Watch_end_now [] (dVar 0) (dCons (dVar 1) dNil)) dNil))) (dIf (dAndT (dTest (dOp dEq (dFld (He.ga K "Watch") "own_word" (dVar 0)) (dC (.str "waits")))) (dNotT (dTest (dVar 4)))) (dAsg (dTup (dCons (dC (.str "quiet")) (dCons (dC .non) dNil))) (hTup 2 (hCons (hAtt (He.ga K "Watch") "own_word" (dVar 0)) (hCons (hAtt (He.ga K "Watch") "word_since" (dVar 0)) hNil)))) (dIf (dAndT (dTest (dOp dEq (dFld (He.ga K "Watch") "own_word" (dVar 0)) (dC (.str "quiet")))) (dTest (dVar 4))) (dAsg (dTup (dCons (dC (.str "waits")) (dCons (dVar 1) dNil))) (hTup 2 (hCons (hAtt (He.ga K "Watch") "own_word" (dVar 0)) (hCons (hAtt (He.ga K "Watch") "word_since" (dVar 0)) hNil)))) dNext))) (dRet (dOp dAdd (dVar 3) (dMeth (He.ga K "Watch") "come_to" s_Watch_come_to [] (dVar 0) (dCons (dVar 1) dNil)))))))))))
theorem w_Watch_hear {k : Nat} {f : Addr} {cdv : Value} {A : Around} {outer : List Env} {s : Shared} {H : Hp} {E : XK} {s_need_time : Spd} {s_is_whole : Spd} {s_is_beyond : Spd} {s_is_at_rest : Spd} {s_Watch_need_later : Spd} {s_Watch_come_to : Spd} {s_Watch_end_now : Spd} (T : Txt K mg) (hgd : A.guards = some []) (hr : Room k (A.deeper (envOfC "Watch.hear" (defScope st_Watch_hear) s.heap.objs.size f cdv))) (R_need_time : Rdy P w K mg base k "need_time" [] [] s_need_time) (R_is_whole : Rdy P w K mg base k "is_whole" [] [] s_is_whole) (R_is_beyond : Rdy P w K mg base k "is_beyond" [] [] s_is_beyond) (R_is_at_rest : Rdy P w K mg base k "is_at_rest" [] [] s_is_at_rest) (R_Watch_need_later : RdyM P w K mg base k (He.ga K "Watch") "need_later" [] [] s_Watch_need_later) (R_Watch_come_to : RdyM P w K mg base k (He.ga K "Watch") "come_to" [] [] s_Watch_come_to) (R_Watch_end_now : RdyM P w K mg base k (He.ga K "Watch") "end_now" [] [] s_Watch_end_now) :
    ∃ t, VSs (cxOf (L2.CX P w) P w K mg base ["self", "time", "worth", "told", "beyond"] "Watch.hear" (defScope st_Watch_hear) f cdv A outer s H E) (wDef E) (defBody st_Watch_hear) t (d_Watch_hear K s_need_time s_is_whole s_is_beyond s_is_at_rest s_Watch_need_later s_Watch_come_to s_Watch_end_now) :=
  have hu1 := room1 hr
  have hu64 := hr.units
  have hu66 := room66 hr
  ⟨_, by exact (vss_cons (vs_expr (ve_callR R_need_time hgd hr (takes_of rfl rfl rfl rfl) (va_cons (ve_v 1) va_nil))) (vss_cons (vs_if (vt_not (vt_val (ve_callR R_is_whole hgd hr (takes_of rfl rfl rfl rfl) (va_cons (ve_v 2) (va_cons ve_int (va_cons (ve_gi T.c_MOST_LEVEL) va_nil)))))) (vss_one vs_never) vss_nil) (vss_cons (vs_expr (ve_methR R_Watch_need_later T.C_Watch hgd hr (takes_of rfl rfl rfl rfl) (ve_v 0) (va_cons (ve_v 1) va_nil))) (vss_cons (vs_name sc_Watch_hear.nd (ve_methR R_Watch_come_to T.C_Watch hgd hr (takes_of rfl rfl rfl rfl) (ve_v 0) (va_cons (ve_sub (ve_v 1) ve_int) va_nil))) (vss_cons (vs_asg (vs := [0, 0]) (ve_tup (va_cons (ve_v 2) (va_cons (ve_v 1) va_nil))) (vg_tup rfl (vgs_cons (vg_att (W := WF) T.C_Watch T.a_Watch_last_worth (ve_v 0)) (vgs_cons (vg_att (W := WF) T.C_Watch T.a_Watch_last_time (ve_v 0)) vgs_nil)))) (vss_cons (vs_name sc_Watch_hear.nd (ve_callR R_is_beyond hgd hr (takes_of rfl rfl rfl rfl) (va_cons (ve_item hu1 (ve_fld T.C_Watch T.a_Watch_own_rule (ve_v 0)) ve_int) (va_cons (ve_item hu1 (ve_fld T.C_Watch T.a_Watch_own_rule (ve_v 0)) ve_int) (va_cons (ve_v 2) va_nil))))) (vss_cons (vs_if (vt_w (vw_and (vt_eq hu64 (ve_fld T.C_Watch T.a_Watch_own_word (ve_v 0)) (ve_gs T.c_STANDS)) (vw_and1 (vt_val (ve_callR R_is_at_rest hgd hr (takes_of rfl rfl rfl rfl) (va_cons (ve_fld T.C_Watch T.a_Watch_own_rule (ve_v 0)) (va_cons (ve_v 2) va_nil))))))) (vss_one (vs_expr (ve_app (ve_v 3) (va_cons (ve_methR R_Watch_end_now T.C_Watch hgd hr (takes_of rfl rfl rfl rfl) (ve_v 0) (va_cons (ve_v 1) va_nil)) va_nil)))) (vss_one (vs_if (vt_w (vw_and (vt_eq hu64 (ve_fld T.C_Watch T.a_Watch_own_word (ve_v 0)) (ve_gs T.c_WAITS)) (vw_and1 (vt_not (vt_val (ve_v 4)))))) (vss_one (vs_asg (vs := [0, 0]) (ve_tup (va_cons (ve_gs T.c_QUIET) (va_cons ve_non va_nil))) (vg_tup rfl (vgs_cons (vg_att (W := WF) T.C_Watch T.a_Watch_own_word (ve_v 0)) (vgs_cons (vg_att (W := WF) T.C_Watch T.a_Watch_word_since (ve_v 0)) vgs_nil))))) (vss_one (vs_if (vt_w (vw_and (vt_eq hu64 (ve_fld T.C_Watch T.a_Watch_own_word (ve_v 0)) (ve_gs T.c_QUIET)) (vw_and1 (vt_val (ve_v 4))))) (vss_one (vs_asg (vs := [0, 0]) (ve_tup (va_cons (ve_gs T.c_WAITS) (va_cons (ve_v 1) va_nil))) (vg_tup rfl (vgs_cons (vg_att (W := WF) T.C_Watch T.a_Watch_own_word (ve_v 0)) (vgs_cons (vg_att (W := WF) T.C_Watch T.a_Watch_word_since (ve_v 0)) vgs_nil))))) vss_nil))))) (vss_one (vs_ret (ve_add (ve_v 3) (ve_methR R_Watch_come_to T.C_Watch hgd hr (takes_of rfl rfl rfl rfl) (ve_v 0) (va_cons (ve_v 1) va_nil))))))))))))⟩
/-- what is left to be shown of Watch_hear: BodyOk -/
theorem g_Watch_hear {k : Nat} {f : Addr} {fd : FuncData} {s_ : Spd} {s_need_time : Spd} {s_is_whole : Spd} {s_is_beyond : Spd} {s_is_at_rest : Spd} {s_Watch_need_later : Spd} {s_Watch_come_to : Spd} {s_Watch_end_now : Spd} (T : Txt K mg) (Fd : FunD K "hear" "Watch.hear" (defArgs st_Watch_hear) (defBody st_Watch_hear) (defScope st_Watch_hear) [] [] f fd) (R_need_time : Rdy P w K mg base k "need_time" [] [] s_need_time) (R_is_whole : Rdy P w K mg base k "is_whole" [] [] s_is_whole) (R_is_beyond : Rdy P w K mg base k "is_beyond" [] [] s_is_beyond) (R_is_at_rest : Rdy P w K mg base k "is_at_rest" [] [] s_is_at_rest) (R_Watch_need_later : RdyM P w K mg base k (He.ga K "Watch") "need_later" [] [] s_Watch_need_later) (R_Watch_come_to : RdyM P w K mg base k (He.ga K "Watch") "come_to" [] [] s_Watch_come_to) (R_Watch_end_now : RdyM P w K mg base k (He.ga K "Watch") "end_now" [] [] s_Watch_end_now)
    (len : ∀ ds S Q E, s_ ds S Q E → ds.length = 3) (ok : BodyOk (d_Watch_hear K s_need_time s_is_whole s_is_beyond s_is_at_rest s_Watch_need_later s_Watch_come_to s_Watch_end_now) ["self", "time", "worth", "told", "beyond"] s_) : FnG P w K mg base (k + 1) f fd ["self", "time", "worth"] (lift K s_) :=
  def_ok Fd sc_Watch_hear len fun cdv A outer s H E hgd hr => (w_Watch_hear T hgd hr R_need_time R_is_whole R_is_beyond R_is_at_rest R_Watch_need_later R_Watch_come_to R_Watch_end_now).elim fun t v => ⟨t, _, v, ok⟩
theorem b_Watch_hear {f : Addr} {fd : FuncData} (Fd : FunD K "hear" "Watch.hear" (defArgs st_Watch_hear) (defBody st_Watch_hear) (defScope st_Watch_hear) [] [] f fd) : Binds K fd ["self", "time", "worth"] [] := Fd.bindsN fun _ _ _ _ _ _ us hl => match us, hl with | [_, _, _], _ => rfl
theorem sc_Watch_go_on : FnScope ["self", "time"] ["self", "time"] (defScope st_Watch_go_on) := ⟨rfl, rfl, rfl, by decide +kernel, rfl, by decide +kernel, by decide +kernel⟩
def d_Watch_go_on (K : PySem.W.Frag) (s_need_time : Spd) (s_Watch_need_later : Spd) (s_Watch_come_to : Spd) : TSd := (dSeq (dDrop (dCall s_need_time [] (dCons (dVar 1) dNil))) (dSeq (dIf (dTest (dOp dEq (dVar 1) (dFld (He.ga K "Watch") "last_time" (dVar 0)))) (dRet (dLstM dNil)) dNext) (dSeq (dDrop (dMeth (He.ga K "Watch") "need_later" s_Watch_need_later [] (dVar 0) (dCons (dVar 1) dNil))) (dSeq (dSetF (He.ga K "Watch") "last_time" (dVar 0) (dVar 1)) (dRet (dMeth (He.ga K "Watch") "come_to" s_Watch_come_to [] (dVar 0) (dCons (dVar 1) dNil)))))))
theorem w_Watch_go_on {k : Nat} {f : Addr} {cdv : Value} {A : Around} {outer : List Env} {s : Shared} {H : Hp} {E : XK} {s_need_time : Spd} {s_Watch_need_later : Spd} {s_Watch_come_to : Spd} (T : Txt K mg) (hgd : A.guards = some []) (hr : Room k (A.deeper (envOfC "Watch.go_on" (defScope st_Watch_go_on) s.heap.objs.size f cdv))) (R_need_time : Rdy P w K mg base k "need_time" [] [] s_need_time) (R_Watch_need_later : RdyM P w K mg base k (He.ga K "Watch") "need_later" [] [] s_Watch_need_later) (R_Watch_come_to : RdyM P w K mg base k (He.ga K "Watch") "come_to" [] [] s_Watch_come_to) :
    ∃ t, VSs (cxOf (L2.CX P w) P w K mg base ["self", "time"] "Watch.go_on" (defScope st_Watch_go_on) f cdv A outer s H E) (wDef E) (defBody st_Watch_go_on) t (d_Watch_go_on K s_need_time s_Watch_need_later s_Watch_come_to) :=
  have hu1 := room1 hr
  have hu64 := hr.units
  have hu66 := room66 hr
  ⟨_, by exact (vss_cons (vs_expr (ve_callR R_need_time hgd hr (takes_of rfl rfl rfl rfl) (va_cons (ve_v 1) va_nil))) (vss_cons (vs_if (vt_eq hu64 (ve_v 1) (ve_fld T.C_Watch T.a_Watch_last_time (ve_v 0))) (vss_one (vs_ret (ve_lstM va_nil))) vss_nil) (vss_cons (vs_expr (ve_methR R_Watch_need_later T.C_Watch hgd hr (takes_of rfl rfl rfl rfl) (ve_v 0) (va_cons (ve_v 1) va_nil))) (vss_cons (vs_fld T.C_Watch T.a_Watch_last_time (ve_v 0) (ve_v 1)) (vss_one (vs_ret (ve_methR R_Watch_come_to T.C_Watch hgd hr (takes_of rfl rfl rfl rfl) (ve_v 0) (va_cons (ve_v 1) va_nil))))))))⟩
/-- what is left to be shown of Watch_go_on: BodyOk -/
theorem g_Watch_go_on {k : Nat} {f : Addr} {fd : FuncData} {s_ : Spd} {s_need_time : Spd} {s_Watch_need_later : Spd} {s_Watch_come_to : Spd} (T : Txt K mg) (Fd : FunD K "go_on" "Watch.go_on" (defArgs st_Watch_go_on) (defBody st_Watch_go_on) (defScope st_Watch_go_on) [] [] f fd) (R_need_time : Rdy P w K mg base k "need_time" [] [] s_need_time) (R_Watch_need_later : RdyM P w K mg base k (He.ga K "Watch") "need_later" [] [] s_Watch_need_later) (R_Watch_come_to : RdyM P w K mg base k (He.ga K "Watch") "come_to" [] [] s_Watch_come_to)
    (len : ∀ ds S Q E, s_ ds S Q E → ds.length = 2) (ok : BodyOk (d_Watch_go_on K s_need_time s_Watch_need_later s_Watch_come_to) ["self", "time"] s_) : FnG P w K mg base (k + 1) f fd ["self", "time"] (lift K s_) :=
  def_ok Fd sc_Watch_go_on len fun cdv A outer s H E hgd hr => (w_Watch_go_on T hgd hr R_need_time R_Watch_need_later R_Watch_come_to).elim fun t v => ⟨t, _, v, ok⟩
theorem b_Watch_go_on {f : Addr} {fd : FuncData} (Fd : FunD K "go_on" "Watch.go_on" (defArgs st_Watch_go_on) (defBody st_Watch_go_on) (defScope st_Watch_go_on) [] [] f fd) : Binds K fd ["self", "time"] [] := Fd.bindsN fun _ _ _ _ _ _ us hl => match us, hl with | [_, _], _ => rfl
theorem sc_Watch_copied : FnScope ["self", "other"] ["self"] (defScope st_Watch_copied) := ⟨rfl, rfl, rfl, by decide +kernel, rfl, by decide +kernel, by decide +kernel⟩
def d_Watch_copied (K : PySem.W.Frag) (s_Watch_events : Spd) (s_Watch_state : Spd) (s_Watch___init__ : Spd) : TSd := (dSeq (dAsg (dMake (He.ga K "Watch") s_Watch___init__ [] (dCons (dFld (He.ga K "Watch") "own_rule" (dVar 0)) dNil)) (hName 1)) (dSeq (dSetF (He.ga K "Watch") "own_events" (dVar 1) (dMeth (He.ga K "Watch") "events" s_Watch_events [] (dVar 0) dNil)) (dSeq (dAsg (dMeth (He.ga K "Watch") "state" s_Watch_state [] (dVar 0) dNil) (hTup 2 (hCons (hAtt (He.ga K "Watch") "own_word" (dVar 1)) (hCons (hAtt (He.ga K "Watch") "word_since" (dVar 1)) hNil)))) (dSeq (dAsg (dTup (dCons (dFld (He.ga K "Watch") "last_worth" (dVar 0)) (dCons (dFld (He.ga K "Watch") "last_time" (dVar 0)) dNil))) (hTup 2 (hCons (hAtt (He.ga K "Watch") "last_worth" (dVar 1)) (hCons (hAtt (He.ga K "Watch") "last_time" (dVar 1)) hNil)))) (dRet (dVar 1))))))
theorem w_Watch_copied {k : Nat} {f : Addr} {cdv : Value} {A : Around} {outer : List Env} {s : Shared} {H : Hp} {E : XK} {s_Watch_events : Spd} {s_Watch_state : Spd} {s_Watch___init__ : Spd} (T : Txt K mg) (hgd : A.guards = some []) (hr : Room (k + 1) (A.deeper (envOfC "Watch.copied" (defScope st_Watch_copied) s.heap.objs.size f cdv))) (R_Watch_events : RdyM P w K mg base (k + 1) (He.ga K "Watch") "events" [] [] s_Watch_events) (R_Watch_state : RdyM P w K mg base (k + 1) (He.ga K "Watch") "state" [] [] s_Watch_state) (M_Watch : RdyC P w K mg base k "Watch" (He.ga K "Watch") [] [] s_Watch___init__) :
    ∃ t, VSs (cxOf (L2.CX P w) P w K mg base ["self", "other"] "Watch.copied" (defScope st_Watch_copied) f cdv A outer s H E) (wDef E) (defBody st_Watch_copied) t (d_Watch_copied K s_Watch_events s_Watch_state s_Watch___init__) :=
  have hu1 := room1 hr
  have hu64 := hr.units
  have hu66 := room66 hr
  ⟨_, by exact (vss_cons (vs_name sc_Watch_copied.nd (ve_makeR M_Watch hgd hr (takes_of rfl rfl rfl rfl) (va_cons (ve_fld T.C_Watch T.a_Watch_own_rule (ve_v 0)) va_nil))) (vss_cons (vs_fld T.C_Watch T.a_Watch_own_events (ve_v 1) (ve_methR0 R_Watch_events T.C_Watch hgd hr (takes_of rfl rfl rfl rfl) (ve_v 0))) (vss_cons (vs_asg (vs := [1, 1]) (ve_methR0 R_Watch_state T.C_Watch hgd hr (takes_of rfl rfl rfl rfl) (ve_v 0)) (vg_tup rfl (vgs_cons (vg_att (W := WF) T.C_Watch T.a_Watch_own_word (ve_v 1)) (vgs_cons (vg_att (W := WF) T.C_Watch T.a_Watch_word_since (ve_v 1)) vgs_nil)))) (vss_cons (vs_asg (vs := [1, 1]) (ve_tup (va_cons (ve_fld T.C_Watch T.a_Watch_last_worth (ve_v 0)) (va_cons (ve_fld T.C_Watch T.a_Watch_last_time (ve_v 0)) va_nil))) (vg_tup rfl (vgs_cons (vg_att (W := WF) T.C_Watch T.a_Watch_last_worth (ve_v 1)) (vgs_cons (vg_att (W := WF) T.C_Watch T.a_Watch_last_time (ve_v 1)) vgs_nil)))) (vss_one (vs_ret (ve_v 1)))))))⟩
/-- what is left to be shown of Watch_copied: BodyOk -/
theorem g_Watch_copied {k : Nat} {f : Addr} {fd : FuncData} {s_ : Spd} {s_Watch_events : Spd} {s_Watch_state : Spd} {s_Watch___init__ : Spd} (T : Txt K mg) (Fd : FunD K "copied" "Watch.copied" (defArgs st_Watch_copied) (defBody st_Watch_copied) (defScope st_Watch_copied) [] [] f fd) (R_Watch_events : RdyM P w K mg base (k + 1) (He.ga K "Watch") "events" [] [] s_Watch_events) (R_Watch_state : RdyM P w K mg base (k + 1) (He.ga K "Watch") "state" [] [] s_Watch_state) (M_Watch : RdyC P w K mg base k "Watch" (He.ga K "Watch") [] [] s_Watch___init__)
    (len : ∀ ds S Q E, s_ ds S Q E → ds.length = 1) (ok : BodyOk (d_Watch_copied K s_Watch_events s_Watch_state s_Watch___init__) ["self", "other"] s_) : FnG P w K mg base (k + 2) f fd ["self"] (lift K s_) :=
  def_ok Fd sc_Watch_copied len fun cdv A outer s H E hgd hr => (w_Watch_copied T hgd hr R_Watch_events R_Watch_state M_Watch).elim fun t v => ⟨t, _, v, ok⟩
theorem b_Watch_copied {f : Addr} {fd : FuncData} (Fd : FunD K "copied" "Watch.copied" (defArgs st_Watch_copied) (defBody st_Watch_copied) (defScope st_Watch_copied) [] [] f fd) : Binds K fd ["self"] [] := Fd.bindsN fun _ _ _ _ _ _ us hl => match us, hl with | [_], _ => rfl
end K30

/-! fine rows: the plain law. -/
namespace Fine
open PySem PySem.Spec PyProof.Rows L2 VL

def tik (a : Int) : Nat → List Int
  | 0 => []
  | n + 1 => a :: tik (a + 1) n
def tikT (a b : Int) : List Int := tik a (b + 1 - a).toNat
theorem rangeD_tik : ∀ (n : Nat) (a : Int), rangeD a n = (tik a n).map D.int := by
  intro n
  induction n with
  | zero => intro a; rfl
  | succ n ih =>
    intro a
    rw [tik, List.map_cons, ← ih]
    unfold rangeD
    rw [List.range_succ_eq_map, List.map_cons, List.map_map]
    congr 1
    · simp
    · apply List.map_congr_left
      intro i _
      simp [Function.comp]
      omega
theorem tik_len : ∀ (n : Nat) (a : Int), (tik a n).length = n
  | 0, _ => rfl
  | n + 1, a => by rw [tik, List.length_cons, tik_len n]
theorem tikT_nil {a b : Int} (h : b < a) : tikT a b = [] := by
  unfold tikT
  have e : (b + 1 - a).toNat = 0 := by omega
  rw [e]; rfl
theorem tikT_cons {a b : Int} (h : a ≤ b) : tikT a b = a :: tikT (a + 1) b := by
  unfold tikT
  have e : (b + 1 - a).toNat = (b + 1 - (a + 1)).toNat + 1 := by omega
  rw [e]; rfl
theorem tikT_len {a b : Int} : (tikT a b).length = (b + 1 - a).toNat := tik_len _ _
theorem mem_tik : ∀ {n : Nat} {a k : Int}, k ∈ tik a n → a ≤ k ∧ k < a + n
  | 0, a, k, h => by cases h
  | n + 1, a, k, h => by
    rw [tik] at h
    rcases List.mem_cons.mp h with e | h
    · subst e; omega
    · have := mem_tik h; omega
theorem mem_tikT {a b k : Int} (h : k ∈ tikT a b) : a ≤ k ∧ k ≤ b := by
  unfold tikT at h
  have := mem_tik h
  by_cases c : a ≤ b
  · omega
  · rw [show (b + 1 - a).toNat = 0 by omega] at h; cases h
def mx (i j : Int) : Int := if j > i then j else i
def mn (i j : Int) : Int := if j < i then j else i
theorem filt : ∀ (n : Nat) (a c d : Int), (tik a n).filter (fun k => decide (c ≤ k) && decide (k < d)) = tikT (mx c a) (mn (d - 1) (a + n - 1))
  | 0, a, c, d => by
    rw [tik, List.filter_nil, tikT_nil]
    unfold mx mn; split <;> split <;> omega
  | n + 1, a, c, d => by
    have ih := filt n (a + 1) c d
    have e : a + 1 + (n : Int) - 1 = a + ((n + 1 : Nat) : Int) - 1 := by omega
    rw [e] at ih
    rw [tik, List.filter_cons]
    by_cases h1 : c ≤ a
    · by_cases h2 : a < d
      · rw [if_pos (by simp [h1, h2]), ih]
        have z : mx c a = a := by unfold mx; split <;> omega
        have z2 : mx c (a + 1) = a + 1 := by unfold mx; split <;> omega
        have z3 : a ≤ mn (d - 1) (a + ((n + 1 : Nat) : Int) - 1) := by unfold mn; split <;> omega
        rw [z, z2, tikT_cons z3]
      · rw [if_neg (by simp [h2]), ih, tikT_nil, tikT_nil] <;> (unfold mx mn; split <;> split <;> omega)
    · rw [if_neg (by simp [h1]), ih]
      have z : mx c a = mx c (a + 1) := by unfold mx; split <;> split <;> omega
      rw [z]
abbrev Sg := List (Int × Int)
def val : Sg → Int → Option Int
  | [], _ => none
  | (t, w) :: r, k => if t ≤ k then some ((val r k).getD w) else val r k
def F2 (s : Sg) (a b : Int) : Sg := (tikT a b).filterMap fun k => (val s k).map fun w => (k, w)
def nextT (till : Int) : Sg → Int
  | [] => till + 1
  | (t, _) :: _ => t
def pieces (a b : Int) : Sg → List (Int × Int × Int)
  | [] => []
  | (t, w) :: r => if mx t a ≤ mn (nextT b r - 1) b then (mx t a, mn (nextT b r - 1) b, w) :: pieces a b r else pieces a b r
def F1 (s : Sg) (a b : Int) : Sg := (pieces a b s).flatMap fun p => (tikT p.1 p.2.1).map fun k => (k, p.2.2)
def Up (s : Sg) : Prop := s.Pairwise fun x y => x.1 < y.1
theorem val_none : ∀ {s : Sg} {k : Int}, (∀ x ∈ s, k < x.1) → val s k = none
  | [], _, _ => rfl
  | (t, w) :: r, k, h => by
    have h1 := h (t, w) (List.mem_cons_self ..)
    rw [val, if_neg (by simp at h1; omega)]
    exact val_none fun x hx => h x (List.mem_cons_of_mem _ hx)
theorem up_tail {x : Int × Int} {r : Sg} (h : Up (x :: r)) : Up r := (List.pairwise_cons.mp h).2
theorem up_lt {x : Int × Int} {r : Sg} (h : Up (x :: r)) : ∀ y ∈ r, x.1 < y.1 := (List.pairwise_cons.mp h).1
theorem step_L {t w b : Int} {r : Sg} (u : Up ((t, w) :: r)) : ∀ (L : List Int), L.Pairwise (· < ·) → (∀ k ∈ L, k ≤ b) →
    (L.filterMap fun k => (val ((t, w) :: r) k).map fun w => (k, w)) = ((L.filter fun k => decide (t ≤ k) && decide (k < nextT b r)).map fun k => (k, w)) ++ L.filterMap fun k => (val r k).map fun w => (k, w)
  | [], _, _ => rfl
  | k :: L, hp, hb => by
    obtain ⟨p1, p2⟩ := List.pairwise_cons.mp hp
    have ih := step_L u L p2 fun k hk => hb k (List.mem_cons_of_mem _ hk)
    have hkb := hb k (List.mem_cons_self ..)
    have ul := up_lt u
    by_cases h1 : t ≤ k
    · by_cases h2 : k < nextT b r
      · have vn : val r k = none := by
          apply val_none
          intro x hx
          cases r with
          | nil => cases hx
          | cons y r =>
            have h3 : k < y.1 := h2
            rcases List.mem_cons.mp hx with e | hx
            · subst e; exact h3
            · exact Int.lt_trans h3 (up_lt (up_tail u) x hx)
        have v1 : val ((t, w) :: r) k = some w := by rw [val, if_pos h1, vn]; rfl
        rw [List.filterMap_cons, v1, List.filter_cons, if_pos (by simp [h1, h2]), List.filterMap_cons, vn]
        simp only [Option.map_some, Option.map_none, List.map_cons, List.cons_append]
        rw [ih]
      · have hr : ∃ y r', r = y :: r' := by
          cases r with
          | nil => exact absurd (show k < b + 1 by omega) h2
          | cons y r' => exact ⟨y, r', rfl⟩
        obtain ⟨⟨t2, w2⟩, r', rfl⟩ := hr
        have h3 : t2 ≤ k := by have : ¬ k < t2 := h2; omega
        have vs : ∃ x, val ((t2, w2) :: r') k = some x := by rw [val, if_pos h3]; exact ⟨_, rfl⟩
        obtain ⟨x, hx⟩ := vs
        have v1 : val ((t, w) :: (t2, w2) :: r') k = some x := by rw [val, if_pos h1, hx]; rfl
        have fe : (L.filter fun k => decide (t ≤ k) && decide (k < nextT b ((t2, w2) :: r'))) = [] := by
          rw [List.filter_eq_nil_iff]
          intro z hz
          have := p1 z hz
          have h4 : ¬ z < t2 := by omega
          simp [nextT, h4]
        rw [fe] at ih
        rw [List.filterMap_cons, v1, List.filter_cons, if_neg (by simp [h2]), fe, List.filterMap_cons, hx]
        simp only [Option.map_some, List.map_nil, List.nil_append] at ih ⊢
        rw [ih]
    · have vn : val r k = none := val_none fun x hx => by have := ul x hx; simp at this; omega
      have v1 : val ((t, w) :: r) k = none := by rw [val, if_neg h1]; exact vn
      rw [List.filterMap_cons, v1, List.filter_cons, if_neg (by simp [h1]), List.filterMap_cons, vn]
      exact ih
theorem tik_up : ∀ (n : Nat) (a : Int), (tik a n).Pairwise (· < ·)
  | 0, _ => .nil
  | n + 1, a => by
    rw [tik]
    exact List.pairwise_cons.mpr ⟨fun k hk => by have := mem_tik hk; omega, tik_up n (a + 1)⟩
theorem F12 {a b : Int} : ∀ {s : Sg}, Up s → F1 s a b = F2 s a b
  | [], _ => by
    show [] = (tikT a b).filterMap fun k => (none : Option Int).map fun w => (k, w)
    simp
  | (t, w) :: r, u => by
    have ih := F12 (a := a) (b := b) (up_tail u)
    have st := step_L (b := b) u (tikT a b) (tik_up _ _) fun k hk => (mem_tikT hk).2
    unfold F2
    rw [st]
    have fl : ((tikT a b).filter fun k => decide (t ≤ k) && decide (k < nextT b r)) = tikT (mx t a) (mn (nextT b r - 1) b) := by
      unfold tikT
      rw [filt]
      by_cases c : a ≤ b + 1
      · have e : a + ((b + 1 - a).toNat : Int) - 1 = b := by omega
        rw [e]; rfl
      · have e : (b + 1 - a).toNat = 0 := by omega
        rw [e, tikT_nil, show tik (mx t a) (mn (nextT b r - 1) b + 1 - mx t a).toNat = tikT (mx t a) (mn (nextT b r - 1) b) from rfl, tikT_nil] <;> (unfold mx mn; split <;> split <;> omega)
    rw [fl]
    unfold F1 at ih ⊢
    rw [pieces]
    by_cases c : mx t a ≤ mn (nextT b r - 1) b
    · rw [if_pos c, List.flatMap_cons, ih]; rfl
    · rw [if_neg c, ih, tikT_nil (by omega)]; rfl
theorem F2_len {s : Sg} {a b : Int} : (F2 s a b).length ≤ (b + 1 - a).toNat := by
  unfold F2
  exact Nat.le_trans (List.length_filterMap_le ..) (Nat.le_of_eq tikT_len)
theorem val_last : ∀ (s : Sg) (k : Int), val s k = ((s.filter fun x => decide (x.1 ≤ k)).map (·.2)).getLast?
  | [], _ => rfl
  | (t, w) :: r, k => by
    rw [val, List.filter_cons]
    by_cases h : t ≤ k
    · rw [if_pos h, if_pos (by simpa using h), List.map_cons, List.getLast?_cons, val_last r k]
    · rw [if_neg h, if_neg (by simpa using h), val_last r k]
theorem val_some {t w k : Int} {r : Sg} (u : Up ((t, w) :: r)) : (val ((t, w) :: r) k).isSome = decide (t ≤ k) := by
  rw [val]
  by_cases h : t ≤ k
  · rw [if_pos h]; simp [h]
  · rw [if_neg h, val_none fun x hx => by have := up_lt u x hx; simp at this; omega]; simp [h]
theorem fm_len {α β : Type} (f : α → Option β) : ∀ l : List α, (l.filterMap f).length = (l.filter fun x => (f x).isSome).length
  | [] => rfl
  | x :: l => by
    rw [List.filterMap_cons, List.filter_cons]
    cases e : f x with
    | none => simp [fm_len f l]
    | some y => simp [fm_len f l]
/-- how many rows there are -/
theorem F2_count {t w a b : Int} {r : Sg} (u : Up ((t, w) :: r)) (hab : a ≤ b + 1) : (F2 ((t, w) :: r) a b).length = (b + 1 - mx t a).toNat := by
  unfold F2
  rw [fm_len]
  have e1 : ((tikT a b).filter fun k => ((val ((t, w) :: r) k).map fun w => (k, w)).isSome) = (tikT a b).filter fun k => decide (t ≤ k) && decide (k < b + 1) := by
    apply List.filter_congr
    intro k hk
    have := (mem_tikT hk).2
    rw [Option.isSome_map, val_some u, show decide (k < b + 1) = true by simp; omega, Bool.and_true]
  rw [e1]
  unfold tikT
  rw [filt, show a + ((b + 1 - a).toNat : Int) - 1 = b by omega, show b + 1 - 1 = b by omega, show mn b b = b by unfold mn; split <;> rfl]
  exact tikT_len
theorem tik_last : ∀ (n : Nat) (a : Int), tik a (n + 1) = tik a n ++ [a + n]
  | 0, a => by simp [tik]
  | n + 1, a => by
    rw [tik, tik_last n (a + 1), tik, List.cons_append]
    congr 3
    omega
theorem F2_last {s : Sg} {a b w : Int} (hab : a ≤ b) (h : val s b = some w) : ∃ l, F2 s a b = l ++ [(b, w)] := by
  unfold F2 tikT
  have e : (b + 1 - a).toNat = (b - a).toNat + 1 := by omega
  rw [e, tik_last, List.filterMap_append]
  have e2 : a + ((b - a).toNat : Int) = b := by omega
  refine ⟨(tik a (b - a).toNat).filterMap fun k => (val s k).map fun w => (k, w), ?_⟩
  rw [e2, List.filterMap_cons, h]
  rfl
/-- the rows' ticks and worths -/
theorem F2_mem {s : Sg} {a b : Int} {x : Int × Int} (h : x ∈ F2 s a b) : a ≤ x.1 ∧ x.1 ≤ b ∧ val s x.1 = some x.2 := by
  obtain ⟨k, hk, e⟩ := List.mem_filterMap.mp h
  obtain ⟨w, e1, e2⟩ := Option.map_eq_some_iff.mp e
  subst e2
  exact ⟨(mem_tikT hk).1, (mem_tikT hk).2, e1⟩
theorem val_mem : ∀ {s : Sg} {k w : Int}, val s k = some w → ∃ t, (t, w) ∈ s
  | (t, v) :: r, k, w, h => by
    rw [val] at h
    by_cases c : t ≤ k
    · rw [if_pos c] at h
      cases e : val r k with
      | none => rw [e] at h; cases h; exact ⟨t, List.mem_cons_self ..⟩
      | some x =>
        rw [e] at h; cases h
        obtain ⟨t', ht⟩ := val_mem e
        exact ⟨t', List.mem_cons_of_mem _ ht⟩
    · rw [if_neg c] at h
      obtain ⟨t', ht⟩ := val_mem h
      exact ⟨t', List.mem_cons_of_mem _ ht⟩
theorem F2_up {s : Sg} {a b : Int} : Up (F2 s a b) := by
  have key : ∀ L : List Int, L.Pairwise (· < ·) → Up (L.filterMap fun k => (val s k).map fun w => (k, w)) := by
    intro L
    induction L with
    | nil => intro _; exact .nil
    | cons k L ih =>
      intro hp
      obtain ⟨p1, p2⟩ := List.pairwise_cons.mp hp
      rw [List.filterMap_cons]
      cases e : (val s k).map fun w => (k, w) with
      | none => exact ih p2
      | some y =>
        refine List.pairwise_cons.mpr ⟨fun z hz => ?_, ih p2⟩
        obtain ⟨w, _, e2⟩ := Option.map_eq_some_iff.mp e
        subst e2
        obtain ⟨k', hk, e3⟩ := List.mem_filterMap.mp hz
        obtain ⟨w', _, e4⟩ := Option.map_eq_some_iff.mp e3
        subst e4
        exact p1 k' hk
  exact key _ (tik_up _ _)

/-! ### the rows by groups -/
/-- count, total, least, greatest by start -/
abbrev Gr := List (Int × Int × Int × Int × Int)
def addG (s m w : Int) : Gr → Gr
  | [] => [(s, m, m * w, w, w)]
  | (k, c, t, l, g) :: r => if k = s then (k, c + m, t + m * w, mn l w, mx g w) :: r else (k, c, t, l, g) :: addG s m w r
def cnt (g : Gr) : Int := (g.map fun x => x.2.1).sum
def tot (g : Gr) : Int := (g.map fun x => x.2.2.1).sum
theorem cnt_add (s m w : Int) : ∀ g : Gr, cnt (addG s m w g) = cnt g + m
  | [] => by simp [addG, cnt]
  | (k, c, t, l, q) :: r => by
    have ih := cnt_add s m w r
    unfold addG
    split
    · simp [cnt]; omega
    · simp only [cnt, List.map_cons, List.sum_cons] at ih ⊢; omega
theorem tot_add (s m w : Int) : ∀ g : Gr, tot (addG s m w g) = tot g + m * w
  | [] => by simp [addG, tot]
  | (k, c, t, l, q) :: r => by
    have ih := tot_add s m w r
    unfold addG
    split
    · simp [tot]; omega
    · simp only [tot, List.map_cons, List.sum_cons] at ih ⊢; omega
theorem keys_add (s m w : Int) : ∀ g : Gr, (addG s m w g).map (·.1) = if s ∈ g.map (·.1) then g.map (·.1) else g.map (·.1) ++ [s]
  | [] => rfl
  | (k, c, t, l, q) :: r => by
    have ih := keys_add s m w r
    unfold addG
    by_cases h : k = s
    · subst h; simp
    · rw [if_neg h, List.map_cons, ih, List.map_cons]
      have h' : ¬ s = k := fun e => h e.symm
      by_cases h2 : s ∈ r.map (·.1)
      · rw [if_pos h2, if_pos (List.mem_cons_of_mem _ h2)]
      · rw [if_neg h2, if_neg (by simp only [List.mem_cons, not_or]; exact ⟨h', h2⟩), List.cons_append]
theorem nodup_add (s m w : Int) {g : Gr} (h : (g.map (·.1)).Nodup) : ((addG s m w g).map (·.1)).Nodup := by
  rw [keys_add]
  split
  · exact h
  · next n => exact List.nodup_append.mpr ⟨h, by simp, by intro a ha b hb; simp at hb; subst hb; intro e; subst e; exact n ha⟩
def rowsG (size : Int) (f : Sg) : Gr := f.foldl (fun g x => addG (x.1 - x.1 % size) 1 x.2 g) []
theorem foldG (size : Int) : ∀ (f : Sg) (g : Gr), cnt (f.foldl (fun g x => addG (x.1 - x.1 % size) 1 x.2 g) g) = cnt g + f.length ∧ tot (f.foldl (fun g x => addG (x.1 - x.1 % size) 1 x.2 g) g) = tot g + (f.map (·.2)).sum
  | [], g => by simp
  | x :: f, g => by
    have ih := foldG size f (addG (x.1 - x.1 % size) 1 x.2 g)
    rw [cnt_add, tot_add] at ih
    simp only [List.foldl_cons, List.length_cons, List.map_cons, List.sum_cons]
    omega
/-! ### one sign each three ticks -/
def every (base : Int) : Nat → Nat → Sg
  | _, 0 => []
  | i, n + 1 => (base + 3 * (i : Int), (i : Int) % 64) :: every base (i + 1) n
theorem every_val (base : Int) : ∀ (n i j : Nat), i ≤ j / 3 → j / 3 < i + n → val (every base i n) (base + j) = some (((j / 3 : Nat) : Int) % 64)
  | 0, i, j, h1, h2 => by omega
  | n + 1, i, j, h1, h2 => by
    rw [every, val, if_pos (by omega)]
    by_cases e : j / 3 = i
    · have vn : val (every base (i + 1) n) (base + j) = none := by
        cases n with
        | zero => rfl
        | succ n =>
          apply val_none
          have key : ∀ (m q : Nat), i + 1 ≤ q → ∀ x ∈ every base q m, base + (j : Int) < x.1 := by
            intro m
            induction m with
            | zero => intro q _ x hx; cases hx
            | succ m ih =>
              intro q hq x hx
              rw [every] at hx
              rcases List.mem_cons.mp hx with e2 | hx
              · subst e2; show base + (j : Int) < base + 3 * (q : Int); omega
              · exact ih (q + 1) (by omega) x hx
          exact key (n + 1) (i + 1) (Nat.le_refl _)
      rw [vn, e]; rfl
    · rw [every_val base n (i + 1) j (by omega) (by omega)]; rfl
end Fine

/-! coarse rows of any size: the plain law. -/
namespace Fine
theorem mn_same (a : Int) : mn a a = a := by unfold mn; split <;> rfl
theorem mx_same (a : Int) : mx a a = a := by unfold mx; split <;> rfl
theorem mn_twice (l w : Int) : mn (mn l w) w = mn l w := by unfold mn; repeat' split <;> omega
theorem mx_twice (l w : Int) : mx (mx l w) w = mx l w := by unfold mx; repeat' split <;> omega
theorem addG_two (s n m w : Int) : ∀ G : Gr, addG s m w (addG s n w G) = addG s (n + m) w G
  | [] => by
    simp only [addG, if_true, mn_same, mx_same, Int.add_mul]
  | (k, c, t, l, g) :: G => by
    by_cases h : k = s
    · simp only [addG, if_pos h, mn_twice, mx_twice, Int.add_mul, Int.add_assoc]
    · simp only [addG, if_neg h, addG_two s n m w G]
theorem fold_same {size s w : Int} : ∀ (l : List Int) (G : Gr), l ≠ [] → (∀ k ∈ l, k - k % size = s) → l.foldl (fun g k => addG (k - k % size) 1 w g) G = addG s l.length w G
  | [], _, h, _ => absurd rfl h
  | [k], G, _, h => by
    simp only [List.foldl_cons, List.foldl_nil, h k (List.mem_cons_self ..)]; rfl
  | k :: k2 :: l, G, _, h => by
    have ih := fold_same (size := size) (s := s) (w := w) (k2 :: l) (addG (k - k % size) 1 w G) (by simp) fun x hx => h x (List.mem_cons_of_mem _ hx)
    rw [List.foldl_cons, ih, h k (List.mem_cons_self ..), addG_two]
    congr 1
    simp only [List.length_cons]; omega
theorem in_chunk {size a k : Int} (hs : 0 < size) (h1 : a ≤ k) (h2 : k ≤ a - a % size + size - 1) : k - k % size = a - a % size := by
  have m0 := Int.emod_nonneg a (by omega : size ≠ 0)
  have m1 := Int.emod_lt_of_pos a hs
  have e : a - a % size = size * (a / size) := by have := Int.mul_ediv_add_emod a size; omega
  have e2 : k = (k - (a - a % size)) + size * (a / size) := by omega
  have e3 : k % size = k - (a - a % size) := by
    rw [e2, Int.add_mul_emod_self_left, Int.emod_eq_of_lt (by omega) (by omega), ← e]
    omega
  omega
theorem tik_app : ∀ (n m : Nat) (a : Int), tik a (n + m) = tik a n ++ tik (a + n) m
  | 0, m, a => by simp [tik]
  | n + 1, m, a => by
    have ih := tik_app n m (a + 1)
    rw [show n + 1 + m = (n + m) + 1 by omega]
    simp only [tik, List.cons_append, ih]
    rw [show a + 1 + (n : Int) = a + ((n + 1 : Nat) : Int) by omega]
theorem tikT_app {a b c : Int} (h1 : a ≤ b + 1) (h2 : b ≤ c) : tikT a c = tikT a b ++ tikT (b + 1) c := by
  unfold tikT
  rw [show (c + 1 - a).toNat = (b + 1 - a).toNat + (c + 1 - (b + 1)).toNat by omega, tik_app]
  congr 2
  omega
/-- one part's ticks put in -/
def putT (size w : Int) (l : List Int) (G : Gr) : Gr := l.foldl (fun g k => addG (k - k % size) 1 w g) G
theorem putT_chunk {size a b w : Int} {G : Gr} (hs : 0 < size) (hab : a ≤ b) :
    putT size w (tikT a b) G = putT size w (tikT (mn b (a - a % size + size - 1) + 1) b) (addG (a - a % size) (mn b (a - a % size + size - 1) - a + 1) w G) := by
  have m0 := Int.emod_nonneg a (by omega : size ≠ 0)
  have m1 := Int.emod_lt_of_pos a hs
  have hm : mn b (a - a % size + size - 1) ≤ b ∧ a ≤ mn b (a - a % size + size - 1) ∧ mn b (a - a % size + size - 1) ≤ a - a % size + size - 1 := by unfold mn; split <;> omega
  generalize mn b (a - a % size + size - 1) = e at hm
  rw [tikT_app (a := a) (b := e) (c := b) (by omega) hm.1]
  unfold putT
  rw [List.foldl_append, fold_same (size := size) (s := a - a % size) (tikT a e) G (by rw [tikT_cons hm.2.1]; simp) (fun k hk => ?_)]
  · congr 2
    rw [tikT_len]; omega
  · have := mem_tikT hk
    exact in_chunk hs this.1 (by omega)
/-- the rows of parts -/
def partsG (size : Int) (ps : List (Int × Int × Int)) (G : Gr) : Gr := ps.foldl (fun g p => putT size p.2.2 (tikT p.1 p.2.1) g) G
theorem parts_F1 (size a b : Int) (s : Sg) : partsG size (pieces a b s) [] = rowsG size (F1 s a b) := by
  have key : ∀ (ps : List (Int × Int × Int)) (G : Gr), partsG size ps G = (ps.flatMap fun p => (tikT p.1 p.2.1).map fun k => (k, p.2.2)).foldl (fun g x => addG (x.1 - x.1 % size) 1 x.2 g) G := by
    intro ps
    induction ps with
    | nil => intro G; rfl
    | cons p ps ih =>
      intro G
      rw [List.flatMap_cons, List.foldl_append, List.foldl_map]
      exact ih _
  exact key _ _
end Fine

/-! rows of rows: the plain law. -/
namespace Fine
def addE (s m t l g : Int) : Gr → Gr
  | [] => [(s, m, t, l, g)]
  | (k, c, t0, l0, g0) :: r => if k = s then (k, m + c, t + t0, mn l l0, mx g g0) :: r else (k, c, t0, l0, g0) :: addE s m t l g r
theorem mn_comm (a b : Int) : mn a b = mn b a := by unfold mn; split <;> split <;> omega
theorem mx_comm (a b : Int) : mx a b = mx b a := by unfold mx; split <;> split <;> omega
theorem mn_assoc (a b c : Int) : mn a (mn b c) = mn (mn a b) c := by unfold mn; repeat' split <;> omega
theorem mx_assoc (a b c : Int) : mx a (mx b c) = mx (mx a b) c := by unfold mx; repeat' split <;> omega
theorem addE_one (s w : Int) : ∀ G : Gr, addE s 1 (1 * w) w w G = addG s 1 w G
  | [] => rfl
  | (k, c, t, l, g) :: r => by
    unfold addE addG
    rw [addE_one s w r, mn_comm w l, mx_comm w g, Int.add_comm 1 c, Int.add_comm (1 * w) t]
theorem addE_more (s w m t l g : Int) : ∀ G : Gr, addE s (m + 1) (t + 1 * w) (mn l w) (mx g w) G = addG s 1 w (addE s m t l g G)
  | [] => by simp only [addE, addG, if_true]
  | (k, c, t0, l0, g0) :: r => by
    by_cases h : k = s
    · simp only [addE, addG, if_pos h]
      rw [← mn_assoc, ← mx_assoc, mn_comm w l0, mx_comm w g0, mn_assoc, mx_assoc, show m + 1 + c = m + c + 1 by omega, show t + 1 * w + t0 = t + t0 + 1 * w by omega]
    · simp only [addE, addG, if_neg h, addE_more s w m t l g r]
theorem addE_comm {s s' w m t l g : Int} : ∀ G : Gr, s ∈ G.map (·.1) → addE s' m t l g (addG s 1 w G) = addG s 1 w (addE s' m t l g G)
  | [], h => by cases h
  | (k, c, t0, l0, g0) :: r, h => by
    by_cases e : k = s
    · by_cases e' : k = s'
      · simp only [addE, addG, if_pos e, if_pos e', mn_assoc, mx_assoc, Int.add_assoc]
      · simp only [addE, addG, if_pos e, if_neg e']
    · have h' : s ∈ r.map (·.1) := by
        rw [List.map_cons] at h
        rcases List.mem_cons.mp h with z | z
        · exact absurd z.symm e
        · exact z
      by_cases e' : k = s'
      · simp only [addE, addG, if_neg e, if_pos e']
      · simp only [addE, addG, if_neg e, if_neg e', addE_comm r h']
theorem addE_key (s m t l g : Int) : ∀ G : Gr, s ∈ (addE s m t l g G).map (·.1)
  | [] => by simp [addE]
  | (k, c, t0, l0, g0) :: r => by
    have ih := addE_key s m t l g r
    unfold addE
    split
    · next h => subst h; simp
    · rw [List.map_cons]; exact List.mem_cons_of_mem _ ih
theorem addE_keeps {x : Int} (s m t l g : Int) : ∀ G : Gr, x ∈ G.map (·.1) → x ∈ (addE s m t l g G).map (·.1)
  | [], h => by cases h
  | (k, c, t0, l0, g0) :: r, h => by
    have ih := addE_keeps (x := x) s m t l g r
    rw [List.map_cons] at h
    unfold addE
    split
    · rw [List.map_cons]; exact h
    · rw [List.map_cons]
      rcases List.mem_cons.mp h with z | z
      · rw [z]; exact List.mem_cons_self ..
      · exact List.mem_cons_of_mem _ (ih z)
/-- rows put together -/
def foldT (big : Int) (G Γ : Gr) : Gr := G.foldl (fun g x => addE (x.1 - x.1 % big) x.2.1 x.2.2.1 x.2.2.2.1 x.2.2.2.2 g) Γ
theorem foldT_comm {big s w : Int} : ∀ (G Γ : Gr), s ∈ Γ.map (·.1) → foldT big G (addG s 1 w Γ) = addG s 1 w (foldT big G Γ)
  | [], Γ, _ => rfl
  | (k, c, t, l, g) :: r, Γ, h => by
    show foldT big r (addE _ _ _ _ _ (addG s 1 w Γ)) = _
    rw [addE_comm Γ h]
    exact foldT_comm r _ (addE_keeps _ _ _ _ _ Γ h)
theorem foldT_add {big s w : Int} : ∀ (G Γ : Gr), foldT big (addG s 1 w G) Γ = addG (s - s % big) 1 w (foldT big G Γ)
  | [], Γ => addE_one _ _ _
  | (k, c, t, l, g) :: r, Γ => by
    by_cases e : k = s
    · subst e
      rw [addG, if_pos rfl]
      show foldT big r (addE _ _ _ _ _ Γ) = addG _ 1 w (foldT big r (addE _ _ _ _ _ Γ))
      simp only []
      rw [addE_more]
      exact foldT_comm r _ (addE_key _ _ _ _ _ Γ)
    · rw [addG, if_neg e]
      exact foldT_add r _
/-- rows of size put together in big are the rows of big, where a start of size has the same start of big -/
theorem foldT_rows {big size : Int} (hs : ∀ k : Int, (k - k % size) - (k - k % size) % big = k - k % big) : ∀ (f : Sg) (G Γ : Gr),
    foldT big (f.foldl (fun g x => addG (x.1 - x.1 % size) 1 x.2 g) G) Γ = f.foldl (fun g x => addG (x.1 - x.1 % big) 1 x.2 g) (foldT big G Γ)
  | [], G, Γ => rfl
  | x :: f, G, Γ => by
    rw [List.foldl_cons, List.foldl_cons, foldT_rows hs f, foldT_add, hs]
theorem start_start {size times : Int} (hs : 0 < size) (ht : 0 < times) (k : Int) : (k - k % size) - (k - k % size) % (size * times) = k - k % (size * times) := by
  have e : k - k % size = size * (k / size) := by have := Int.mul_ediv_add_emod k size; omega
  have e1 : size * (k / size) % (size * times) = size * ((k / size) % times) := Int.mul_emod_mul_of_pos _ _ hs
  have e2 := Int.mul_ediv_add_emod (k / size) times
  have e3 : k / (size * times) = k / size / times := (Int.ediv_ediv_of_nonneg (by omega)).symm
  have e4 := Int.mul_ediv_add_emod k (size * times)
  rw [e, e1, ← Int.mul_sub]
  rw [show k / size - k / size % times = times * (k / size / times) by omega, ← Int.mul_assoc, ← e3]
  omega
theorem start_same {size : Int} (hs : 0 < size) (k : Int) : (k - k % size) - (k - k % size) % size = k - k % size := by
  have := start_start hs (show (0 : Int) < 1 by decide) k
  rwa [Int.mul_one] at this
def onesR (f : Sg) : Gr := f.map fun x => (x.1, 1, x.2, x.2, x.2)
theorem foldT_ones {size : Int} : ∀ (f : Sg) (Γ : Gr), foldT size (onesR f) Γ = f.foldl (fun g x => addG (x.1 - x.1 % size) 1 x.2 g) Γ
  | [], Γ => rfl
  | x :: f, Γ => by
    show foldT size (onesR f) (addE (x.1 - x.1 % size) 1 x.2 x.2 x.2 Γ) = _
    have e : addE (x.1 - x.1 % size) 1 x.2 x.2 x.2 Γ = addG (x.1 - x.1 % size) 1 x.2 Γ := by
      have := addE_one (x.1 - x.1 % size) x.2 Γ
      rwa [Int.one_mul] at this
    rw [e]; exact foldT_ones f _
/-- the law's four sentences -/
theorem law_ones (size : Int) (f : Sg) : foldT size (onesR f) [] = rowsG size f := foldT_ones f []
theorem law_big {size times : Int} (hs : 0 < size) (ht : 0 < times) (f : Sg) : foldT (size * times) (rowsG size f) [] = rowsG (size * times) f := foldT_rows (start_start hs ht) f [] []
theorem law_cut {size : Int} (hs : 0 < size) (f g : Sg) : foldT size (rowsG size f ++ rowsG size g) [] = rowsG size (f ++ g) := by
  unfold foldT
  rw [List.foldl_append]
  have h1 : foldT size (rowsG size f) [] = rowsG size f := foldT_rows (start_same hs) f [] []
  have h2 := foldT_rows (start_same hs) g [] (rowsG size f)
  unfold foldT at h1 h2
  rw [h1]
  unfold rowsG at h2 ⊢
  rw [h2, List.foldl_append]
  rfl
theorem F2_cut {s : Sg} {a c b : Int} (h1 : a ≤ c + 1) (h2 : c ≤ b) : F2 s a b = F2 s a c ++ F2 s (c + 1) b := by
  unfold F2
  rw [tikT_app h1 h2, List.filterMap_append]
end Fine

/-! rows of rows: the starts ascend. -/
namespace Fine
theorem keys_addE (s m t l g : Int) : ∀ G : Gr, (addE s m t l g G).map (·.1) = if s ∈ G.map (·.1) then G.map (·.1) else G.map (·.1) ++ [s]
  | [] => rfl
  | (k, c, t0, l0, g0) :: r => by
    have ih := keys_addE s m t l g r
    unfold addE
    by_cases h : k = s
    · subst h; simp
    · rw [if_neg h, List.map_cons, ih, List.map_cons]
      have h' : ¬ s = k := fun e => h e.symm
      by_cases h2 : s ∈ r.map (·.1)
      · rw [if_pos h2, if_pos (List.mem_cons_of_mem _ h2)]
      · rw [if_neg h2, if_neg (by simp only [List.mem_cons, not_or]; exact ⟨h', h2⟩), List.cons_append]
def Asc (G : Gr) : Prop := (G.map (·.1)).Pairwise (· < ·)
theorem asc_add {s m t l g : Int} {G : Gr} (h : Asc G) (hs : ∀ k ∈ G.map (·.1), k ≤ s) : Asc (addE s m t l g G) ∧ ∀ k ∈ (addE s m t l g G).map (·.1), k ≤ s := by
  unfold Asc
  rw [keys_addE]
  split
  · exact ⟨h, hs⟩
  · next n =>
    refine ⟨List.pairwise_append.mpr ⟨h, List.pairwise_singleton _ _, fun a ha b hb => ?_⟩, fun k hk => ?_⟩
    · rw [List.mem_singleton] at hb
      subst hb
      have := hs a ha
      have : a ≠ b := fun e => n (e ▸ ha)
      omega
    · rcases List.mem_append.mp hk with z | z
      · exact hs k z
      · rw [List.mem_singleton] at z; omega
theorem start_mono {size a b : Int} (hs : 0 < size) (h : a ≤ b) : a - a % size ≤ b - b % size := by
  have e1 : a - a % size = size * (a / size) := by have := Int.mul_ediv_add_emod a size; omega
  have e2 : b - b % size = size * (b / size) := by have := Int.mul_ediv_add_emod b size; omega
  rw [e1, e2]
  exact Int.mul_le_mul_of_nonneg_left (Int.ediv_le_ediv hs h) (by omega)
theorem asc_fold {size : Int} (hs : 0 < size) : ∀ (G Γ : Gr), (G.map (·.1)).Pairwise (· ≤ ·) → Asc Γ → (∀ k ∈ Γ.map (·.1), ∀ x ∈ G, k ≤ x.1 - x.1 % size) → Asc (foldT size G Γ)
  | [], Γ, _, h, _ => h
  | x :: r, Γ, hp, h, hk => by
    rw [List.map_cons] at hp
    obtain ⟨p1, p2⟩ := List.pairwise_cons.mp hp
    obtain ⟨a1, a2⟩ := asc_add (s := x.1 - x.1 % size) (m := x.2.1) (t := x.2.2.1) (l := x.2.2.2.1) (g := x.2.2.2.2) h fun k hk' => hk k hk' x (List.mem_cons_self ..)
    refine asc_fold hs r _ p2 a1 fun k hk' y hy => ?_
    have := a2 k hk'
    have := start_mono hs (p1 y.1 (List.mem_map_of_mem hy))
    omega
end Fine

/-! rows of rows: starts, bounds, single rows. -/
namespace Fine
theorem rows_keys {size : Int} : ∀ (f : Sg) (G : Gr), ∀ k ∈ ((f.foldl (fun g x => addG (x.1 - x.1 % size) 1 x.2 g) G).map (·.1)), k ∈ G.map (·.1) ∨ ∃ x ∈ f, k = x.1 - x.1 % size
  | [], G, k, h => .inl h
  | x :: f, G, k, h => by
    rcases rows_keys f _ k h with h | ⟨y, hy, e⟩
    · rw [keys_add] at h
      split at h
      · exact .inl h
      · rcases List.mem_append.mp h with h | h
        · exact .inl h
        · rw [List.mem_singleton] at h
          exact .inr ⟨x, List.mem_cons_self .., h⟩
    · exact .inr ⟨y, List.mem_cons_of_mem _ hy, e⟩
theorem ones_up {f : Sg} (u : Up f) : ((onesR f).map (·.1)).Pairwise (· ≤ ·) := by
  unfold onesR
  rw [List.map_map]
  exact List.pairwise_map.mpr (List.Pairwise.imp (fun h => Int.le_of_lt h) u)
theorem asc_le {G : Gr} (h : Asc G) : (G.map (·.1)).Pairwise (· ≤ ·) := List.Pairwise.imp (fun h => Int.le_of_lt h) h
theorem asc_nodup {G : Gr} (h : Asc G) : (G.map (·.1)).Nodup := List.Pairwise.imp (fun h => Int.ne_of_lt h) h
theorem rows_asc {size : Int} (hs : 0 < size) {f : Sg} (u : Up f) : Asc (rowsG size f) := by
  rw [← law_ones]
  exact asc_fold hs _ _ (ones_up u) .nil fun k hk => by cases hk
theorem two_le {size : Int} (hs : 0 < size) {f g : Sg} (u : Up (f ++ g)) : ((rowsG size f ++ rowsG size g).map (·.1)).Pairwise (· ≤ ·) := by
  obtain ⟨u1, u2, u3⟩ := List.pairwise_append.mp u
  rw [List.map_append]
  refine List.pairwise_append.mpr ⟨asc_le (rows_asc hs u1), asc_le (rows_asc hs u2), fun a ha b hb => ?_⟩
  rcases rows_keys f [] a ha with h | ⟨x, hx, rfl⟩
  · cases h
  rcases rows_keys g [] b hb with h | ⟨y, hy, rfl⟩
  · cases h
  exact start_mono hs (Int.le_of_lt (u3 x hx y hy))
def Bd (n : Int) (x : Int × Int × Int × Int × Int) : Prop := 0 ≤ x.1 ∧ x.1 ≤ 9999 ∧ 0 ≤ x.2.1 ∧ x.2.1 ≤ n ∧ 0 ≤ x.2.2.1 ∧ x.2.2.1 ≤ 63 * n ∧ 0 ≤ x.2.2.2.1 ∧ x.2.2.2.1 ≤ 63 ∧ 0 ≤ x.2.2.2.2 ∧ x.2.2.2.2 ≤ 63
theorem bd_add {s w n : Int} (s0 : 0 ≤ s) (s1 : s ≤ 9999) (w0 : 0 ≤ w) (w1 : w ≤ 63) (hn : 0 ≤ n) : ∀ {G : Gr}, (∀ x ∈ G, Bd n x) → ∀ x ∈ addG s 1 w G, Bd (n + 1) x
  | [], _, x, hx => by
    rw [addG, List.mem_singleton] at hx
    subst hx
    unfold Bd; dsimp only; omega
  | (k, c, t, l, g) :: G, h, x, hx => by
    have hh := h _ (List.mem_cons_self ..)
    have ht : ∀ x ∈ G, Bd n x := fun x hx => h x (List.mem_cons_of_mem _ hx)
    have up : ∀ x, Bd n x → Bd (n + 1) x := fun x hb => by unfold Bd at hb ⊢; omega
    unfold addG at hx
    split at hx
    · rcases List.mem_cons.mp hx with e | hx
      · subst e
        unfold Bd at hh ⊢
        dsimp only at hh ⊢
        have : 0 ≤ mn l w ∧ mn l w ≤ 63 := by unfold mn; split <;> omega
        have : 0 ≤ mx g w ∧ mx g w ≤ 63 := by unfold mx; split <;> omega
        omega
      · exact up x (ht x hx)
    · rcases List.mem_cons.mp hx with e | hx
      · subst e; exact up _ hh
      · exact bd_add s0 s1 w0 w1 hn ht x hx
theorem bd_rows {size : Int} (hs : 0 < size) : ∀ (f : Sg) (n : Int) (G : Gr), 0 ≤ n → (∀ x ∈ f, 0 ≤ x.1 ∧ x.1 ≤ 9999 ∧ 0 ≤ x.2 ∧ x.2 ≤ 63) → (∀ x ∈ G, Bd n x) → ∀ x ∈ f.foldl (fun g x => addG (x.1 - x.1 % size) 1 x.2 g) G, Bd (n + f.length) x
  | [], n, G, _, _, h => by simpa using h
  | y :: f, n, G, hn, v, h => by
    obtain ⟨a, b, c, d⟩ := v y (List.mem_cons_self ..)
    have m0 := Int.emod_nonneg y.1 (by omega : size ≠ 0)
    have e0 : y.1 - y.1 % size = size * (y.1 / size) := by have := Int.mul_ediv_add_emod y.1 size; omega
    have d0 : 0 ≤ y.1 / size := Int.ediv_nonneg a (by omega)
    have m1 : 0 ≤ y.1 - y.1 % size := by rw [e0]; exact Int.mul_nonneg (by omega) d0
    have ih := bd_rows hs f (n + 1) (addG (y.1 - y.1 % size) 1 y.2 G) (by omega) (fun x hx => v x (List.mem_cons_of_mem _ hx)) (bd_add m1 (by omega) c d hn h)
    intro x hx
    have := ih x hx
    rw [List.length_cons]
    have e : n + ((f.length + 1 : Nat) : Int) = n + 1 + f.length := by omega
    rw [e]; exact this
theorem bd_rowsG {size : Int} (hs : 0 < size) {f : Sg} (v : ∀ x ∈ f, 0 ≤ x.1 ∧ x.1 ≤ 9999 ∧ 0 ≤ x.2 ∧ x.2 ≤ 63) : ∀ x ∈ rowsG size f, Bd f.length x := by
  have := bd_rows hs f 0 [] (by omega) v (by intro x hx; cases hx)
  rw [Int.zero_add] at this
  exact this
theorem bd_ones {f : Sg} (v : ∀ x ∈ f, 0 ≤ x.1 ∧ x.1 ≤ 9999 ∧ 0 ≤ x.2 ∧ x.2 ≤ 63) : ∀ x ∈ onesR f, Bd 1 x := by
  intro x hx
  obtain ⟨y, hy, rfl⟩ := List.mem_map.mp hx
  obtain ⟨a, b, c, d⟩ := v y hy
  unfold Bd; dsimp only; omega
theorem addG_len (s m w : Int) : ∀ G : Gr, (addG s m w G).length ≤ G.length + 1
  | [] => Nat.le_refl _
  | (k, c, t, l, g) :: G => by
    have := addG_len s m w G
    unfold addG
    split <;> simp <;> omega
theorem rows_len (size : Int) : ∀ (f : Sg) (G : Gr), (f.foldl (fun g x => addG (x.1 - x.1 % size) 1 x.2 g) G).length ≤ G.length + f.length
  | [], G => Nat.le_refl _
  | x :: f, G => by
    have h1 := rows_len size f (addG (x.1 - x.1 % size) 1 x.2 G)
    have h2 := addG_len (x.1 - x.1 % size) 1 x.2 G
    simp only [List.foldl_cons, List.length_cons]
    omega
theorem rowsG_len (size : Int) (f : Sg) : (rowsG size f).length ≤ f.length := by
  have := rows_len size f []
  simpa [rowsG] using this
theorem addG_new {s m w : Int} : ∀ {G : Gr}, s ∉ G.map (·.1) → addG s m w G = G ++ [(s, m, m * w, w, w)]
  | [], _ => rfl
  | x :: G, h => by
    have h1 : ¬ x.1 = s := fun e => h (by rw [List.map_cons, e]; exact List.mem_cons_self ..)
    have ih := addG_new (s := s) (m := m) (w := w) (G := G) fun q => h (by rw [List.map_cons]; exact List.mem_cons_of_mem _ q)
    obtain ⟨k, c, t, l, g⟩ := x
    rw [addG, if_neg h1, ih]; rfl
theorem one_rows : ∀ (f : Sg) (G : Gr), Up f → (∀ k ∈ G.map (·.1), ∀ x ∈ f, k < x.1) → f.foldl (fun g x => addG (x.1 - x.1 % 1) 1 x.2 g) G = G ++ onesR f
  | [], G, _, _ => by simp [onesR]
  | x :: f, G, u, h => by
    have e : x.1 - x.1 % 1 = x.1 := by rw [Int.emod_one]; omega
    have n : x.1 ∉ G.map (·.1) := fun q => by have := h _ q x (List.mem_cons_self ..); omega
    rw [List.foldl_cons, e, addG_new n, one_rows f _ (up_tail u)]
    · simp [onesR]
    · intro k hk y hy
      rw [List.map_append] at hk
      rcases List.mem_append.mp hk with hk | hk
      · exact h k hk y (List.mem_cons_of_mem _ hy)
      · simp at hk
        subst hk
        exact up_lt u y hy
theorem rows_one {f : Sg} (u : Up f) : rowsG 1 f = onesR f := by
  have := one_rows f [] u (by intro k hk; cases hk)
  simpa [rowsG] using this
theorem F2_le {s : Sg} {a c b : Int} (h1 : a ≤ c + 1) (h2 : c ≤ b) : ((F2 s a b).filter fun x => decide (x.1 ≤ c)) = F2 s a c := by
  rw [F2_cut h1 h2, List.filter_append, List.filter_eq_self.mpr, List.filter_eq_nil_iff.mpr, List.append_nil]
  · intro x hx
    have := F2_mem hx
    simp; omega
  · intro x hx
    have := F2_mem hx
    simp; omega
theorem F2_gt {s : Sg} {a c b : Int} (h1 : a ≤ c + 1) (h2 : c ≤ b) : ((F2 s a b).filter fun x => decide (x.1 > c)) = F2 s (c + 1) b := by
  rw [F2_cut h1 h2, List.filter_append, List.filter_eq_nil_iff.mpr, List.filter_eq_self.mpr, List.nil_append]
  · intro x hx
    have := F2_mem hx
    simp; omega
  · intro x hx
    have := F2_mem hx
    simp; omega
end Fine

/-! watches: the plain machine. -/
namespace Wat
structure Ru where
  up : Bool
  lim : Int
  back : Int
  hold : Int
def beyond (r : Ru) (w : Int) : Bool := if r.up = true then decide (w > r.lim) else decide (w < r.lim)
def rests (r : Ru) (w : Int) : Bool := if r.up = true then decide (w ≤ r.lim - r.back) else decide (w ≥ r.lim + r.back)
inductive St where
  | quiet
  | waits (s : Int)
  | stands (s : Int)
abbrev Ev := List (Int × Option Int)
structure Wt where
  ev : Ev
  st : St
def due (r : Ru) (t : Int) (w : Wt) : Bool := match w.st with
  | .waits s => decide (s + r.hold ≤ t)
  | _ => false
def raise (r : Ru) (w : Wt) : Wt := match w.st with
  | .waits s => ⟨w.ev ++ [(s + r.hold, none)], .stands (s + r.hold)⟩
  | _ => w
def come (r : Ru) (t : Int) (w : Wt) : Wt := if due r t w = true then raise r w else w
def shut (t : Int) (w : Wt) : Wt := match w.ev.getLast? with
  | some x => ⟨w.ev.dropLast ++ [(x.1, some t)], .quiet⟩
  | none => w
def turn (r : Ru) (t x : Int) (w : Wt) : Wt := match w.st with
  | .stands _ => if rests r x = true then shut t w else w
  | .waits _ => if beyond r x = true then w else ⟨w.ev, .quiet⟩
  | .quiet => if beyond r x = true then ⟨w.ev, .waits t⟩ else w
def hear (r : Ru) (t x : Int) (w : Wt) : Wt := come r t (turn r t x (come r (t - 1) w))
abbrev Sgs := List (Int × Int)
def heard (r : Ru) (l : Sgs) (w : Wt) : Wt := l.foldl (fun w x => hear r x.1 x.2 w) w
def start : Wt := ⟨[], .quiet⟩
def run (r : Ru) (l : Sgs) (till : Int) : Wt := come r till (heard r l start)
/-- the one that stands is the last one told -/
def Ok (w : Wt) : Prop := match w.st with
  | .stands s => ∃ e, w.ev = e ++ [(s, none)]
  | _ => True
theorem ok_raise {r : Ru} {w : Wt} (h : Ok w) : Ok (raise r w) := by
  unfold raise
  split
  · exact ⟨_, rfl⟩
  · exact h
theorem ok_come {r : Ru} {t : Int} {w : Wt} (h : Ok w) : Ok (come r t w) := by
  unfold come; split
  · exact ok_raise h
  · exact h
theorem ok_turn {r : Ru} {t x : Int} {w : Wt} (h : Ok w) : Ok (turn r t x w) := by
  unfold turn
  split
  · next s e =>
    split
    · unfold shut
      split
      · exact True.intro
      · exact h
    · exact h
  · split
    · exact h
    · exact True.intro
  · split
    · exact True.intro
    · exact h
theorem ok_hear {r : Ru} {t x : Int} {w : Wt} (h : Ok w) : Ok (hear r t x w) := ok_come (ok_turn (ok_come h))
theorem ok_heard {r : Ru} : ∀ {l : Sgs} {w : Wt}, Ok w → Ok (heard r l w)
  | [], w, h => h
  | x :: l, w, h => ok_heard (l := l) (ok_hear h)
theorem ok_start : Ok start := True.intro
theorem come_come {r : Ru} {t u : Int} {w : Wt} (h : t ≤ u) : come r u (come r t w) = come r u w := by
  unfold come due raise
  obtain ⟨ev, st⟩ := w
  cases st with
  | quiet => simp
  | stands s => simp
  | waits s =>
    by_cases c : s + r.hold ≤ t
    · have c2 : s + r.hold ≤ u := by omega
      simp [c, c2]
    · simp [c]
theorem come_less {r : Ru} {t u : Int} {w : Wt} (h : u ≤ t) : come r u (come r t w) = come r t w := by
  unfold come due raise
  obtain ⟨ev, st⟩ := w
  cases st with
  | quiet => simp
  | stands s => simp
  | waits s =>
    by_cases c : s + r.hold ≤ t
    · simp [c]
    · have c2 : ¬ s + r.hold ≤ u := by omega
      simp [c, c2]
/-- what a worth leaves -/
def At (r : Ru) (x : Int) (w : Wt) : Prop := match w.st with
  | .stands _ => rests r x = false
  | .waits _ => beyond r x = true
  | .quiet => beyond r x = false
theorem apart {r : Ru} (hb : 0 ≤ r.back) {x : Int} (h : beyond r x = true) : rests r x = false := by
  unfold beyond at h
  unfold rests
  split at h
  · next e => rw [if_pos e]; simp at h ⊢; omega
  · next e => rw [if_neg e]; simp at h ⊢; omega
theorem at_come {r : Ru} (hb : 0 ≤ r.back) {t x : Int} {w : Wt} (h : At r x w) : At r x (come r t w) := by
  unfold come due raise
  obtain ⟨ev, st⟩ := w
  cases st with
  | quiet => simpa using h
  | stands s => simpa using h
  | waits s =>
    by_cases c : s + r.hold ≤ t
    · simp [c]
      exact apart hb h
    · simp [c]; exact h
theorem at_turn {r : Ru} (hb : 0 ≤ r.back) {t x : Int} {w : Wt} (h : Ok w) : At r x (turn r t x w) := by
  obtain ⟨ev, st⟩ := w
  cases st with
  | quiet =>
    unfold turn
    by_cases c : beyond r x = true
    · simp [c]; exact c
    · simp [c]; simpa [At] using c
  | waits s =>
    unfold turn
    by_cases c : beyond r x = true
    · simp [c]; exact c
    · simp [c]; simpa [At] using c
  | stands s =>
    unfold turn
    by_cases c : rests r x = true
    · obtain ⟨e, he⟩ := h
      simp only at he
      have nb : beyond r x = false := by
        cases q : beyond r x with
        | false => rfl
        | true => rw [apart hb q] at c; cases c
      simp [c, shut, he]
      exact nb
    · simp [c]; simpa [At] using c
theorem turn_at {r : Ru} {t x : Int} {w : Wt} (h : At r x w) : turn r t x w = w := by
  obtain ⟨ev, st⟩ := w
  cases st with
  | quiet => unfold turn; simp [At] at h; simp [h]
  | waits s => unfold turn; simp [At] at h; simp [h]
  | stands s => unfold turn; simp [At] at h; simp [h]
theorem at_hear {r : Ru} (hb : 0 ≤ r.back) {t x : Int} {w : Wt} (h : Ok w) : At r x (hear r t x w) := at_come hb (at_turn hb (ok_come h))
/-- the same worth told again -/
theorem hear_again {r : Ru} (hb : 0 ≤ r.back) {u x : Int} {w : Wt} (h : At r x w) : hear r u x w = come r u w := by
  unfold hear
  rw [turn_at (at_come hb h), come_come (by omega)]
/-- going on between -/
theorem hear_come {r : Ru} {t u x : Int} {w : Wt} (h : t < u) : hear r u x (come r t w) = hear r u x w := by
  unfold hear
  rw [come_come (by omega)]
theorem come_hear {r : Ru} {t x : Int} {w : Wt} : come r t (hear r t x w) = hear r t x w := by
  unfold hear
  rw [come_come (Int.le_refl _)]
/-! turned -/
def flip (r : Ru) : Ru := ⟨!r.up, 63 - r.lim, r.back, r.hold⟩
theorem beyond_flip (r : Ru) (x : Int) : beyond (flip r) (63 - x) = beyond r x := by
  unfold beyond flip
  cases r.up <;> simp <;> omega
theorem rests_flip (r : Ru) (x : Int) : rests (flip r) (63 - x) = rests r x := by
  unfold rests flip
  cases r.up <;> simp <;> omega
theorem come_flip (r : Ru) (t : Int) (w : Wt) : come (flip r) t w = come r t w := rfl
theorem turn_flip (r : Ru) (t x : Int) (w : Wt) : turn (flip r) t (63 - x) w = turn r t x w := by
  unfold turn
  rw [beyond_flip, rests_flip]
theorem hear_flip (r : Ru) (t x : Int) (w : Wt) : hear (flip r) t (63 - x) w = hear r t x w := by
  unfold hear
  rw [turn_flip]; rfl
theorem heard_flip (r : Ru) : ∀ (l : Sgs) (w : Wt), heard (flip r) (l.map fun x => (x.1, 63 - x.2)) w = heard r l w
  | [], _ => rfl
  | x :: l, w => by
    show heard (flip r) (l.map fun x => (x.1, 63 - x.2)) (hear (flip r) x.1 (63 - x.2) w) = heard r l (hear r x.1 x.2 w)
    rw [hear_flip, heard_flip r l]
theorem run_flip (r : Ru) (l : Sgs) (t : Int) : run (flip r) (l.map fun x => (x.1, 63 - x.2)) t = run r l t := by
  unfold run
  rw [heard_flip]; rfl
/-! later -/
def later (m : Int) (w : Wt) : Wt := ⟨w.ev.map fun x => (x.1 + m, x.2.map (· + m)), match w.st with
  | .quiet => .quiet
  | .waits s => .waits (s + m)
  | .stands s => .stands (s + m)⟩
theorem come_later (r : Ru) (m t : Int) (w : Wt) : come r (t + m) (later m w) = later m (come r t w) := by
  obtain ⟨ev, st⟩ := w
  unfold come due raise later
  cases st with
  | quiet => simp
  | stands s => simp
  | waits s =>
    by_cases c : s + r.hold ≤ t
    · have c2 : s + m + r.hold ≤ t + m := by omega
      simp [c, c2]
      omega
    · have c2 : ¬ s + m + r.hold ≤ t + m := by omega
      simp [c, c2]
theorem turn_later (r : Ru) (m t x : Int) {w : Wt} : turn r (t + m) x (later m w) = later m (turn r t x w) := by
  obtain ⟨ev, st⟩ := w
  unfold turn later
  cases st with
  | quiet =>
    by_cases c : beyond r x = true <;> simp [c]
  | waits s =>
    by_cases c : beyond r x = true <;> simp [c]
  | stands s =>
    by_cases c : rests r x = true
    · simp [c, shut]
      cases e : ev.getLast? with
      | none => simp
      | some y => simp [List.map_dropLast]
    · simp [c]
theorem hear_later (r : Ru) (m t x : Int) (w : Wt) : hear r (t + m) x (later m w) = later m (hear r t x w) := by
  unfold hear
  rw [show t + m - 1 = (t - 1) + m by omega, come_later, turn_later, come_later]
theorem heard_later (r : Ru) (m : Int) : ∀ (l : Sgs) (w : Wt), heard r (l.map fun x => (x.1 + m, x.2)) (later m w) = later m (heard r l w)
  | [], _ => rfl
  | x :: l, w => by
    show heard r (l.map fun x => (x.1 + m, x.2)) (hear r (x.1 + m) x.2 (later m w)) = later m (heard r l (hear r x.1 x.2 w))
    rw [hear_later, heard_later r m l]
theorem run_later (r : Ru) (m : Int) (l : Sgs) (t : Int) : run r (l.map fun x => (x.1 + m, x.2)) (t + m) = later m (run r l t) := by
  unfold run
  have e : start = later m start := rfl
  conv => lhs; rw [e]
  rw [heard_later, come_later]
end Wat

/-! watches: tick by tick. -/
namespace Wat
structure Tk where
  ev : Ev
  since : Option Int
  stands : Bool
  worth : Option Int
def shutE (t : Int) (e : Ev) : Ev := match e.getLast? with
  | some x => e.dropLast ++ [(x.1, some t)]
  | none => e
def tk1 (r : Ru) (t x : Int) (s : Tk) : Tk :=
  if (s.stands && rests r x) = true then ⟨shutE t s.ev, none, false, some x⟩
  else if (!s.stands && !beyond r x) = true then ⟨s.ev, none, s.stands, some x⟩
  else if (!s.stands && s.since.isNone) = true then ⟨s.ev, some t, s.stands, some x⟩
  else ⟨s.ev, s.since, s.stands, some x⟩
def tk2 (r : Ru) (t : Int) (s : Tk) : Tk := match s.since with
  | some u => if (!s.stands && decide (r.hold ≤ t - u)) = true then ⟨s.ev ++ [(t, none)], s.since, true, s.worth⟩ else s
  | none => s
def tick (r : Ru) (g : Option Int) (t : Int) (s : Tk) : Tk := match (match g with | some x => some x | none => s.worth) with
  | none => ⟨s.ev, s.since, s.stands, none⟩
  | some x => tk2 r t (tk1 r t x s)
def tk0 : Tk := ⟨[], none, false, none⟩
def Same (w : Wt) (s : Tk) : Prop := s.ev = w.ev ∧ match w.st with
  | .quiet => s.stands = false ∧ s.since = none
  | .waits u => s.stands = false ∧ s.since = some u
  | .stands _ => s.stands = true
theorem come_not {r : Ru} {t : Int} {w : Wt} (h : due r t w = false) : come r t w = w := by
  unfold come; rw [h]; rfl
theorem due_come (r : Ru) (t : Int) (w : Wt) : due r t (come r t w) = false := by
  obtain ⟨ev, st⟩ := w
  unfold come due raise
  cases st with
  | quiet => simp
  | stands s => simp
  | waits s =>
    by_cases c : s + r.hold ≤ t
    · simp [c]
    · simp [c]
theorem tk_worth (r : Ru) (t x : Int) (s : Tk) : (tk2 r t (tk1 r t x s)).worth = some x := by
  have h1 : (tk1 r t x s).worth = some x := by
    unfold tk1
    split
    · rfl
    · split
      · rfl
      · split <;> rfl
  unfold tk2
  split
  · split
    · exact h1
    · exact h1
  · exact h1
theorem same_hear {r : Ru} (h0 : 0 ≤ r.hold) (hb : 0 ≤ r.back) {t x : Int} {w : Wt} {s : Tk} (ok : Ok w) (hS : Same w s) (nd : due r (t - 1) w = false) : Same (hear r t x w) (tick r (some x) t s) := by
  have e : hear r t x w = come r t (turn r t x w) := by unfold hear; rw [come_not nd]
  rw [e]
  show Same _ (tk2 r t (tk1 r t x s))
  obtain ⟨ev, st⟩ := w
  obtain ⟨sev, since, stands, worth⟩ := s
  obtain ⟨h1, h2⟩ := hS
  simp only at h1 h2
  subst h1
  cases st with
  | quiet =>
    obtain ⟨h2, h3⟩ := h2
    subst h2 h3
    cases b : beyond r x with
    | true =>
      by_cases c : t + r.hold ≤ t
      · have c2 : r.hold ≤ 0 := by omega
        have c3 : r.hold = 0 := by omega
        simp [turn, b, come, due, raise, tk1, tk2, c2, c3, Same]
      · have c2 : ¬ r.hold ≤ 0 := by omega
        simp [turn, b, come, due, raise, tk1, tk2, c, c2, Same]
    | false => simp [turn, b, come, due, raise, tk1, tk2, Same]
  | waits u =>
    obtain ⟨h2, h3⟩ := h2
    subst h2 h3
    cases b : beyond r x with
    | true =>
      simp [due] at nd
      by_cases c : u + r.hold ≤ t
      · have c2 : r.hold ≤ t - u := by omega
        have c3 : u + r.hold = t := by omega
        simp [turn, b, come, due, raise, tk1, tk2, c2, c3, Same]
      · have c2 : ¬ r.hold ≤ t - u := by omega
        simp [turn, b, come, due, raise, tk1, tk2, c, c2, Same]
    | false => simp [turn, b, come, due, raise, tk1, tk2, Same]
  | stands a =>
    subst h2
    obtain ⟨e0, he⟩ := ok
    simp only at he
    subst he
    cases q : rests r x with
    | true => simp [turn, q, shut, shutE, come, due, tk1, tk2, Same]
    | false =>
      cases since with
      | none => simp [turn, q, come, due, tk1, tk2, Same]
      | some v => simp [turn, q, come, due, tk1, tk2, Same]
/-- what holds at each tick -/
structure Jt (r : Ru) (T : Int) (w : Wt) (s : Tk) : Prop where
  same : Same w s
  nd : due r T w = false
  ok : Ok w
  wo : (s.worth = none ∧ w = start) ∨ ∃ x, s.worth = some x ∧ At r x w
def nextW (r : Ru) (g : Option Int) (t : Int) (w : Wt) : Wt := match g with
  | some x => hear r t x w
  | none => come r t w
theorem jt_step {r : Ru} (h0 : 0 ≤ r.hold) (hb : 0 ≤ r.back) {T : Int} {w : Wt} {s : Tk} (h : Jt r T w s) (g : Option Int) : Jt r (T + 1) (nextW r g (T + 1) w) (tick r g (T + 1) s) := by
  have e1 : T + 1 - 1 = T := by omega
  cases g with
  | some x =>
    refine ⟨same_hear h0 hb h.ok h.same (by rw [e1]; exact h.nd), ?_, ok_hear h.ok, .inr ⟨x, tk_worth _ _ _ _, at_hear hb h.ok⟩⟩
    show due r (T + 1) (hear r (T + 1) x w) = false
    unfold hear
    exact due_come _ _ _
  | none =>
    rcases h.wo with ⟨w1, w2⟩ | ⟨x, w1, w2⟩
    · subst w2
      have hs := h.same
      refine ⟨?_, rfl, ok_come h.ok, .inl ⟨?_, rfl⟩⟩
      · show Same (come r (T + 1) start) (tick r none (T + 1) s)
        unfold tick
        simp only [w1]
        exact hs
      · unfold tick
        simp only [w1]
    · have et : tick r none (T + 1) s = tick r (some x) (T + 1) s := by unfold tick; simp only [w1]
      have ew : hear r (T + 1) x w = come r (T + 1) w := by
        unfold hear
        rw [come_not (t := T + 1 - 1) (w := w) (by rw [e1]; exact h.nd), turn_at w2]
      refine ⟨?_, due_come _ _ _, ok_come h.ok, .inr ⟨x, ?_, at_come hb w2⟩⟩
      · show Same (come r (T + 1) w) _
        rw [et, ← ew]
        exact same_hear h0 hb h.ok h.same (by rw [e1]; exact h.nd)
      · rw [et]; exact tk_worth _ _ _ _
theorem jt_start (r : Ru) (T : Int) : Jt r T start tk0 := ⟨⟨rfl, rfl, rfl⟩, rfl, True.intro, .inl ⟨rfl, rfl⟩⟩
/-! what was told stays -/
def Gr (e e' : Ev) : Prop := ∀ (k : Nat) (x : Int × Option Int), e[k]? = some x → ∃ y, e'[k]? = some y ∧ y.1 = x.1 ∧ (x.2 ≠ none → y.2 = x.2)
theorem Gr.refl (e : Ev) : Gr e e := fun _ x h => ⟨x, h, rfl, fun _ => rfl⟩
theorem Gr.trans {a b c : Ev} (h : Gr a b) (g : Gr b c) : Gr a c := fun k x hx => by
  obtain ⟨y, h1, h2, h3⟩ := h k x hx
  obtain ⟨z, g1, g2, g3⟩ := g k y h1
  refine ⟨z, g1, g2.trans h2, fun n => ?_⟩
  have := h3 n
  rw [g3 (by rw [this]; exact n), this]
theorem gr_app (e l : Ev) : Gr e (e ++ l) := fun k x h => ⟨x, by rw [List.getElem?_append_left (List.getElem?_eq_some_iff.mp h).1]; exact h, rfl, fun _ => rfl⟩
theorem gr_come (r : Ru) (t : Int) (w : Wt) : Gr w.ev (come r t w).ev := by
  unfold come raise
  split
  · split
    · exact gr_app _ _
    · exact Gr.refl _
  · exact Gr.refl _
theorem gr_turn {r : Ru} {t x : Int} {w : Wt} (ok : Ok w) : Gr w.ev (turn r t x w).ev := by
  obtain ⟨ev, st⟩ := w
  cases st with
  | quiet =>
    show Gr ev (if beyond r x = true then (⟨ev, .waits t⟩ : Wt) else ⟨ev, .quiet⟩).ev
    split <;> exact Gr.refl _
  | waits u =>
    show Gr ev (if beyond r x = true then (⟨ev, .waits u⟩ : Wt) else ⟨ev, .quiet⟩).ev
    split <;> exact Gr.refl _
  | stands a =>
    obtain ⟨e0, he⟩ := ok
    simp only at he
    subst he
    show Gr _ (if rests r x = true then shut t (⟨e0 ++ [(a, none)], .stands a⟩ : Wt) else ⟨e0 ++ [(a, none)], .stands a⟩).ev
    split
    · have e : (shut t (⟨e0 ++ [(a, none)], .stands a⟩ : Wt)).ev = e0 ++ [(a, some t)] := by simp [shut]
      rw [e]
      intro k x hx
      simp only at hx
      by_cases c : k < e0.length
      · rw [List.getElem?_append_left c] at hx ⊢
        exact ⟨x, hx, rfl, fun _ => rfl⟩
      · rw [List.getElem?_append_right (by omega)] at hx ⊢
        cases q : k - e0.length with
        | zero =>
          rw [q] at hx
          simp at hx
          subst hx
          exact ⟨_, rfl, rfl, fun n => absurd rfl n⟩
        | succ j => rw [q] at hx; simp at hx
    · exact Gr.refl _
theorem gr_next {r : Ru} {t : Int} {w : Wt} (ok : Ok w) (g : Option Int) : Gr w.ev (nextW r g t w).ev := by
  unfold nextW
  cases g with
  | some x =>
    show Gr w.ev (hear r t x w).ev
    unfold hear
    exact ((gr_come r (t - 1) w).trans (gr_turn (ok_come ok))).trans (gr_come r t _)
  | none => exact gr_come r t w
/-- all but the one that stands are ended; all lie from 0 up to T -/
def Cl (T : Int) (w : Wt) : Prop := (∀ x ∈ w.ev, 0 ≤ x.1 ∧ x.1 ≤ T ∧ ∀ b, x.2 = some b → 0 ≤ b ∧ b ≤ T) ∧ match w.st with
  | .stands s => 0 ≤ s ∧ s ≤ T ∧ ∃ e, w.ev = e ++ [(s, none)] ∧ ∀ x ∈ e, x.2 ≠ none
  | .waits u => (0 ≤ u ∧ u ≤ T) ∧ ∀ x ∈ w.ev, x.2 ≠ none
  | .quiet => ∀ x ∈ w.ev, x.2 ≠ none
theorem Cl.up {T U : Int} (le : T ≤ U) {w : Wt} (h : Cl T w) : Cl U w := by
  obtain ⟨h1, h2⟩ := h
  refine ⟨fun x hx => ?_, ?_⟩
  · obtain ⟨a, b, c⟩ := h1 x hx
    exact ⟨a, by omega, fun q e => by have := c q e; omega⟩
  · obtain ⟨ev, st⟩ := w
    cases st with
    | quiet => exact h2
    | waits u => exact ⟨by have := h2.1; omega, h2.2⟩
    | stands s => exact ⟨h2.1, by have := h2.2.1; omega, h2.2.2⟩
theorem cl_come {r : Ru} (h0 : 0 ≤ r.hold) {T t : Int} (le : T ≤ t) {w : Wt} (h : Cl T w) : Cl t (come r t w) := by
  have h' := h.up le
  obtain ⟨ev, st⟩ := w
  unfold come due raise
  cases st with
  | quiet => simpa using h'
  | stands s => simpa using h'
  | waits u =>
    by_cases c : u + r.hold ≤ t
    · obtain ⟨h1, h2, h3⟩ := h'
      simp only at h1 h2 h3
      simp [c]
      refine ⟨fun x hx => ?_, by omega, by omega, ev, rfl, h3⟩
      simp only at hx
      rcases List.mem_append.mp hx with q | q
      · exact h1 x q
      · simp at q; subst q
        exact ⟨by dsimp only; omega, c, fun b e => by cases e⟩
    · simp [c]; exact h'
theorem cl_turn {r : Ru} {t x : Int} (ht : 0 ≤ t) {w : Wt} (h : Cl t w) : Cl t (turn r t x w) := by
  obtain ⟨ev, st⟩ := w
  cases st with
  | quiet =>
    show Cl t (if beyond r x = true then (⟨ev, .waits t⟩ : Wt) else ⟨ev, .quiet⟩)
    split
    · exact ⟨h.1, ⟨ht, Int.le_refl _⟩, h.2⟩
    · exact h
  | waits u =>
    show Cl t (if beyond r x = true then (⟨ev, .waits u⟩ : Wt) else ⟨ev, .quiet⟩)
    split
    · exact h
    · exact ⟨h.1, h.2.2⟩
  | stands s =>
    obtain ⟨h1, h2, h3, e, he, hc⟩ := h
    simp only at h1 he
    show Cl t (if rests r x = true then shut t (⟨ev, .stands s⟩ : Wt) else ⟨ev, .stands s⟩)
    split
    · subst he
      have e1 : shut t (⟨e ++ [(s, none)], .stands s⟩ : Wt) = ⟨e ++ [(s, some t)], .quiet⟩ := by simp [shut]
      rw [e1]
      refine ⟨fun x hx => ?_, fun x hx => ?_⟩
      · rcases List.mem_append.mp hx with q | q
        · exact h1 x (List.mem_append_left _ q)
        · simp at q; subst q
          exact ⟨h2, h3, fun b e => by cases e; exact ⟨ht, Int.le_refl _⟩⟩
      · rcases List.mem_append.mp hx with q | q
        · exact hc x q
        · simp at q; subst q; simp
    · exact ⟨h1, h2, h3, e, he, hc⟩
theorem cl_next {r : Ru} (h0 : 0 ≤ r.hold) {T : Int} (hT : -1 ≤ T) {w : Wt} (h : Cl T w) (g : Option Int) : Cl (T + 1) (nextW r g (T + 1) w) := by
  unfold nextW
  cases g with
  | some x =>
    show Cl (T + 1) (hear r (T + 1) x w)
    unfold hear
    have e1 : T + 1 - 1 = T := by omega
    rw [e1]
    exact cl_come h0 (Int.le_refl _) (cl_turn (by omega) ((cl_come h0 (Int.le_refl _) h).up (by omega)))
  | none => exact cl_come h0 (by omega) h
theorem cl_start (T : Int) : Cl T start := ⟨(fun x hx => by cases hx), (fun x hx => by cases hx)⟩
end Wat

/-! watches: all ticks of a stretch. -/
namespace Wat
def steps (r : Ru) (f : Int → Option Int) : Int → Nat → Wt → Wt
  | _, 0, w => w
  | T, n + 1, w => steps r f (T + 1) n (nextW r (f (T + 1)) (T + 1) w)
theorem come_heard {r : Ru} {T u : Int} {w : Wt} (h : T ≤ u) : ∀ {l : Sgs}, (∀ x ∈ l, T < x.1) → come r u (heard r l (come r T w)) = come r u (heard r l w)
  | [], _ => come_come h
  | x :: l, hl => by
    show come r u (heard r l (hear r x.1 x.2 (come r T w))) = come r u (heard r l (hear r x.1 x.2 w))
    rw [hear_come (hl x (List.mem_cons_self ..))]
theorem steps_run {r : Ru} (f : Int → Option Int) : ∀ (n : Nat) (T : Int) (g : Sgs) (w : Wt), g.Pairwise (fun x y => x.1 < y.1) → (∀ x ∈ g, T < x.1) → (∀ t, T < t → f t = g.lookup t) → due r T w = false →
    steps r f T n w = come r (T + n) (heard r (g.filter fun x => decide (x.1 ≤ T + n)) w)
  | 0, T, g, w, _, hg, _, nd => by
    have e : (g.filter fun x => decide (x.1 ≤ T + ((0 : Nat) : Int))) = [] := by
      rw [List.filter_eq_nil_iff]
      intro x hx
      have := hg x hx
      simp
      omega
    rw [e]
    show w = come r (T + ((0 : Nat) : Int)) w
    rw [show T + ((0 : Nat) : Int) = T by omega, come_not nd]
  | n + 1, T, [], w, _, _, hf, nd => by
    have e1 : f (T + 1) = none := by rw [hf _ (by omega)]; rfl
    show steps r f (T + 1) n (nextW r (f (T + 1)) (T + 1) w) = _
    rw [e1]
    show steps r f (T + 1) n (come r (T + 1) w) = _
    rw [steps_run f n (T + 1) [] _ .nil (fun x hx => by cases hx) (fun t ht => hf t (by omega)) (due_come r (T + 1) w)]
    show come r (T + 1 + n) (come r (T + 1) w) = come r (T + ((n + 1 : Nat) : Int)) w
    rw [come_come (by omega)]
    congr 1
    omega
  | n + 1, T, (t, x) :: g, w, p, hg, hf, nd => by
    obtain ⟨p1, p2⟩ := List.pairwise_cons.mp p
    have ht : T < t := hg (t, x) (List.mem_cons_self ..)
    have ee : T + 1 + (n : Int) = T + ((n + 1 : Nat) : Int) := by omega
    show steps r f (T + 1) n (nextW r (f (T + 1)) (T + 1) w) = _
    by_cases c : t = T + 1
    · subst c
      have e1 : f (T + 1) = some x := by rw [hf _ (by omega)]; simp [List.lookup]
      rw [e1]
      show steps r f (T + 1) n (hear r (T + 1) x w) = _
      have nd2 : due r (T + 1) (hear r (T + 1) x w) = false := by unfold hear; exact due_come _ _ _
      rw [steps_run f n (T + 1) g _ p2 p1 (fun u hu => by
        rw [hf u (by omega)]
        have : (u == T + 1) = false := by simp; omega
        simp [List.lookup, this]) nd2, ee, List.filter_cons, if_pos (by simp; omega)]
      rfl
    · have e1 : f (T + 1) = none := by
        rw [hf _ (by omega)]
        rw [List.lookup_eq_none_iff]
        intro y hy
        have : T + 1 < y.1 := by
          rcases List.mem_cons.mp hy with q | q
          · subst q; show T + 1 < t; omega
          · have := p1 y q; simp only at this; omega
        simp; omega
      rw [e1]
      show steps r f (T + 1) n (come r (T + 1) w) = _
      have hg' : ∀ y ∈ (t, x) :: g, T + 1 < y.1 := fun y hy => by
        rcases List.mem_cons.mp hy with q | q
        · subst q; show T + 1 < t; omega
        · have := p1 y q; simp only at this; omega
      rw [steps_run f n (T + 1) ((t, x) :: g) _ p hg' (fun u hu => hf u (by omega)) (due_come _ _ _), ee]
      exact come_heard (by omega) fun y hy => hg' y (List.mem_filter.mp hy).1
/-- all signs of a stretch from the start on -/
theorem steps_start {r : Ru} {f : Int → Option Int} {n : Nat} {m u : Int} {g : Sgs} (p : g.Pairwise (fun x y => x.1 < y.1)) (hm : ∀ x ∈ g, m ≤ x.1) (hf : ∀ t, f t = g.lookup t) (hu : m - 1 + n = u) :
    steps r f (m - 1) n start = run r (g.filter fun x => decide (x.1 ≤ u)) u := by
  rw [steps_run f n (m - 1) g start p (fun x hx => by have := hm x hx; omega) (fun t _ => hf t) rfl, hu]
  rfl
/-- bounds of a run -/
theorem cl_heard {r : Ru} (h0 : 0 ≤ r.hold) : ∀ {l : Sgs} {T U : Int} {w : Wt}, Cl T w → -1 ≤ T → T ≤ U → l.Pairwise (fun x y => x.1 < y.1) → (∀ x ∈ l, T < x.1 ∧ x.1 ≤ U) → Cl U (heard r l w)
  | [], T, U, w, h, _, hu, _, _ => h.up hu
  | x :: l, T, U, w, h, hT, hu, p, hl => by
    obtain ⟨p1, p2⟩ := List.pairwise_cons.mp p
    obtain ⟨a, b⟩ := hl x (List.mem_cons_self ..)
    show Cl U (heard r l (hear r x.1 x.2 w))
    have hc : Cl x.1 (hear r x.1 x.2 w) := by
      have := cl_next h0 (T := x.1 - 1) (by omega) (h.up (by omega)) (some x.2)
      rw [show x.1 - 1 + 1 = x.1 by omega] at this
      exact this
    exact cl_heard h0 hc (by omega) (by omega) p2 fun y hy => ⟨p1 y hy, (hl y (List.mem_cons_of_mem _ hy)).2⟩
theorem cl_run {r : Ru} (h0 : 0 ≤ r.hold) {l : Sgs} {u : Int} (p : l.Pairwise (fun x y => x.1 < y.1)) (hl : ∀ x ∈ l, 0 ≤ x.1 ∧ x.1 ≤ u) (hu : 0 ≤ u) : Cl u (run r l u) :=
  cl_come h0 (Int.le_refl _) (cl_heard h0 (cl_start (-1)) (by omega) (by omega) p fun x hx => ⟨by have := (hl x hx).1; omega, (hl x hx).2⟩)
/-- long behind the last sign nothing is due -/
theorem run_late {r : Ru} (h0 : 0 ≤ r.hold) (h1 : r.hold ≤ 99) {l : Sgs} {T u : Int} (p : l.Pairwise (fun x y => x.1 < y.1)) (hl : ∀ x ∈ l, 0 ≤ x.1 ∧ x.1 ≤ T) (hT : 0 ≤ T) (hu : T + 300 ≤ u) : run r l u = run r l (T + 300) := by
  have hc : Cl T (heard r l start) := cl_heard h0 (cl_start (-1)) (by omega) (by omega) p fun x hx => ⟨by have := (hl x hx).1; omega, (hl x hx).2⟩
  unfold run
  generalize heard r l start = w at hc
  obtain ⟨ev, st⟩ := w
  cases st with
  | quiet => rfl
  | stands s => rfl
  | waits s =>
    obtain ⟨_, h2, _⟩ := hc
    unfold come due raise
    have c1 : s + r.hold ≤ u := by omega
    have c2 : s + r.hold ≤ T + 300 := by omega
    simp [c1, c2]
/-- what was told by a tick stays at a later one -/
theorem gr_heard {r : Ru} : ∀ {l : Sgs} {w : Wt}, Ok w → Gr w.ev (heard r l w).ev
  | [], w, _ => Gr.refl _
  | x :: l, w, ok => (gr_next (r := r) (t := x.1) ok (some x.2)).trans (gr_heard (ok_hear ok))
theorem gr_run {r : Ru} {l l2 : Sgs} {T U : Int} (h : T ≤ U) (hl : ∀ x ∈ l2, T < x.1) : Gr (run r l T).ev (run r (l ++ l2) U).ev := by
  have e : run r (l ++ l2) U = come r U (heard r l2 (heard r l start)) := by unfold run heard; rw [List.foldl_append]
  rw [e, ← come_heard (T := T) h hl]
  have ok : Ok (come r T (heard r l start)) := ok_come (ok_heard ok_start)
  exact (gr_heard (r := r) (l := l2) ok).trans (gr_come r U _)
end Wat

/-! watches: each end lies behind its begin. -/
namespace Wat
def Str1 (w : Wt) : Prop := ∀ x ∈ w.ev, ∀ b, x.2 = some b → x.1 < b
theorem str_come {r : Ru} {t : Int} {w : Wt} (h : Str1 w) : Str1 (come r t w) := by
  unfold come raise
  split
  · split
    · intro x hx b e
      rcases List.mem_append.mp hx with q | q
      · exact h x q b e
      · simp at q; subst q; cases e
    · exact h
  · exact h
theorem str_turn {r : Ru} {T t x : Int} {w : Wt} (hT : T < t) (c : Cl T w) (h : Str1 w) : Str1 (turn r t x w) := by
  obtain ⟨ev, st⟩ := w
  cases st with
  | quiet =>
    show Str1 (if beyond r x = true then (⟨ev, .waits t⟩ : Wt) else ⟨ev, .quiet⟩)
    split <;> exact h
  | waits u =>
    show Str1 (if beyond r x = true then (⟨ev, .waits u⟩ : Wt) else ⟨ev, .quiet⟩)
    split <;> exact h
  | stands s =>
    obtain ⟨h1, h2, h3, e, he, hc⟩ := c
    simp only at h1 he
    show Str1 (if rests r x = true then shut t (⟨ev, .stands s⟩ : Wt) else ⟨ev, .stands s⟩)
    split
    · subst he
      have e1 : shut t (⟨e ++ [(s, none)], .stands s⟩ : Wt) = ⟨e ++ [(s, some t)], .quiet⟩ := by simp [shut]
      rw [e1]
      intro y hy b eb
      rcases List.mem_append.mp hy with q | q
      · exact h y (List.mem_append_left _ q) b eb
      · simp at q; subst q
        cases eb
        show s < t
        omega
    · exact h
theorem str_heard {r : Ru} (h0 : 0 ≤ r.hold) : ∀ {l : Sgs} {T : Int} {w : Wt}, Cl T w → -1 ≤ T → l.Pairwise (fun x y => x.1 < y.1) → (∀ x ∈ l, T < x.1) → Str1 w → Str1 (heard r l w)
  | [], T, w, _, _, _, _, h => h
  | x :: l, T, w, c, hT, p, hl, h => by
    obtain ⟨p1, p2⟩ := List.pairwise_cons.mp p
    have a := hl x (List.mem_cons_self ..)
    show Str1 (heard r l (hear r x.1 x.2 w))
    have c' : Cl (x.1 - 1) (come r (x.1 - 1) w) := cl_come h0 (by omega) c
    have c2 : Cl x.1 (hear r x.1 x.2 w) := by
      have := cl_next h0 (T := x.1 - 1) (by omega) (c.up (by omega)) (some x.2)
      rw [show x.1 - 1 + 1 = x.1 by omega] at this
      exact this
    exact str_heard h0 c2 (by omega) p2 p1 (str_come (str_turn (T := x.1 - 1) (by omega) c' (str_come h)))
theorem str_run {r : Ru} (h0 : 0 ≤ r.hold) {l : Sgs} {u : Int} (p : l.Pairwise (fun x y => x.1 < y.1)) (hl : ∀ x ∈ l, 0 ≤ x.1) : Str1 (run r l u) :=
  str_come (str_heard h0 (cl_start (-1)) (by omega) p (fun x hx => by have := hl x hx; omega) (fun x hx => by cases hx))
end Wat

/-! watches: words, rules, histories. -/
namespace K30
open PySem PySem.Spec PyProof.Rows L2 VL Fine
variable {K : PySem.W.Frag}
def markS (b : Bool) : Str := if b then "good" else "odd"
abbrev Row := Int × Int × Bool
def rowD (x : Row) : D := .tup [.int x.1, .int x.2.1, .str (markS x.2.2)]
def VRow (x : Row) : Prop := 0 ≤ x.1 ∧ x.1 ≤ 9999 ∧ 0 ≤ x.2.1 ∧ x.2.1 ≤ 63
def VR (rows : List Row) : Prop := (∀ x ∈ rows, VRow x) ∧ rows.Pairwise (fun x y => x.1 < y.1) ∧ rows.length ≤ 1000
def wordS (b : Bool) : Str := if b then "above" else "below"
structure Rule where
  ru : Wat.Ru
  name : Str
  point : Str
  pri : Int
def ruD (R : Rule) : D := .tup [.str R.name, .str R.point, .str (wordS R.ru.up), .int R.ru.lim, .int R.ru.back, .int R.ru.hold, .int R.pri]
def Nm (s : Str) : Prop := s = "a" ∨ s = "b" ∨ s = "p" ∨ s = "q"
def VRu (R : Rule) : Prop := Nm R.name ∧ Nm R.point ∧ 0 ≤ R.ru.lim ∧ R.ru.lim ≤ 63 ∧ 0 ≤ R.ru.back ∧ R.ru.back ≤ 63 ∧ 0 ≤ R.ru.hold ∧ R.ru.hold ≤ 99 ∧ 1 ≤ R.pri ∧ R.pri ≤ 3
theorem zero_le : (0 : Nat) ≤ sizeLine := Nat.zero_le _
theorem one_le : (1 : Nat) ≤ sizeLine := by rw [sizeLine_eq]; omega
theorem three_le : (3 : Nat) ≤ sizeLine := by rw [sizeLine_eq]; omega
theorem two : (2 : Nat) ≤ sizeLine := by rw [sizeLine_eq]; omega
theorem four : (4 : Nat) ≤ sizeLine := by rw [sizeLine_eq]; omega
theorem five : (5 : Nat) ≤ sizeLine := by rw [sizeLine_eq]; omega
theorem six : (6 : Nat) ≤ sizeLine := by rw [sizeLine_eq]; omega
theorem seven : (7 : Nat) ≤ sizeLine := by rw [sizeLine_eq]; omega
theorem nine : (9 : Nat) ≤ sizeLine := by rw [sizeLine_eq]; omega
theorem sz {n : Nat} (h : n ≤ 1000000) : n ≤ sizeLine := by rw [sizeLine_eq]; omega
def sp_is_whole : Spd := fun ds S Q _ => ∃ i lo hi : Int, ds = [.int i, .int lo, .int hi] ∧ Q (.bl (decide (lo ≤ i) && decide (i ≤ hi))) S
theorem ok_is_whole : BodyOk (d_is_whole K) ["thing", "low", "high"] sp_is_whole := by
  rintro _ S Q E ⟨i, lo, hi, rfl, h⟩
  simp [d_is_whole, startD, tyN, isT, kindsB]
  by_cases c : lo ≤ i <;> simp [c] at h ⊢ <;> exact fin_now h
def sp_is_time : Spd := fun ds S Q _ => ∃ i : Int, ds = [.int i] ∧ Q (.bl (decide (0 ≤ i) && decide (i ≤ 9999))) S
theorem ok_is_time : BodyOk (d_is_time K sp_is_whole) ["thing"] sp_is_time := by
  rintro _ S Q E ⟨i, rfl, h⟩
  simp [d_is_time, startD]
  exact ⟨i, 0, 9999, rfl, fin_now h⟩
def sp_is_word : Spd := fun ds S Q _ => ∃ b : Bool, ds = [.str (wordS b), .tup [.str "above", .str "below"]] ∧ Q (.bl true) S
theorem ok_is_word : BodyOk (d_is_word K) ["thing", "words"] sp_is_word := by
  rintro _ S Q E ⟨b, rfl, h⟩
  cases b <;> simp [d_is_word, startD, tyN, isT, kindsB, wordS, flatD, inD, eqF] <;> exact fin_now h
theorem fm_some {α β : Type} (f : α → β) (l : List α) : (l.filterMap fun x => some (f x)) = l.map f := by
  induction l with
  | nil => rfl
  | cons a l ih => simp [ih]
theorem bools_true {α : Type} (l : List α) : bools (l.map fun _ => D.bl true) = some (l.map fun _ => true) := by
  induction l with
  | nil => rfl
  | cons a l ih => rw [List.map_cons, bools, ih]; rfl
theorem all_true {α : Type} (l : List α) : (l.map fun _ => true).all id = true := by
  induction l with
  | nil => rfl
  | cons a l ih => rw [List.map_cons, List.all_cons, ih]; rfl
theorem lcL_map {α : Type} {gd : TGd} {dt : TTd} {de : TEd} {σ0 : Sd} {Q : List D → Sto → Prop} {S : Sto} (g : α → D) (f : α → Option D) (l : List α) (acc : List D) (st : ∀ x ∈ l, ∀ R : Option D → Sto → Prop, R (f x) S → oneD gd dt de σ0 (g x) S R)
    (h : Q (acc ++ l.filterMap f) S) : dLcL gd dt de σ0 Q (l.map g) acc S := by
  induction l generalizing acc with
  | nil => simpa [dLcL] using h
  | cons x l ih =>
    have z := st x (List.mem_cons_self ..) (fun o S' => match o with
      | some y => dLcL gd dt de σ0 Q (l.map g) (acc ++ [y]) S'
      | none => dLcL gd dt de σ0 Q (l.map g) acc S')
    refine z ?_
    have st' : ∀ x ∈ l, ∀ R : Option D → Sto → Prop, R (f x) S → oneD gd dt de σ0 (g x) S R := fun x hx => st x (List.mem_cons_of_mem _ hx)
    rw [List.filterMap_cons] at h
    cases e : f x with
    | none => rw [e] at h; exact ih acc st' h
    | some y => rw [e] at h; exact ih (acc ++ [y]) st' (by rw [List.append_assoc]; exact h)
theorem name_sign {s : Str} (h : Nm s) : (s.length = 1 ∧ VL.signs s = [D.str s]) ∧ ∃ c, signD (.str s) = some c ∧ c ∈ ("abcdefghijklmnopqrstuvwxyz" : Str).cps.toList := by
  rcases h with rfl | rfl | rfl | rfl
  · exact ⟨⟨by decide +kernel, rfl⟩, _, rfl, by decide +kernel⟩
  · exact ⟨⟨by decide +kernel, rfl⟩, _, rfl, by decide +kernel⟩
  · exact ⟨⟨by decide +kernel, rfl⟩, _, rfl, by decide +kernel⟩
  · exact ⟨⟨by decide +kernel, rfl⟩, _, rfl, by decide +kernel⟩
def sp_is_name : Spd := fun ds S Q _ => ∃ s : Str, ds = [.str s] ∧ Nm s ∧ Q (.bl true) S
theorem ok_is_name : BodyOk (d_is_name K) ["thing", "sign"] sp_is_name := by
  rintro _ S Q E ⟨s, rfl, hs, h⟩
  obtain ⟨⟨hl, hg⟩, c, hc, hm⟩ := name_sign hs
  simp only [Array.mem_toList_iff] at hm
  simp [d_is_name, startD, tyN, isT, kindsB, hl, hg, dLcL, wipeD, one_le, hc, hm, bools]
  exact fin_now h
def sp_is_rule : Spd := fun ds S Q _ => ∃ R : Rule, ds = [ruD R] ∧ VRu R ∧ Q (.bl true) S
theorem ok_is_rule : BodyOk (d_is_rule K sp_is_word sp_is_name sp_is_whole) ["thing", "bounds", "number", "low", "high"] sp_is_rule := by
  rintro _ S Q E ⟨R, rfl, ⟨h1, h2, h3, h4, h5, h6, h7, h8, h9, h10⟩, h⟩
  simp [d_is_rule, startD, ruD, tyN, isT, kindsB, atI, ixN, three_le, four]
  refine ⟨R.name, rfl, h1, ?_⟩
  simp
  refine ⟨R.point, rfl, h2, ?_⟩
  simp
  refine ⟨R.ru.up, rfl, ?_⟩
  simp [dLcL]
  refine ⟨_, _, _, rfl, ?_⟩
  simp [h3, h4]
  refine ⟨_, _, _, rfl, ?_⟩
  simp [h5, h6]
  refine ⟨_, _, _, rfl, ?_⟩
  simp [h7, h8]
  refine ⟨_, _, _, rfl, ?_⟩
  simp [h9, h10, bools]
  exact fin_now h
theorem word_above (b : Bool) : decide (wordS b = ("above" : Str)) = b := by cases b <;> decide
theorem word_iff (b : Bool) : (wordS b = ("above" : Str)) ↔ b = true := by cases b <;> decide
def sp_is_beyond : Spd := fun ds S Q _ => ∃ (r : Wat.Ru) (w : Int), ds = [.str (wordS r.up), .int r.lim, .int w] ∧ Q (.bl (Wat.beyond r w)) S
theorem ok_is_beyond : BodyOk (d_is_beyond K) ["word", "limit", "worth"] sp_is_beyond := by
  rintro _ S Q E ⟨r, w, rfl, h⟩
  simp [d_is_beyond, startD, word_above]
  unfold Wat.beyond at h
  cases e : r.up <;> simp [e] at h ⊢ <;> exact fin_now h
theorem cut25 (a b c d e f g : D) : VL.cutD [a, b, c, d, e, f, g] (some 2) (some 5) = [c, d, e] := rfl
def sp_is_at_rest : Spd := fun ds S Q _ => ∃ (R : Rule) (w : Int), ds = [ruD R, .int w] ∧ Q (.bl (Wat.rests R.ru w)) S
theorem ok_is_at_rest : BodyOk (d_is_at_rest K) ["rule", "worth", "word", "limit", "back"] sp_is_at_rest := by
  rintro _ S Q E ⟨R, w, rfl, h⟩
  simp [d_is_at_rest, startD, ruD, cut25]
  refine ⟨by decide, ?_⟩
  simp only [word_iff]
  unfold Wat.rests at h
  cases e : R.ru.up <;> simp [e] at h ⊢ <;> exact fin_now h
def sp_need_rule : Spd := fun ds S Q _ => ∃ R : Rule, ds = [ruD R] ∧ VRu R ∧ Q .non S
theorem ok_need_rule : BodyOk (d_need_rule K sp_is_rule) ["thing"] sp_need_rule := by
  rintro _ S Q E ⟨R, rfl, v, h⟩
  simp [d_need_rule, startD]
  refine ⟨R, rfl, v, ?_⟩
  simp
  exact fin_now h
def sp_need_time : Spd := fun ds S Q _ => ∃ i : Int, ds = [.int i] ∧ 0 ≤ i ∧ i ≤ 9999 ∧ Q .non S
theorem ok_need_time : BodyOk (d_need_time K sp_is_time) ["thing"] sp_need_time := by
  rintro _ S Q E ⟨i, rfl, h1, h2, h⟩
  simp [d_need_time, startD]
  refine ⟨i, rfl, ?_⟩
  simp [h1, h2]
  exact fin_now h
theorem cut1 (ds : List D) : VL.cutD ds (some 1) none = ds.drop 1 := by
  unfold VL.cutD
  rw [show (some (1 : Int)) = some ((1 : Nat) : Int) from rfl, HT.sIx_nat, HT.sIx_none]
  cases ds with
  | nil => rfl
  | cons d ds => simp
end K30

/-! watches: the methods. -/
namespace K30
open PySem PySem.Spec PyProof.Rows L2 VL Fine
variable {K : PySem.W.Frag}
def optD : Option Int → D
  | none => .non
  | some i => .int i
def evD (x : Int × Option Int) : D := .tup [.int x.1, optD x.2]
def stW : Wat.St → Str
  | .quiet => "quiet"
  | .waits _ => "waits"
  | .stands _ => "stands"
def stS : Wat.St → D
  | .quiet => .non
  | .waits s => .int s
  | .stands s => .int s
def flds (r e w s lw lt : D) : List (Str × D) := [("own_rule", r), ("own_events", e), ("own_word", w), ("word_since", s), ("last_worth", lw), ("last_time", lt)]
def wO (K : PySem.W.Frag) (R : Rule) (e : Addr) (w : Wat.Wt) (lw lt : Option Int) : O := .ins (He.ga K "Watch") (flds (ruD R) (.ref e) (.str (stW w.st)) (stS w.st) (optD lw) (optD lt))
def evO (w : Wat.Wt) : O := .lst (w.ev.map evD)
section
variable {r e w s lw lt v : D}
theorem lk_rule : (flds r e w s lw lt).lookup ("own_rule" : Str) = some r := rfl
theorem lk_events : (flds r e w s lw lt).lookup ("own_events" : Str) = some e := rfl
theorem lk_word : (flds r e w s lw lt).lookup ("own_word" : Str) = some w := rfl
theorem lk_since : (flds r e w s lw lt).lookup ("word_since" : Str) = some s := rfl
theorem lk_worth : (flds r e w s lw lt).lookup ("last_worth" : Str) = some lw := rfl
theorem lk_time : (flds r e w s lw lt).lookup ("last_time" : Str) = some lt := rfl
theorem pg_rule : putG "own_rule" v (flds r e w s lw lt) = flds v e w s lw lt := rfl
theorem pg_word : putG "own_word" v (flds r e w s lw lt) = flds r e v s lw lt := rfl
theorem pg_since : putG "word_since" v (flds r e w s lw lt) = flds r e w v lw lt := rfl
theorem pg_worth : putG "last_worth" v (flds r e w s lw lt) = flds r e w s v lt := rfl
theorem pg_time : putG "last_time" v (flds r e w s lw lt) = flds r e w s lw v := rfl
theorem fl_len : (flds r e w s lw lt).length = 6 := rfl
theorem no_is_due : (flds r e w s lw lt).lookup ("is_due" : Str) = none := rfl
theorem no_raise : (flds r e w s lw lt).lookup ("raise_now" : Str) = none := rfl
theorem no_end : (flds r e w s lw lt).lookup ("end_now" : Str) = none := rfl
theorem no_come : (flds r e w s lw lt).lookup ("come_to" : Str) = none := rfl
theorem no_later : (flds r e w s lw lt).lookup ("need_later" : Str) = none := rfl
theorem no_hear : (flds r e w s lw lt).lookup ("hear" : Str) = none := rfl
theorem no_go : (flds r e w s lw lt).lookup ("go_on" : Str) = none := rfl
theorem no_events : (flds r e w s lw lt).lookup ("events" : Str) = none := rfl
theorem no_state : (flds r e w s lw lt).lookup ("state" : Str) = none := rfl
theorem pi1 : putG "own_rule" r ([] : List (Str × D)) = ([("own_rule", r)] : List (Str × D)) := rfl
theorem pi2 : putG "own_events" e ([("own_rule", r)] : List (Str × D)) = ([("own_rule", r), ("own_events", e)] : List (Str × D)) := rfl
theorem pi3 : putG "own_word" w ([("own_rule", r), ("own_events", e)] : List (Str × D)) = ([("own_rule", r), ("own_events", e), ("own_word", w)] : List (Str × D)) := rfl
theorem pi4 : putG "word_since" s ([("own_rule", r), ("own_events", e), ("own_word", w)] : List (Str × D)) = ([("own_rule", r), ("own_events", e), ("own_word", w), ("word_since", s)] : List (Str × D)) := rfl
theorem pi5 : putG "last_worth" lw ([("own_rule", r), ("own_events", e), ("own_word", w), ("word_since", s)] : List (Str × D)) = ([("own_rule", r), ("own_events", e), ("own_word", w), ("word_since", s), ("last_worth", lw)] : List (Str × D)) := rfl
theorem pi6 : putG "last_time" lt ([("own_rule", r), ("own_events", e), ("own_word", w), ("word_since", s), ("last_worth", lw)] : List (Str × D)) = flds r e w s lw lt := rfl
end
theorem qw : (("quiet" : Str) = "waits") = False := eq_false (by decide)
theorem qs : (("quiet" : Str) = "stands") = False := eq_false (by decide)
theorem ws : (("waits" : Str) = "stands") = False := eq_false (by decide)
theorem wq : (("waits" : Str) = "quiet") = False := eq_false (by decide)
theorem sw : (("stands" : Str) = "waits") = False := eq_false (by decide)
theorem sq : (("stands" : Str) = "quiet") = False := eq_false (by decide)
structure Wa (K : PySem.W.Frag) (S : Sto) (a e : Addr) (R : Rule) (w : Wat.Wt) (lw lt : Option Int) : Prop where
  i : S a = some (wO K R e w lw lt)
  l : S e = some (evO w)
  n : a ≠ e
  ok : Wat.Ok w
def Kp (a e : Addr) (S S' : Sto) : Prop := ∀ b, b ≠ a → b ≠ e → S b = none ∨ S b = S' b
theorem Kp.refl (a e : Addr) (S : Sto) : Kp a e S S := fun _ _ _ => .inr rfl
theorem Kp.trans {a e : Addr} {S T U : Sto} (h : Kp a e S T) (g : Kp a e T U) : Kp a e S U := fun b h1 h2 => by
  rcases h b h1 h2 with q | q
  · exact .inl q
  · rcases g b h1 h2 with z | z
    · exact .inl (q.trans z)
    · exact .inr (q.trans z)
theorem put_at {S : Sto} {a b : Addr} {o : O} : put S a o b = if b = a then some o else S b := rfl
theorem kp_new {a e p : Addr} {S : Sto} {o : O} (h : S p = none) : Kp a e S (put S p o) := fun b _ _ => by
  by_cases q : b = p
  · subst q; exact .inl h
  · exact .inr (put_ne q).symm
theorem Wa.new {S : Sto} {a e p : Addr} {R : Rule} {w : Wat.Wt} {lw lt : Option Int} (h : Wa K S a e R w lw lt) (hp : S p = none) {o : O} : Wa K (put S p o) a e R w lw lt := by
  have n1 : a ≠ p := fun q => by rw [← q, h.i] at hp; cases hp
  have n2 : e ≠ p := fun q => by rw [← q, h.l] at hp; cases hp
  exact ⟨by rw [put_ne n1]; exact h.i, by rw [put_ne n2]; exact h.l, h.n, h.ok⟩
def sp_init (K : PySem.W.Frag) : Spd := fun ds S Q _ => ∃ (a : Addr) (R : Rule), ds = [.ref a, ruD R] ∧ S a = some (.ins (He.ga K "Watch") []) ∧ VRu R ∧
  ∀ e S', Wa K S' a e R Wat.start none none → S e = none → Kp a e S S' → Q .non S'
theorem ok_init : BodyOk (d_Watch___init__ K sp_need_rule) ["self", "rule"] (sp_init K) := by
  rintro _ S Q E ⟨a, R, rfl, ha, v, h⟩
  simp [d_Watch___init__, startD]
  refine ⟨R, rfl, v, ?_⟩
  simp [ha, put_same, put_put, zero_le]
  intro p hp
  have np : a ≠ p := fun q => by rw [← q, put_same] at hp; cases hp
  rw [put_ne (Ne.symm np)] at hp
  simp [put_ne np, put_same, pi1, pi2, pi3, pi4, pi5, pi6]
  refine fin_now (h p _ ⟨?_, ?_, np, Wat.ok_start⟩ hp fun b h1 h2 => ?_)
  · simp [put_at, wO, Wat.start, stW, stS, optD]
  · simp [put_at, Ne.symm np, evO, Wat.start]
  · right; simp [put_at, h1, h2]
def sp_events (K : PySem.W.Frag) : Spd := fun ds S Q _ => ∃ (a e : Addr) (R : Rule) (w : Wat.Wt) (lw lt : Option Int), ds = [.ref a] ∧ Wa K S a e R w lw lt ∧ ∀ p, S p = none → Q (.ref p) (put S p (.lst (w.ev.map evD)))
theorem ok_wevents : BodyOk (d_Watch_events K) ["self"] (sp_events K) := by
  rintro _ S Q E ⟨a, e, R, w, lw, lt, rfl, hw, h⟩
  have ev : vw S (.ref e) = .lst (w.ev.map evD) := vw_ref_lst hw.l
  simp [d_Watch_events, startD, hw.i, wO, lk_events, ev]
  intro p hp
  exact fin_now (h p hp)
def sp_state (K : PySem.W.Frag) : Spd := fun ds S Q _ => ∃ (a e : Addr) (R : Rule) (w : Wat.Wt) (lw lt : Option Int), ds = [.ref a] ∧ Wa K S a e R w lw lt ∧ Q (.tup [.str (stW w.st), stS w.st]) S
theorem ok_wstate : BodyOk (d_Watch_state K) ["self"] (sp_state K) := by
  rintro _ S Q E ⟨a, e, R, w, lw, lt, rfl, hw, h⟩
  simp [d_Watch_state, startD, hw.i, wO, lk_word, lk_since, two]
  exact fin_now h
def sp_is_due (K : PySem.W.Frag) : Spd := fun ds S Q _ => ∃ (a e : Addr) (R : Rule) (w : Wat.Wt) (lw lt : Option Int) (t : Int), ds = [.ref a, .int t] ∧ Wa K S a e R w lw lt ∧ Q (.bl (Wat.due R.ru t w)) S
theorem ok_is_due : BodyOk (d_Watch_is_due K) ["self", "time"] (sp_is_due K) := by
  rintro _ S Q E ⟨a, e, R, w, lw, lt, t, rfl, hw, h⟩
  obtain ⟨ev, st⟩ := w
  cases st <;> simp [d_Watch_is_due, startD, hw.i, wO, lk_word, lk_since, lk_rule, ruD, atI, ixN, stW, stS, Wat.due, qw, sw] at h ⊢ <;> exact fin_now h
def sp_raise (K : PySem.W.Frag) : Spd := fun ds S Q _ => ∃ (a e : Addr) (R : Rule) (w : Wat.Wt) (lw lt : Option Int) (s : Int), ds = [.ref a] ∧ Wa K S a e R w lw lt ∧ w.st = .waits s ∧ w.ev.length ≤ 100000 ∧
  ∀ S', Wa K S' a e R (Wat.raise R.ru w) lw lt → Kp a e S S' → Q (.tup [.str "raised", .int (s + R.ru.hold)]) S'
theorem ok_raise : BodyOk (d_Watch_raise_now K) ["self", "time"] (sp_raise K) := by
  rintro _ S Q E ⟨a, e, R, ⟨ev, st⟩, lw, lt, s, rfl, hw, hs, hl, h⟩
  simp only at hs hl
  subst hs
  have n := hw.n
  have n' : e ≠ a := Ne.symm n
  have cl : ev.length < sizeLine := by have := sizeLine_eq; omega
  simp [d_Watch_raise_now, startD, hw.i, hw.l, wO, evO, lk_since, lk_rule, lk_events, ruD, atI, ixN, stS, two, put_at, n, n', cl, fl_len, pg_word, pg_since]
  refine fin_now (h _ ⟨?_, ?_, n, Wat.ok_raise hw.ok⟩ fun b h1 h2 => ?_)
  · simp [put_at, n, wO, Wat.raise, stW, stS, ruD, optD]
  · simp [put_at, n', evO, Wat.raise, evD, optD]
  · right; simp [put_at, h1, h2]
end K30

/-! watches: ending, coming to a time, hearing, going on; what they tell. -/
namespace K30
open PySem PySem.Spec PyProof.Rows L2 VL Fine
variable {K : PySem.W.Frag}
def sp_end (K : PySem.W.Frag) : Spd := fun ds S Q _ => ∃ (a e : Addr) (R : Rule) (w : Wat.Wt) (lw lt : Option Int) (s t : Int), ds = [.ref a, .int t] ∧ Wa K S a e R w lw lt ∧ w.st = .stands s ∧ w.ev.length ≤ 100000 ∧
  ∀ S', Wa K S' a e R (Wat.shut t w) lw lt → Kp a e S S' → Q (.tup [.str "ended", .int t]) S'
theorem ok_end : BodyOk (d_Watch_end_now K) ["self", "time", "raised", "ended"] (sp_end K) := by
  rintro _ S Q E ⟨a, e, R, ⟨ev, st⟩, lw, lt, s, t, rfl, hw, hs, hl, h⟩
  simp only at hs hl
  subst hs
  obtain ⟨e0, he⟩ := hw.ok
  simp only at he
  subst he
  have n := hw.n
  have n' : e ≠ a := Ne.symm n
  have cl : e0.length < sizeLine := by have := sizeLine_eq; simp at hl; omega
  simp [d_Watch_end_now, startD, hw.i, hw.l, wO, evO, evD, optD, lk_events, two, put_at, n, n', cl, fl_len, pg_word, pg_since]
  refine fin_now (h _ ⟨?_, ?_, n, by simp [Wat.shut, Wat.Ok]⟩ fun b h1 h2 => ?_)
  · simp [put_at, n, wO, Wat.shut, stW, stS, optD]
  · simp [put_at, n', evO, Wat.shut, evD, optD]
  · right; simp [put_at, h1, h2]
/-- what is told of a time come to -/
def toldC (r : Wat.Ru) (t : Int) (w : Wat.Wt) : List D := if Wat.due r t w = true then [.tup [.str "raised", .int ((match w.st with | .waits s => s | _ => 0) + r.hold)]] else []
def toldE (r : Wat.Ru) (t x : Int) (w : Wat.Wt) : List D := match w.st with
  | .stands _ => if Wat.rests r x = true then [.tup [.str "ended", .int t]] else []
  | _ => []
def toldH (r : Wat.Ru) (t x : Int) (w : Wat.Wt) : List D := (toldC r (t - 1) w ++ toldE r t x (Wat.come r (t - 1) w)) ++ toldC r t (Wat.turn r t x (Wat.come r (t - 1) w))
def sp_come (K : PySem.W.Frag) : Spd := fun ds S Q _ => ∃ (a e : Addr) (R : Rule) (w : Wat.Wt) (lw lt : Option Int) (t : Int), ds = [.ref a, .int t] ∧ Wa K S a e R w lw lt ∧ w.ev.length ≤ 100000 ∧
  ∀ S' p l, Wa K S' a e R (Wat.come R.ru t w) lw lt → Kp a e S S' → S p = none → S' p = some (.lst l) → p ≠ a → p ≠ e → l.length ≤ 1 → l = toldC R.ru t w → Q (.ref p) S'
theorem ok_come : BodyOk (d_Watch_come_to K (sp_is_due K) (sp_raise K)) ["self", "time"] (sp_come K) := by
  rintro _ S Q E ⟨a, e, R, w, lw, lt, t, rfl, hw, hl, h⟩
  have hi := hw.i
  unfold wO at hi
  simp [-List.lookup_eq_none_iff, d_Watch_come_to, startD, hi, no_is_due, no_raise]
  refine ⟨a, e, R, w, lw, lt, t, rfl, hw, ?_⟩
  unfold Wat.come at h
  cases c : Wat.due R.ru t w with
  | true =>
    rw [c] at h
    obtain ⟨s, hs⟩ : ∃ s, w.st = .waits s := by
      unfold Wat.due at c
      split at c
      · next s e => exact ⟨s, e⟩
      · cases c
    simp [-List.lookup_eq_none_iff, hi, no_raise]
    refine ⟨a, e, R, w, lw, lt, s, rfl, hw, hs, hl, fun S' hw' kp => ⟨one_le, fun p hp => ?_⟩⟩
    have na : p ≠ a := fun q => by rw [q, hw'.i] at hp; cases hp
    have ne : p ≠ e := fun q => by rw [q, hw'.l] at hp; cases hp
    have sp : S p = none := by
      rcases kp p na ne with q | q
      · exact q
      · rw [q]; exact hp
    refine fin_now (h _ p _ ?_ (kp.trans (kp_new hp)) sp put_same na ne (by simp) (by unfold toldC; rw [c, hs]; rfl))
    simp only [if_true]
    exact hw'.new hp
  | false =>
    rw [c] at h
    simp [zero_le]
    intro p hp
    have na : p ≠ a := fun q => by rw [q, hw.i] at hp; cases hp
    have ne : p ≠ e := fun q => by rw [q, hw.l] at hp; cases hp
    refine fin_now (h _ p _ ?_ (kp_new hp) hp put_same na ne (by simp) (by unfold toldC; rw [c]; rfl))
    simp only [Bool.false_eq_true, if_false]
    exact hw.new hp
def sp_later (K : PySem.W.Frag) : Spd := fun ds S Q _ => ∃ (a e : Addr) (R : Rule) (w : Wat.Wt) (lw lt : Option Int) (t : Int), ds = [.ref a, .int t] ∧ Wa K S a e R w lw lt ∧ 0 ≤ t ∧ t ≤ 9999 ∧ (∀ u, lt = some u → u < t) ∧ Q .non S
theorem ok_later : BodyOk (d_Watch_need_later K sp_need_time) ["self", "time"] (sp_later K) := by
  rintro _ S Q E ⟨a, e, R, w, lw, lt, t, rfl, hw, t0, t1, hl, h⟩
  have hi := hw.i
  unfold wO at hi
  simp [d_Watch_need_later, startD, hi, lk_time]
  refine ⟨t, rfl, t0, t1, ?_⟩
  cases lt with
  | none => simp [hi, lk_time, optD, VL.isNon]; exact fin_now h
  | some u =>
    have := hl u rfl
    have c : ¬ t ≤ u := by omega
    simp [hi, lk_time, optD, VL.isNon, c]
    exact ⟨by omega, fin_now h⟩
theorem Wa.at_ {S : Sto} {a e : Addr} {R : Rule} {w : Wat.Wt} {lw lt lw' lt' : Option Int} {st : Wat.St} (h : Wa K S a e R w lw lt) (ok : Wat.Ok ⟨w.ev, st⟩) : Wa K (put S a (wO K R e ⟨w.ev, st⟩ lw' lt')) a e R ⟨w.ev, st⟩ lw' lt' :=
  ⟨put_same, by rw [put_ne (Ne.symm h.n)]; exact h.l, h.n, ok⟩
theorem kp_at {a e : Addr} {S : Sto} {o : O} : Kp a e S (put S a o) := fun b h1 _ => .inr (put_ne h1).symm
theorem vw_ru {S : Sto} {R : Rule} : vw S (ruD R) = .tup [.str R.name, .str R.point, .str (wordS R.ru.up), .int R.ru.lim, .int R.ru.back, .int R.ru.hold, .int R.pri] := rfl
theorem kp_put {a e p : Addr} {S S' : Sto} {o : O} (h : Kp a e S S') (hp : S p = none) : Kp a e S (put S' p o) := fun b h1 h2 => by
  by_cases q : b = p
  · subst q; exact .inl hp
  · rw [put_ne q]; exact h b h1 h2
def sp_hear (K : PySem.W.Frag) : Spd := fun ds S Q _ => ∃ (a e : Addr) (R : Rule) (w : Wat.Wt) (lw lt : Option Int) (t x : Int), ds = [.ref a, .int t, .int x] ∧ Wa K S a e R w lw lt ∧ 0 ≤ t ∧ t ≤ 9999 ∧ 0 ≤ x ∧ x ≤ 63 ∧ (∀ u, lt = some u → u < t) ∧ w.ev.length ≤ 90000 ∧
  ∀ S', Wa K S' a e R (Wat.hear R.ru t x w) (some x) (some t) → Kp a e S S' → Q (.lst (toldH R.ru t x w)) S'
theorem come_len (r : Wat.Ru) (t : Int) (w : Wat.Wt) : (Wat.come r t w).ev.length ≤ w.ev.length + 1 := by
  unfold Wat.come Wat.raise
  split
  · split <;> simp
  · omega
theorem ok_hear : BodyOk (d_Watch_hear K sp_need_time sp_is_whole sp_is_beyond sp_is_at_rest (sp_later K) (sp_come K) (sp_end K)) ["self", "time", "worth", "told", "beyond"] (sp_hear K) := by
  rintro _ S Q E ⟨a, e, R, w, lw, lt, t, x, rfl, hw, t0, t1, x0, x1, hl, hln, h⟩
  have hi := hw.i
  unfold wO at hi
  simp [-List.lookup_eq_none_iff, d_Watch_hear, startD]
  refine ⟨t, rfl, t0, t1, x, 0, 63, rfl, ?_⟩
  simp [-List.lookup_eq_none_iff, x0, x1, hi, no_later]
  refine ⟨a, e, R, w, lw, lt, t, rfl, hw, t0, t1, hl, ?_⟩
  simp [-List.lookup_eq_none_iff, hi, no_come]
  refine ⟨a, e, R, w, lw, lt, t - 1, rfl, hw, by omega, fun S1 p l hw1 k1 sp lp pa pe ll le => ?_⟩
  have n := hw1.n
  have hi1 := hw1.i
  unfold wO at hi1
  have l1 := come_len R.ru (t - 1) w
  generalize hW : Wat.come R.ru (t - 1) w = w1 at hw1 hi1 l1
  simp [-List.lookup_eq_none_iff, two, hi1, fl_len, pg_worth, pg_time, put_same, put_put, lk_rule, vw_ru, atI, ixN]
  have hw2 : Wa K (put S1 a (O.ins (He.ga K "Watch") (flds (ruD R) (.ref e) (.str (stW w1.st)) (stS w1.st) (.int x) (.int t)))) a e R w1 (some x) (some t) := ⟨put_same, by rw [put_ne (Ne.symm n)]; exact hw1.l, n, hw1.ok⟩
  have lp2 : (put S1 a (O.ins (He.ga K "Watch") (flds (ruD R) (.ref e) (.str (stW w1.st)) (stS w1.st) (.int x) (.int t)))) p = some (.lst l) := by rw [put_ne pa]; exact lp
  have k2 : Kp a e S (put S1 a (O.ins (He.ga K "Watch") (flds (ruD R) (.ref e) (.str (stW w1.st)) (stS w1.st) (.int x) (.int t)))) := k1.trans kp_at
  generalize put S1 a (O.ins (He.ga K "Watch") (flds (ruD R) (.ref e) (.str (stW w1.st)) (stS w1.st) (.int x) (.int t))) = S2 at hw2 lp2 k2 ⊢
  refine ⟨R.ru, x, rfl, ?_⟩
  have hi2 := hw2.i
  unfold wO at hi2
  have tail : ∀ (S3 : Sto) (w3 : Wat.Wt) (l' : List D), Wa K S3 a e R w3 (some x) (some t) → Kp a e S S3 → S3 p = some (.lst l') → l'.length ≤ 2 → w3.ev.length ≤ 99000 → Wat.come R.ru t w3 = Wat.hear R.ru t x w → l' ++ toldC R.ru t w3 = toldH R.ru t x w →
      sp_come K [D.ref a, D.int t] S3 (fun y S2 =>
      match vw S2 (D.ref p), vw S2 y with
      | D.int i, D.int j => fin Q (D.int (i + j)) S2
      | D.str i, D.str j => i.length + j.length ≤ sizeLine ∧ fin Q (D.str (i ++ j)) S2
      | D.lst i, D.lst j =>
        i.length ≤ sizeLine ∧ j.length ≤ sizeLine ∧ i.length + j.length ≤ sizeLine ∧ fin Q (D.lst (i ++ j)) S2
      | x, x_1 => False) (finX E) := by
    intro S3 w3 l' hw3 k3 lp3 ll3 lw3 e3 eT
    refine ⟨a, e, R, w3, _, _, t, rfl, hw3, by omega, fun S4 q m hw4 k4 sq lq qa qe mm em => ?_⟩
    have lp4 : S4 p = some (.lst l') := by
      rcases k4 p pa pe with z | z
      · rw [z] at lp3; cases lp3
      · rw [← z]; exact lp3
    have ev1 : vw S4 (.ref p) = .lst l' := vw_ref_lst lp4
    have ev2 : vw S4 (.ref q) = .lst m := vw_ref_lst lq
    simp [ev1, ev2]
    rw [e3] at hw4
    subst em
    rw [eT]
    exact ⟨sz (by omega), sz (by omega), sz (by omega), fin_now (h S4 hw4 (k3.trans k4))⟩
  have hT : toldH R.ru t x w = (l ++ toldE R.ru t x w1) ++ toldC R.ru t (Wat.turn R.ru t x w1) := by unfold toldH; rw [hW, le]
  have hh : Wat.hear R.ru t x w = Wat.come R.ru t (Wat.turn R.ru t x w1) := by unfold Wat.hear; rw [hW]
  have c1 : l.length < sizeLine := by have := sizeLine_eq; omega
  obtain ⟨ev, st⟩ := w1
  simp only at l1
  cases st with
  | quiet =>
    cases c : Wat.beyond R.ru x with
    | false =>
      simp [-List.lookup_eq_none_iff, hi2, lk_word, stW, qs, qw, no_come]
      exact tail S2 _ l hw2 k2 lp2 (by omega) (by simp; omega) (by rw [hh]; simp [Wat.turn, c]) (by rw [hT]; simp [Wat.turn, toldE, c])
    | true => 
      simp [-List.lookup_eq_none_iff, hi2, lk_word, stW, stS, qs, qw, two, no_come, fl_len, put_same, put_put, pg_word, pg_since]
      exact tail _ ⟨ev, .waits t⟩ l (hw2.at_ (st := .waits t) True.intro) (k2.trans kp_at) (by rw [put_ne pa]; exact lp2) (by omega) (by simp; omega) (by rw [hh]; simp [Wat.turn, c]) (by rw [hT]; simp [Wat.turn, toldE, c])
  | waits s =>
    cases c : Wat.beyond R.ru x with
    | false =>
      simp [-List.lookup_eq_none_iff, hi2, lk_word, stW, stS, ws, wq, two, no_come, fl_len, put_same, put_put, pg_word, pg_since]
      exact tail _ ⟨ev, .quiet⟩ l (hw2.at_ (st := .quiet) True.intro) (k2.trans kp_at) (by rw [put_ne pa]; exact lp2) (by omega) (by simp; omega) (by rw [hh]; simp [Wat.turn, c]) (by rw [hT]; simp [Wat.turn, toldE, c])
    | true =>
      simp [-List.lookup_eq_none_iff, hi2, lk_word, stW, ws, wq, no_come]
      exact tail S2 _ l hw2 k2 lp2 (by omega) (by simp; omega) (by rw [hh]; simp [Wat.turn, c]) (by rw [hT]; simp [Wat.turn, toldE, c])
  | stands s =>
    simp [-List.lookup_eq_none_iff, hi2, lk_word, lk_rule, stW]
    refine ⟨R, x, rfl, ?_⟩
    cases c : Wat.rests R.ru x with
    | true =>
      simp [-List.lookup_eq_none_iff, hi2, lp2, no_end]
      refine ⟨a, e, R, _, _, _, s, t, rfl, hw2, rfl, by simp; omega, fun S3 hw3 k3 => ?_⟩
      have lp3 : S3 p = some (.lst l) := by
        rcases k3 p pa pe with z | z
        · rw [z] at lp2; cases lp2
        · rw [← z]; exact lp2
      have hi3 := hw3.i
      unfold wO at hi3
      simp [-List.lookup_eq_none_iff, lp3, c1, put_ne (Ne.symm pa), hi3, no_come]
      refine tail _ (Wat.shut t ⟨ev, .stands s⟩) _ ⟨by rw [put_ne (Ne.symm pa)]; exact hw3.i, by rw [put_ne (Ne.symm pe)]; exact hw3.l, n, hw3.ok⟩ (kp_put (k2.trans k3) sp) put_same (by simp; omega) ?_ (by rw [hh]; simp [Wat.turn, c]) (by rw [hT]; simp [Wat.turn, toldE, c])
      unfold Wat.shut
      split <;> simp <;> omega
    | false =>
      simp [-List.lookup_eq_none_iff, hi2, lk_word, stW, sw, sq, no_come]
      exact tail S2 _ l hw2 k2 lp2 (by omega) (by simp; omega) (by rw [hh]; simp [Wat.turn, c]) (by rw [hT]; simp [Wat.turn, toldE, c])
def go (r : Wat.Ru) (t : Int) (lt : Option Int) (w : Wat.Wt) : Wat.Wt := if lt = some t then w else Wat.come r t w
def toldG (r : Wat.Ru) (t : Int) (lt : Option Int) (w : Wat.Wt) : List D := if lt = some t then [] else toldC r t w
def sp_go (K : PySem.W.Frag) : Spd := fun ds S Q _ => ∃ (a e : Addr) (R : Rule) (w : Wat.Wt) (lw lt : Option Int) (t : Int), ds = [.ref a, .int t] ∧ Wa K S a e R w lw lt ∧ 0 ≤ t ∧ t ≤ 9999 ∧ (∀ u, lt = some u → u ≤ t) ∧ w.ev.length ≤ 90000 ∧
  ∀ S' p l, Wa K S' a e R (go R.ru t lt w) lw (some t) → Kp a e S S' → S p = none → S' p = some (.lst l) → p ≠ a → p ≠ e → l = toldG R.ru t lt w → Q (.ref p) S'
theorem ok_go : BodyOk (d_Watch_go_on K sp_need_time (sp_later K) (sp_come K)) ["self", "time"] (sp_go K) := by
  rintro _ S Q E ⟨a, e, R, w, lw, lt, t, rfl, hw, t0, t1, hl, hln, h⟩
  have hi := hw.i
  unfold wO at hi
  simp [-List.lookup_eq_none_iff, d_Watch_go_on, startD]
  refine ⟨t, rfl, t0, t1, ?_⟩
  simp [-List.lookup_eq_none_iff, hi, lk_time]
  have main : lt ≠ some t → sp_come K [D.ref a, D.int t] (put S a (O.ins (He.ga K "Watch") (flds (ruD R) (.ref e) (.str (stW w.st)) (stS w.st) (optD lw) (.int t)))) (fin Q) (finX E) := by
    intro hne
    have hw2 : Wa K (put S a (O.ins (He.ga K "Watch") (flds (ruD R) (.ref e) (.str (stW w.st)) (stS w.st) (optD lw) (.int t)))) a e R w lw (some t) := ⟨put_same, by rw [put_ne (Ne.symm hw.n)]; exact hw.l, hw.n, hw.ok⟩
    refine ⟨a, e, R, w, lw, some t, t, rfl, hw2, by omega, fun S' p l hw' k sp lp pa pe ll le => ?_⟩
    rw [put_ne pa] at sp
    refine fin_now (h S' p l ?_ (kp_at.trans k) sp lp pa pe (by unfold toldG; rw [if_neg hne]; exact le))
    unfold go
    rw [if_neg hne]
    exact hw'
  have keep : lt = some t → ∀ p : Addr, S p = none → fin Q (.ref p) (put S p (.lst [])) := by
    intro e1 p hp
    have na : p ≠ a := fun q => by rw [q, hw.i] at hp; cases hp
    have ne : p ≠ e := fun q => by rw [q, hw.l] at hp; cases hp
    refine fin_now (h _ p _ ?_ (kp_new hp) hp put_same na ne (by unfold toldG; rw [if_pos e1]))
    unfold go
    rw [if_pos e1]
    have := hw.new hp (o := .lst [])
    rwa [e1] at this
  cases lt with
  | none =>
    simp [-List.lookup_eq_none_iff, optD, hi, no_later]
    refine ⟨a, e, R, w, lw, _, t, rfl, hw, t0, t1, (fun u e => by cases e), ?_⟩
    simp [-List.lookup_eq_none_iff, hi, fl_len, put_same, pg_time, no_come]
    exact main (by simp)
  | some u =>
    by_cases c : t = u
    · subst c
      simp [optD]
      exact keep rfl
    · have := hl u rfl
      simp [-List.lookup_eq_none_iff, optD, c, hi, no_later]
      refine ⟨a, e, R, w, lw, _, t, rfl, hw, t0, t1, (fun v e => by cases e; omega), ?_⟩
      simp [-List.lookup_eq_none_iff, hi, fl_len, put_same, pg_time, no_come]
      exact main (fun e => c (by cases e; rfl))
end K30

/-! watches: a history heard. -/
namespace K30
open PySem PySem.Spec PyProof.Rows L2 VL Fine
variable {K : PySem.W.Frag}
theorem shut_len (t : Int) (w : Wat.Wt) : (Wat.shut t w).ev.length ≤ w.ev.length := by
  unfold Wat.shut
  split
  · next x e =>
    cases h : w.ev with
    | nil => rw [h] at e; cases e
    | cons y l => simp
  · omega
theorem turn_len (r : Wat.Ru) (t x : Int) (w : Wat.Wt) : (Wat.turn r t x w).ev.length ≤ w.ev.length := by
  have := shut_len t w
  unfold Wat.turn
  split <;> split <;> simp <;> omega
theorem hear_len (r : Wat.Ru) (t x : Int) (w : Wat.Wt) : (Wat.hear r t x w).ev.length ≤ w.ev.length + 2 := by
  have h1 := come_len r t (Wat.turn r t x (Wat.come r (t - 1) w))
  have h2 := turn_len r t x (Wat.come r (t - 1) w)
  have h3 := come_len r (t - 1) w
  unfold Wat.hear
  omega
def goods (rows : List Row) (till : Int) : Wat.Sgs := (rows.filter fun x => x.2.2 && decide (x.1 ≤ till)).map fun x => (x.1, x.2.1)
theorem mark_good (b : Bool) : decide (markS b = ("good" : Str)) = b := by cases b <;> decide
theorem goods_cons (x : Row) (rows : List Row) (till : Int) : goods (x :: rows) till = if (x.2.2 && decide (x.1 ≤ till)) = true then (x.1, x.2.1) :: goods rows till else goods rows till := by
  unfold goods
  rw [List.filter_cons]
  split <;> rfl
end K30

/-! watches: the law's own defs. -/
namespace K30
open PySem PySem.Spec PyProof.Rows L2 VL Fine
variable {K : PySem.W.Frag}
def sp_cell_at : Spd := fun ds S Q _ => ∃ (ns : List Int) (k : Int), ds = [.lst (ns.map D.int), .int k] ∧ 0 ≤ k ∧ k ≤ 100 ∧ ∀ c : Int, Q (.int c) S
theorem ok_cell_at : BodyOk (d__law_cell_at K) ["script", "k"] sp_cell_at := by
  rintro _ S Q E ⟨ns, k, rfl, h1, h2, h⟩
  simp [d__law_cell_at, startD]
  by_cases c : k < (List.length ns : Int)
  · have e : atI (ns.map D.int) k = some (D.int (ns[k.toNat]'(by omega))) := by
      unfold atI ixN
      rw [if_pos h1, if_pos (by simpa using c)]
      simp
    simp [c, e]
    exact fin_now (h _)
  · simp [c]
    exact fin_now (h _)
theorem mulW {i j : Int} (hi : i.natAbs < 2 ^ 200) (hj : j.natAbs < 2 ^ 200) : CMulW i j := by
  have key : ∀ x : Int, x.natAbs < 2 ^ 200 → x.natAbs.log2 < 200 := by
    intro x hx
    by_cases z : x.natAbs = 0
    · rw [z]; decide
    · exact (Nat.log2_lt z).mpr hx
  have h1 := key i hi
  have h2 := key j hj
  show i.natAbs.log2 + j.natAbs.log2 < 1000000
  omega
theorem lt_big {n : Nat} (h : n < 2 ^ 64) : n < 2 ^ 200 := Nat.lt_trans h (by decide)
def sp_row : Spd := fun ds S Q _ => ∃ c m s : Int, ds = [.int c, .int m, .int s] ∧ 0 ≤ m ∧ m ≤ 100 ∧ 0 ≤ s ∧ s ≤ 1000 ∧ ∀ ns : List Int, ns.length = m.toNat → (∀ n ∈ ns, 0 ≤ n ∧ n < 2 ^ 31) → Q (.lst (ns.map D.int)) S
theorem rw_loop {Z : EndsD} {S : Sto} {p : Addr} {c s : Int} {x1 : Option D} (hs : 0 ≤ s) (hs2 : s ≤ 1000) : ∀ (L : List Int) (ns : List Int) (r : Int) (y5 y6 : Option D), (∀ k ∈ L, 0 ≤ k ∧ k ≤ 100) → ns.length + L.length ≤ 1000 → (∀ n ∈ ns, 0 ≤ n ∧ n < 2 ^ 31) →
    (∀ (z4 z5 z6 : Option D) (ms : List Int), ms.length = ns.length + L.length → (∀ n ∈ ms, 0 ≤ n ∧ n < 2 ^ 31) → Z.nx [some (.int c), x1, some (.int s), some (.ref p), z4, z5, z6] (put S p (.lst (ms.map D.int)))) →
    dForL (g__law_row_0 K) (b__law_row_0 K) Z (L.map D.int) [some (.int c), x1, some (.int s), some (.ref p), some (.int r), y5, y6] (put S p (.lst (ns.map D.int)))
  | [], ns, r, y5, y6, _, _, hn, h => h _ _ _ ns (by simp) hn
  | k :: L, ns, r, y5, y6, hk, hl, hn, h => by
    obtain ⟨k0, k1⟩ := hk k (List.mem_cons_self ..)
    simp only [List.length_cons] at hl
    have kt : ∀ k ∈ L, 0 ≤ k ∧ k ≤ 100 := fun y hy => hk y (List.mem_cons_of_mem _ hy)
    have cl : ns.length < sizeLine := by have := sizeLine_eq; omega
    have step : ∀ (v r' : Int) (y5 y6 : Option D), 0 ≤ v → v < 2 ^ 31 → dForL (g__law_row_0 K) (b__law_row_0 K) Z (L.map D.int) [some (.int c), x1, some (.int s), some (.ref p), some (.int r'), y5, y6] (put S p (.lst (ns.map D.int ++ [.int v]))) := by
      intro v r' y5 y6 v0 v1
      have e : ns.map D.int ++ [D.int v] = (ns ++ [v]).map D.int := by simp
      rw [e]
      refine rw_loop hs hs2 L (ns ++ [v]) r' _ _ kt (by simp; omega) (fun n hn' => ?_) fun z4 z5 z6 ms h1 h2 => h z4 z5 z6 ms (by rw [h1]; simp; omega) h2
      rcases List.mem_append.mp hn' with q | q
      · exact hn n q
      · simp at q; subst q; exact ⟨v0, v1⟩
    rw [List.map_cons]
    simp [dForL, u_g__law_row_0, u_b__law_row_0]
    by_cases cr : 0 < r
    · have cd : CDivW r 1000003 := ⟨by decide, by decide⟩
      simp [cr, put_same, put_put, cl, cd]
      exact step _ _ _ _ (by omega) (by omega)
    · have cm1 : CMulW 48271 k := mulW (by decide) (lt_big (by omega))
      have cm2 : CMulW 69621 k := mulW (by decide) (lt_big (by omega))
      have m0 := Int.emod_nonneg c (by decide : (2147483629 : Int) ≠ 0)
      have m1 := Int.emod_lt_of_pos c (by decide : (0 : Int) < 2147483629)
      have cm3 : CMulW (c % 2147483629 + 1) (s + 48271 * k) := mulW (lt_big (by omega)) (lt_big (by omega))
      simp [cr, cm1, cm2, cm3]
      generalize hM : (c % 2147483629 + 1) * (s + 48271 * k) + 69621 * k + s = M
      have t0 := Int.emod_nonneg M (by decide : (2147483647 : Int) ≠ 0)
      have t1 := Int.emod_lt_of_pos M (by decide : (0 : Int) < 2147483647)
      have cp1 : CPow (M % 2147483647) 5 := ⟨by decide, by decide, by omega⟩
      have u0 := Int.emod_nonneg ((M % 2147483647) ^ 5) (by decide : (2147483647 : Int) ≠ 0)
      have u1 := Int.emod_lt_of_pos ((M % 2147483647) ^ 5) (by decide : (0 : Int) < 2147483647)
      have cp2 : CPow ((M % 2147483647) ^ 5 % 2147483647 + k) 5 := ⟨by decide, by decide, by omega⟩
      have d2 : CDivW (((M % 2147483647) ^ 5 % 2147483647 + k) ^ 5 % 2147483629) 16 := ⟨by decide, by decide⟩
      simp [cp1, cp2, d2, put_same, put_put, cl]
      exact step _ _ _ _ (by omega) (by omega)
theorem ok_row : BodyOk (d__law_row K) ["cell", "many", "salt", "row", "rest", "k", "mixed"] sp_row := by
  rintro _ S Q E ⟨c, m, s, rfl, m0, m1, s0, s1, h⟩
  have cp : CPow 10 18 := ⟨by decide, by decide, by decide⟩
  simp [d__law_row, startD, zero_le, cp]
  intro p hp
  have fini : ∀ (r : Int), dForL (g__law_row_0 K) (b__law_row_0 K) { nx := dSee 3 (dRet (dVar 3)) { nx := fun x S' => fin Q D.non S', rt := fin Q, ex := fun x => finX E }, rt := fin Q, ex := fun x => finX E } ((Fine.tik 0 m.toNat).map D.int) [some (.int c), some (.int m), some (.int s), some (.ref p), some (.int r), none, none] (put S p (.lst ([] : List D))) := by
    intro r
    refine rw_loop (S := S) (p := p) s0 s1 (Fine.tik 0 m.toNat) [] r _ _ (fun k hk => ?_) (by rw [Fine.tik_len]; simp; omega) (by simp) fun z4 z5 z6 ms h1 h2 => ?_
    · have := Fine.mem_tik hk; omega
    · simp [put_same, era_put hp]
      rw [Fine.tik_len] at h1
      exact fin_now (h ms (by simpa using h1) h2)
  rw [Fine.rangeD_tik]
  generalize (if c < 0 then -c else c) = ac
  split
  · exact ⟨⟨by omega, by omega⟩, fini _⟩
  · exact ⟨⟨by omega, by omega⟩, fini _⟩
/-! ### what is alike -/
def Sc (d : D) : Prop := d = .non ∨ (∃ i, d = .int i) ∨ ∃ s, d = .str s
def PlA : Nat → D → Prop
  | 0, d => Sc d
  | n + 1, d => Sc d ∨ ∃ ds, (d = .lst ds ∨ d = .tup ds) ∧ ds.length ≤ 1000000 ∧ ∀ x ∈ ds, PlA n x
theorem pl_vw : ∀ {n : Nat} {d : D} {S : Sto}, PlA n d → vw S d = d
  | 0, d, S, h => by rcases h with rfl | ⟨i, rfl⟩ | ⟨x, rfl⟩ <;> rfl
  | n + 1, d, S, h => by
    rcases h with (rfl | ⟨i, rfl⟩ | ⟨x, rfl⟩) | ⟨ds, rfl | rfl, _⟩ <;> rfl
def spAl (n : Nat) : Spd := fun ds S Q _ => ∃ f d, ds = [f, d] ∧ vw S f = d ∧ PlA n d ∧ Q (.bl true) S
def spNo : Spd := fun _ _ _ _ => False
theorem no_fn {P : Program} {w : World} {mg : Str → Option Value} {base : Heap} {f : Addr} {fd : FuncData} {ps : List Str} : FnG P w K mg base 0 f fd ps (lift K spNo) where
  len := fun vs H Q E ⟨F, ds, S, Qd, Ed, _, _, h, _⟩ => h.elim
  run := fun A outer s H args us vs Q E _ _ _ _ _ ⟨F, ds, S, Qd, Ed, _, _, h, _⟩ => h.elim
theorem vw_sc {S : Sto} {f d : D} (h : vw S f = d) (hd : Sc d) : f = d := by
  cases f with
  | ref a =>
    rcases vw_ref (S := S) (a := a) with ⟨es, h1, h2⟩ | ⟨es, h1, h2⟩ | h2 <;> rw [h2] at h <;> subst h <;> rcases hd with q | ⟨i, q⟩ | ⟨x, q⟩ <;> cases q
  | _ => exact h
theorem alike_sc {s : Spd} {S : Sto} {Q : QD} {E : XD} {d : D} (hd : Sc d) (h : Q (.bl true) S) : d__law_alike K s { nx := fun _ S' => fin Q .non S', rt := fin Q, ex := fun _ => finX E } (startD ["found", "due", "name", "k"] [d, d]) S := by
  rcases hd with rfl | ⟨i, rfl⟩ | ⟨x, rfl⟩
  · simp [d__law_alike, startD, VL.isNon]
    exact fin_now h
  · simp [d__law_alike, startD, VL.isNon, tyN, isT, kindsB]
    exact fin_now h
  · simp [d__law_alike, startD, VL.isNon, tyN, isT, kindsB]
    exact fin_now h
theorem ok_alike0 : BodyOk (d__law_alike K spNo) ["found", "due", "name", "k"] (spAl 0) := by
  rintro _ S Q E ⟨f, d, rfl, hf, hd, h⟩
  rw [vw_sc hf hd]
  exact alike_sc hd h
theorem ok_alikeS (n : Nat) : BodyOk (d__law_alike K (spAl n)) ["found", "due", "name", "k"] (spAl (n + 1)) := by
  rintro _ S Q E ⟨f, d, rfl, hf, hd, h⟩
  rcases hd with hd | ⟨ds, e, hl, hx⟩
  · rw [vw_sc hf hd]
    exact alike_sc hd h
  · rcases e with rfl | rfl <;>
    · simp [d__law_alike, startD, VL.isNon, tyN, isT, kindsB, hf]
      refine ⟨by omega, sz (by simp [rangeD]; exact hl), ?_⟩
      rw [Fine.rangeD_tik]
      refine lcL_map D.int (fun _ => some (.bl true)) _ _ (fun k hk R hR => ?_) ?_
      · obtain ⟨k0, k1⟩ := Fine.mem_tik hk
        have ea : atI ds k = some (ds[k.toNat]'(by omega)) := by
          unfold atI ixN
          rw [if_pos k0, if_pos (by omega)]
          simp
        have hp := hx _ (List.getElem_mem (l := ds) (n := k.toNat) (by omega))
        simp [oneD, wipeD, ea, hf]
        exact ⟨_, _, rfl, pl_vw hp, hp, hR⟩
      rw [List.nil_append, fm_some, bools_true]
      show fin Q (.bl (((Fine.tik 0 _).map fun _ => true).all id)) S
      rw [all_true]
      exact fin_now h
/-! ### rules drawn -/
theorem pick {l : List D} {d : Int} (P : D → Prop) (h0 : 0 ≤ d) (h1 : d < l.length) (hP : ∀ y ∈ l, P y) : ∃ y, atI l d = some y ∧ P y := by
  refine ⟨l[d.toNat]'(by omega), ?_, hP _ (List.getElem_mem _)⟩
  unfold atI ixN
  rw [if_pos h0, if_pos h1]
  simp
theorem at_g {ns : List Int} {k : Nat} (h : k < ns.length) : atI (ns.map D.int) (k : Int) = some (.int (ns.getD k 0)) := by
  unfold atI ixN
  rw [if_pos (by omega), if_pos (by simp; omega)]
  simp [List.getD_eq_getElem?_getD, List.getElem?_eq_getElem h]
def sp_rule : Spd := fun ds S Q _ => ∃ (n p : Str) (ns : List Int), ds = [.str n, .str p, .lst (ns.map D.int)] ∧ 7 ≤ ns.length ∧ Nm n ∧ Nm p ∧ ∀ R, VRu R → Q (ruD R) S
theorem ok_rule : BodyOk (d__law_rule K) ["name", "point", "row", "word", "back", "hold"] sp_rule := by
  rintro _ S Q E ⟨n, p, ns, rfl, hl, hn, hp, h⟩
  have e0 : atI (ns.map D.int) 0 = some (.int (ns.getD 0 0)) := at_g (k := 0) (by omega)
  have e1 : atI (ns.map D.int) 1 = some (.int (ns.getD 1 0)) := at_g (k := 1) (by omega)
  have e2 : atI (ns.map D.int) 2 = some (.int (ns.getD 2 0)) := at_g (k := 2) (by omega)
  have e3 : atI (ns.map D.int) 3 = some (.int (ns.getD 3 0)) := at_g (k := 3) (by omega)
  have e4 : atI (ns.map D.int) 4 = some (.int (ns.getD 4 0)) := at_g (k := 4) (by omega)
  have e5 : atI (ns.map D.int) 5 = some (.int (ns.getD 5 0)) := at_g (k := 5) (by omega)
  have e6 : atI (ns.map D.int) 6 = some (.int (ns.getD 6 0)) := at_g (k := 6) (by omega)
  generalize ns.getD 0 0 = g0 at e0
  generalize ns.getD 1 0 = g1 at e1
  generalize ns.getD 2 0 = g2 at e2
  generalize ns.getD 3 0 = g3 at e3
  generalize ns.getD 4 0 = g4 at e4
  generalize ns.getD 5 0 = g5 at e5
  generalize ns.getD 6 0 = g6 at e6
  simp [d__law_rule, startD, e0, e1, e2, e3, e4, e5, e6, two, four, five, six, seven]
  obtain ⟨y, ey, up, rfl⟩ := pick (l := [D.str "above", D.str "below"]) (d := g0 % 2) (fun y => ∃ b, y = .str (wordS b)) (by omega) (by simp; omega) (by
    intro y hy
    simp at hy
    rcases hy with rfl | rfl
    · exact ⟨true, rfl⟩
    · exact ⟨false, rfl⟩)
  simp only [ey]
  obtain ⟨y, ey, b, rfl, b0, b1⟩ := pick (l := [D.int 0, D.int 1, D.int (g2 % 5), D.int (g2 % 64)]) (d := g3 % 4) (fun y => ∃ b : Int, y = .int b ∧ 0 ≤ b ∧ b ≤ 63) (by omega) (by simp; omega) (by
    intro y hy
    simp at hy
    rcases hy with rfl | rfl | rfl | rfl
    · exact ⟨0, rfl, by omega, by omega⟩
    · exact ⟨1, rfl, by omega, by omega⟩
    · exact ⟨_, rfl, by omega, by omega⟩
    · exact ⟨_, rfl, by omega, by omega⟩)
  simp only [ey]
  obtain ⟨y, ey, o, rfl, o0, o1⟩ := pick (l := [D.int 0, D.int 1, D.int (g4 % 6), D.int (g4 % 99), D.int 99]) (d := g5 % 5) (fun y => ∃ b : Int, y = .int b ∧ 0 ≤ b ∧ b ≤ 99) (by omega) (by simp; omega) (by
    intro y hy
    simp at hy
    rcases hy with rfl | rfl | rfl | rfl | rfl
    · exact ⟨0, rfl, by omega, by omega⟩
    · exact ⟨1, rfl, by omega, by omega⟩
    · exact ⟨_, rfl, by omega, by omega⟩
    · exact ⟨_, rfl, by omega, by omega⟩
    · exact ⟨99, rfl, by omega, by omega⟩)
  simp only [ey]
  exact fin_now (h ⟨⟨up, g1 % 64, b, o⟩, n, p, 1 + g6 % 3⟩ ⟨hn, hp, by dsimp only; omega, by dsimp only; omega, b0, b1, o0, o1, by dsimp only; omega, by dsimp only; omega⟩)
def sp_lbeyond : Spd := fun ds S Q _ => ∃ (R : Rule) (x : Int), ds = [ruD R, .int x] ∧ Q (.bl (Wat.beyond R.ru x)) S
theorem ok_lbeyond : BodyOk (d__law_beyond K) ["rule", "worth"] sp_lbeyond := by
  rintro _ S Q E ⟨R, x, rfl, h⟩
  unfold Wat.beyond at h
  cases e : R.ru.up <;> simp [e] at h <;> simp [d__law_beyond, startD, ruD, atI, ixN, two, word_iff, e] <;> exact fin_now h
def sp_lrests : Spd := fun ds S Q _ => ∃ (R : Rule) (x : Int), ds = [ruD R, .int x] ∧ Q (.bl (Wat.rests R.ru x)) S
theorem ok_lrests : BodyOk (d__law_rests K) ["rule", "worth"] sp_lrests := by
  rintro _ S Q E ⟨R, x, rfl, h⟩
  unfold Wat.rests at h
  cases e : R.ru.up <;> simp [e] at h <;> simp [d__law_rests, startD, ruD, atI, ixN, two, word_iff, e] <;> exact fin_now h
end K30

/-! watches: the law's own walk tick by tick. -/
namespace K30
open PySem PySem.Spec PyProof.Rows L2 VL Fine
variable {K : PySem.W.Frag}
def kE (x : Int × Int) : Key × D := (.inl x.1, .int x.2)
def goodR (rows : List Row) : Wat.Sgs := (rows.filter fun x => x.2.2).map fun x => (x.1, x.2.1)
theorem get_kE {t : Int} : ∀ {g : Wat.Sgs}, getK (g.map kE) (.inl t) = (g.lookup t).map D.int
  | [] => rfl
  | (k, x) :: g => by
    have ih := get_kE (t := t) (g := g)
    unfold getK at ih ⊢
    rw [List.map_cons, List.find?_cons]
    by_cases e : k = t
    · subst e
      rw [show decide ((kE (k, x)).1 = (.inl k : Key)) = true from decide_eq_true rfl]
      simp [List.lookup, kE]
    · have e1 : decide ((kE (k, x)).1 = (.inl t : Key)) = false := by
        rw [decide_eq_false_iff_not]
        intro z
        exact e (Sum.inl.inj z)
      have e2 : (t == k) = false := by simp; omega
      rw [e1]
      simp only [List.lookup, e2]
      exact ih
theorem put_kE {t w : Int} {g : Wat.Sgs} (h : ∀ x ∈ g, x.1 < t) : putKD (g.map kE) (.inl t) (.int w) = (g ++ [(t, w)]).map kE := by
  have e : ((g.map kE).any fun kv => decide (kv.1 = (.inl t : Key))) = false := by
    rw [List.any_eq_false]
    intro y hy
    obtain ⟨x, hx, rfl⟩ := List.mem_map.mp hy
    have := h x hx
    simp only [decide_eq_true_eq]
    intro z
    have z' : x.1 = t := Sum.inl.inj z
    omega
  unfold putKD
  rw [e, List.map_append]; rfl
theorem kints_kE : ∀ {g : Wat.Sgs}, kintsD (g.map kE) = some (g.map (·.1))
  | [] => rfl
  | x :: g => by
    rw [List.map_cons, kE, kintsD, kints_kE]; rfl
theorem goodR_cons (x : Row) (rows : List Row) : goodR (x :: rows) = if x.2.2 = true then (x.1, x.2.1) :: goodR rows else goodR rows := by
  unfold goodR
  rw [List.filter_cons]
  split <;> rfl
theorem md_loop1 {Z : EndsD} {S : Sto} {p qs : Addr} {l0 : List D} {x0 x1 x2 : Option D} (hq : S qs = some (.lst l0)) (hqp : qs ≠ p) : ∀ (rows : List Row) (g : Wat.Sgs) (y4 y5 y6 : Option D), rows.Pairwise (fun x y => x.1 < y.1) → (∀ x ∈ g, ∀ y ∈ rows, x.1 < y.1) → g.length + rows.length ≤ 100000 →
    (∀ z4 z5 z6, Z.nx [x0, x1, x2, some (.ref p), z4, z5, z6, none, none, none] (put S p (.dct ((g ++ goodR rows).map kE)))) →
    dForRL (fun S' => S' qs = some (.lst l0)) (g__law_model_0 K sp_lrests sp_lbeyond) (b__law_model_0 K sp_lrests sp_lbeyond) Z (rows.map rowD) [x0, x1, x2, some (.ref p), y4, y5, y6, none, none, none] (put S p (.dct (g.map kE)))
  | [], g, y4, y5, y6, _, _, _, h => by
    have := h y4 y5 y6
    rw [show goodR [] = [] from rfl, List.append_nil] at this
    exact ⟨(put_ne hqp).trans hq, this⟩
  | x :: rows, g, y4, y5, y6, pw, hg, hl, h => by
    obtain ⟨p1, p2⟩ := List.pairwise_cons.mp pw
    simp only [List.length_cons] at hl
    have cl : g.length < sizeLine := by have := sizeLine_eq; omega
    rw [List.map_cons]
    refine ⟨(put_ne hqp).trans hq, ?_⟩
    simp [u_g__law_model_0, u_b__law_model_0, rowD, mark_good]
    by_cases c : x.2.2 = true
    · simp [c, put_same, put_put, keyD, cl]
      rw [put_kE fun y hy => hg y hy x (List.mem_cons_self ..)]
      refine md_loop1 hq hqp rows (g ++ [(x.1, x.2.1)]) _ _ _ p2 (fun y hy z hz => ?_) (by simp; omega) fun z4 z5 z6 => ?_
      · rcases List.mem_append.mp hy with q | q
        · exact hg y q z (List.mem_cons_of_mem _ hz)
        · simp at q; subst q; exact p1 z hz
      · have := h z4 z5 z6
        rw [goodR_cons, if_pos c] at this
        rw [List.append_assoc]; exact this
    · simp [c]
      refine md_loop1 hq hqp rows g _ _ _ p2 (fun y hy z hz => hg y hy z (List.mem_cons_of_mem _ hz)) (by omega) fun z4 z5 z6 => ?_
      have := h z4 z5 z6
      rw [goodR_cons, if_neg c] at this
      exact this
def eff (o w : Option Int) : Option Int := o.or w
theorem getD_optD {o w : Option Int} : (o.map D.int).getD (optD w) = optD (eff o w) := by cases o <;> rfl
theorem tick_none {r : Wat.Ru} {o w : Option Int} {t : Int} {ev : Wat.Ev} {si : Option Int} {b : Bool} (h : eff o w = none) : Wat.tick r o t ⟨ev, si, b, w⟩ = ⟨ev, si, b, none⟩ := by
  unfold eff at h
  cases o with
  | some x => cases h
  | none => have h' : w = none := h; subst h'; rfl
theorem tick_some {r : Wat.Ru} {o w : Option Int} {t x : Int} {ev : Wat.Ev} {si : Option Int} {b : Bool} (h : eff o w = some x) : Wat.tick r o t ⟨ev, si, b, w⟩ = Wat.tk2 r t (Wat.tk1 r t x ⟨ev, si, b, w⟩) := by
  unfold eff at h
  cases o with
  | some y => have h' : some y = some x := h; cases h'; rfl
  | none => have h' : w = some x := h; subst h'; rfl
theorem last_ix {α : Type} (l : List α) (x : α) : atI (l ++ [x]) (-1) = some x := by
  rw [show (-1 : Int) = -1 from rfl]
  unfold atI ixN
  rw [if_neg (by omega), if_pos (by simp; omega)]
  have : (-1 + (((l ++ [x]).length : Nat) : Int)).toNat = l.length := by simp; omega
  show (l ++ [x])[(-1 + (((l ++ [x]).length : Nat) : Int)).toNat]? = some x
  rw [this]; simp
theorem last_n {n : Nat} : ixN (n + 1) (-1) = some n := by
  unfold ixN
  rw [if_neg (by omega), if_pos (by omega)]
  congr 1
  omega
theorem vw_pl {S : Sto} {q : Addr} {l : List D} : vw (put S q (.lst l)) (.ref q) = .lst l := vw_ref_lst put_same
theorem vw_tp {S : Sto} {l : List D} : vw S (.tup l) = .tup l := rfl
theorem at0 {x y : D} : atI [x, y] 0 = some x := rfl
theorem at1 {x y : D} : atI [x, y] 1 = some y := rfl
theorem md_tick {Z : EndsD} {S : Sto} {p q : Addr} {R : Rule} {x1 x2 y6 : Option D} {g : Wat.Sgs} {s : Wat.Tk} {t : Int} (hpq : p ≠ q) (sk : s.stands = true → ∃ e a, s.ev = e ++ [(a, none)]) (hl : s.ev.length ≤ 100000)
    (hn : Z.nx [some (ruD R), x1, x2, some (.ref p), some (.int t), some (optD (Wat.tick R.ru (g.lookup t) t s).worth), y6, some (.ref q), some (optD (Wat.tick R.ru (g.lookup t) t s).since), some (.bl (Wat.tick R.ru (g.lookup t) t s).stands)] (put (put S p (.dct (g.map kE))) q (.lst ((Wat.tick R.ru (g.lookup t) t s).ev.map evD))))
    (hc : Z.ct = Z.nx) :
    b__law_model_1 K sp_lrests sp_lbeyond Z [some (ruD R), x1, x2, some (.ref p), some (.int t), some (optD s.worth), y6, some (.ref q), some (optD s.since), some (.bl s.stands)] (put (put S p (.dct (g.map kE))) q (.lst (s.ev.map evD))) := by
  have n' : q ≠ p := Ne.symm hpq
  obtain ⟨ev, since, stands, worth⟩ := s
  simp only at sk hl
  have cl : ev.length < sizeLine := by have := sizeLine_eq; omega
  rw [u_b__law_model_1]
  have ed : vw (put (put S p (.dct (g.map kE))) q (.lst (ev.map evD))) (.ref p) = .dct (g.map kE) := vw_ref_dct (by rw [put_ne hpq]; exact put_same)
  simp only [z_dSeq, z_dAsg, z_dGet2, z_dVar, List.getElem?_cons_succ, List.getElem?_cons_zero]
  refine ⟨⟨_, ed⟩, ?_⟩
  simp only [ed, keyD, get_kE, getD_optD, z_hName, List.set_cons_succ, List.set_cons_zero]
  have cn := hc
  cases he : eff (g.lookup t) worth with
  | none =>
    rw [tick_none he] at hn
    simp [optD, VL.isNon, hc] at hn ⊢
    exact hn
  | some x =>
    rw [tick_some he] at hn
    cases stands with
    | true =>
      obtain ⟨e0, a, rfl⟩ := sk rfl
      have cl2 : e0.length < sizeLine := by simp at cl; omega
      simp [optD, VL.isNon]
      refine ⟨R, x, rfl, ?_⟩
      cases cr : Wat.rests R.ru x with
      | true =>
        simp [Wat.tk1, cr, Wat.tk2, Wat.shutE, optD, evD] at hn
        simp [put_same, last_ix, last_n, evD, optD, two, vw_pl, vw_tp, at0, put_put, VL.isNon]
        exact hn
      | false =>
        have e1 : Wat.tk2 R.ru t (Wat.tk1 R.ru t x ⟨e0 ++ [(a, none)], since, true, worth⟩) = ⟨e0 ++ [(a, none)], since, true, some x⟩ := by
          cases since <;> simp [Wat.tk1, cr, Wat.tk2]
        rw [e1] at hn
        simp [optD] at hn
        simp
        exact hn
    | false =>
      simp [optD, VL.isNon]
      refine ⟨R, x, rfl, ?_⟩
      have hh : ∀ S', vw S' (ruD R) = .tup [.str R.name, .str R.point, .str (wordS R.ru.up), .int R.ru.lim, .int R.ru.back, .int R.ru.hold, .int R.pri] := fun _ => rfl
      have h5 : atI [D.str R.name, .str R.point, .str (wordS R.ru.up), .int R.ru.lim, .int R.ru.back, .int R.ru.hold, .int R.pri] 5 = some (.int R.ru.hold) := rfl
      cases cr : Wat.beyond R.ru x with
      | false =>
        simp [Wat.tk1, cr, Wat.tk2, optD] at hn
        simp [VL.isNon]
        exact hn
      | true =>
        cases since with
        | none =>
          by_cases c : R.ru.hold ≤ 0
          · simp [Wat.tk1, cr, Wat.tk2, optD, c, evD] at hn
            simp [VL.isNon, hh, h5, c, put_same, put_put, two, cl]
            exact hn
          · simp [Wat.tk1, cr, Wat.tk2, optD, c, evD] at hn
            simp [VL.isNon, hh, h5, c, put_same, put_put, two, cl]
            exact hn
        | some u =>
          by_cases c : R.ru.hold ≤ t - u
          · simp [Wat.tk1, cr, Wat.tk2, optD, c, evD] at hn
            simp [VL.isNon, hh, h5, c, put_same, put_put, two, cl]
            exact hn
          · simp [Wat.tk1, cr, Wat.tk2, optD, c, evD] at hn
            simp [VL.isNon, hh, h5, c, put_same, put_put, two, cl]
            exact hn
def stD (w : Wat.Wt) : D := .tup [.str (stW w.st), stS w.st]
theorem jt_sk {r : Wat.Ru} {T : Int} {w : Wat.Wt} {s : Wat.Tk} (h : Wat.Jt r T w s) : s.stands = true → ∃ e a, s.ev = e ++ [(a, none)] := by
  intro hs
  obtain ⟨⟨h1, h2⟩, _, ok, _⟩ := h
  obtain ⟨ev, st⟩ := w
  cases st with
  | quiet => rw [h2.1] at hs; cases hs
  | waits u => rw [h2.1] at hs; cases hs
  | stands a =>
    obtain ⟨e, he⟩ := ok
    exact ⟨e, a, h1.trans he⟩
theorem tick_len (r : Wat.Ru) (g : Option Int) (t : Int) (s : Wat.Tk) : (Wat.tick r g t s).ev.length ≤ s.ev.length + 1 := by
  have h1 : ∀ x, (Wat.tk1 r t x s).ev.length ≤ s.ev.length := by
    intro x
    unfold Wat.tk1
    split
    · show (Wat.shutE t s.ev).length ≤ _
      unfold Wat.shutE
      split
      · next y e =>
        cases h : s.ev with
        | nil => rw [h] at e; cases e
        | cons y l => simp
      · omega
    · split
      · exact Nat.le_refl _
      · split <;> exact Nat.le_refl _
  have h2 : ∀ s : Wat.Tk, (Wat.tk2 r t s).ev.length ≤ s.ev.length + 1 := by
    intro s
    unfold Wat.tk2
    split
    · split <;> simp
    · omega
  obtain ⟨ev, si, b, wo⟩ := s
  cases he : eff g wo with
  | none => rw [tick_none he]; simp
  | some x =>
    rw [tick_some he]
    exact Nat.le_trans (h2 _) (Nat.succ_le_succ (h1 x))
theorem md_loop2 {Z : EndsD} {S : Sto} {p q : Addr} {R : Rule} {x1 x2 : Option D} {g : Wat.Sgs} (h0 : 0 ≤ R.ru.hold) (hb : 0 ≤ R.ru.back) (hpq : p ≠ q) : ∀ (n : Nat) (T : Int) (w : Wat.Wt) (s : Wat.Tk) (y4 y6 : Option D), Wat.Jt R.ru T w s → s.ev.length + n ≤ 20000 →
    (∀ z4 z6 s', Wat.Jt R.ru (T + n) (Wat.steps R.ru (fun t => g.lookup t) T n w) s' → Z.nx [some (ruD R), x1, x2, some (.ref p), z4, some (optD s'.worth), z6, some (.ref q), some (optD s'.since), some (.bl s'.stands)] (put (put S p (.dct (g.map kE))) q (.lst (s'.ev.map evD)))) →
    dForL (g__law_model_1 K sp_lrests sp_lbeyond) (b__law_model_1 K sp_lrests sp_lbeyond) Z ((Fine.tik (T + 1) n).map D.int) [some (ruD R), x1, x2, some (.ref p), y4, some (optD s.worth), y6, some (.ref q), some (optD s.since), some (.bl s.stands)] (put (put S p (.dct (g.map kE))) q (.lst (s.ev.map evD)))
  | 0, T, w, s, y4, y6, j, hl, h => by
    have := h y4 y6 s
    rw [show T + ((0 : Nat) : Int) = T by omega] at this
    exact this j
  | n + 1, T, w, s, y4, y6, j, hl, h => by
    rw [Fine.tik, List.map_cons]
    show g__law_model_1 K sp_lrests sp_lbeyond _ _ _ _
    rw [u_g__law_model_1]
    simp only [z_hName, List.set_cons_succ, List.set_cons_zero]
    refine md_tick hpq (jt_sk j) (by omega) ?_ rfl
    have tl := tick_len R.ru (g.lookup (T + 1)) (T + 1) s
    refine md_loop2 h0 hb hpq n (T + 1) _ _ _ _ (Wat.jt_step h0 hb j (g.lookup (T + 1))) (by omega) fun z4 z6 s' j' => h z4 z6 s' ?_
    rw [show T + ((n + 1 : Nat) : Int) = T + 1 + n by omega]
    exact j'
theorem goods_filter (rows : List Row) (u : Int) : (goodR rows).filter (fun x => decide (x.1 ≤ u)) = goods rows u := by
  unfold goodR goods
  rw [List.filter_map, List.filter_filter]
  congr 1
  apply List.filter_congr
  intro x _
  simp [Function.comp, Bool.and_comm]
theorem goodR_pw {rows : List Row} (p : rows.Pairwise fun x y => x.1 < y.1) : (goodR rows).Pairwise fun x y => x.1 < y.1 := by
  unfold goodR
  rw [List.pairwise_map]
  exact p.filter _
theorem goodR_mem {rows : List Row} {x : Int × Int} (h : x ∈ goodR rows) : ∃ y ∈ rows, y.1 = x.1 ∧ y.2.1 = x.2 := by
  unfold goodR at h
  obtain ⟨y, hy, e⟩ := List.mem_map.mp h
  exact ⟨y, (List.mem_filter.mp hy).1, by rw [← e], by rw [← e]⟩
theorem ints_app : ∀ (l : List Int), intsD (l.map D.int) = some l
  | [] => rfl
  | i :: l => by rw [List.map_cons, intsD, ints_app l]; rfl
theorem map_app1 (l : List Int) (i : Int) : l.map D.int ++ [D.int i] = (l ++ [i]).map D.int := by simp
theorem goodR_len (rows : List Row) : (goodR rows).length ≤ rows.length := by
  unfold goodR
  rw [List.length_map]
  exact List.length_filter_le _ _
def sp_model : Spd := fun ds S Q _ => ∃ (R : Rule) (rows : List Row) (u : Int) (qs : Addr), ds = [ruD R, .ref qs, .int u] ∧ S qs = some (.lst (rows.map rowD)) ∧ VRu R ∧ VR rows ∧ 0 ≤ u ∧ u ≤ 9999 ∧
  Q (.tup [.lst ((Wat.run R.ru (goods rows u) u).ev.map evD), stD (Wat.run R.ru (goods rows u) u)]) S
theorem ok_model : BodyOk (d__law_model K sp_lrests sp_lbeyond) ["rule", "signs", "till", "worths", "time", "worth", "mark", "found", "since", "stands"] sp_model := by
  rintro _ S Q E ⟨R, rows, u, qs, rfl, hqs, vr, ⟨v1, v2, v3⟩, u0, u1, h⟩
  obtain ⟨_, _, _, _, b0, _, o0, _, _, _⟩ := vr
  simp [d__law_model, startD]
  intro p hp
  have hqp : qs ≠ p := fun e => by rw [e, hp] at hqs; cases hqs
  rw [put_ne hqp, hqs]
  simp only []
  refine md_loop1 hqs hqp rows [] _ _ _ v2 (fun x hx => by cases hx) (by simp; omega) fun z4 z5 z6 => ?_
  rw [List.nil_append]
  have gl := goodR_len rows
  have gm : ∀ x ∈ goodR rows, 0 ≤ x.1 := fun x hx => by
    obtain ⟨y, hy, e, _⟩ := goodR_mem hx
    rw [← e]
    exact (v1 y hy).1
  have gp := goodR_pw v2
  rw [← goods_filter] at h
  generalize hg : goodR rows = g at gl gm gp h
  simp [zero_le]
  intro q hq
  have hpq : p ≠ q := fun e => by rw [e, put_same] at hq; cases hq
  have hq0 : S q = none := by rw [put_ne (Ne.symm hpq)] at hq; exact hq
  have ed : ∀ l : List D, vw (put (put S p (.dct (g.map kE))) q (.lst l)) (.ref p) = .dct (g.map kE) := fun l => vw_ref_dct (by rw [put_ne hpq]; exact put_same)
  have s1 : g.length ≤ sizeLine := sz (by omega)
  have s2 : g.length + 1 ≤ sizeLine := sz (by omega)
  simp only [ed, kints_kE, vw_lst, List.length_map, List.length_cons, List.length_nil]
  refine ⟨one_le, s1, one_le, s2, ?_⟩
  simp only [map_app1, ints_app]
  refine ⟨by simp, (fun m hm hmin => ?_)⟩
  have mu : m ≤ u := hmin u (by simp)
  have m0 : 0 ≤ m := by
    rcases List.mem_append.mp hm with z | z
    · obtain ⟨x, hx, e⟩ := List.mem_map.mp z
      rw [← e]; exact gm x hx
    · simp at z; omega
  have mg : ∀ x ∈ g, m ≤ x.1 := fun x hx => hmin x.1 (List.mem_append_left _ (List.mem_map_of_mem (f := (·.1)) hx))
  refine ⟨by omega, ?_⟩
  rw [Fine.rangeD_tik]
  have e1 : Fine.tik m (u + 1 - m).toNat = Fine.tik (m - 1 + 1) (u + 1 - m).toNat := by rw [show m - 1 + 1 = m by omega]
  rw [e1]
  refine md_loop2 (S := S) (g := g) o0 b0 hpq (u + 1 - m).toNat (m - 1) Wat.start Wat.tk0 _ _ (Wat.jt_start _ _) (by show 0 + _ ≤ 20000; omega) fun z4 z6 s' j => ?_
  rw [Wat.steps_start (u := u) gp mg (fun t => rfl) (by omega)] at j
  generalize Wat.run R.ru (g.filter fun x => decide (x.1 ≤ u)) u = w at j h
  have sb : Sub S (put S p (.dct (g.map kE))) := sub_put hp
  have fi : ∀ d, Q d S → fin Q d (put S p (.dct (g.map kE))) := fun d hd => ⟨S, sb, hd⟩
  have er : ∀ l : List D, era (put (put S p (.dct (g.map kE))) q (.lst l)) q = put S p (.dct (g.map kE)) := fun l => era_put (by rw [put_ne (Ne.symm hpq)]; exact hq0)
  obtain ⟨⟨h1, h2⟩, _, ok, _⟩ := j
  obtain ⟨ev, since, stands, worth⟩ := s'
  obtain ⟨ev', st⟩ := w
  simp only at h1
  subst h1
  cases st with
  | quiet =>
    obtain ⟨h3, h4⟩ := h2
    simp only at h3 h4
    subst h3 h4
    simp [put_same, er, optD, VL.isNon, two]
    exact fi _ h
  | waits a =>
    obtain ⟨h3, h4⟩ := h2
    simp only at h3 h4
    subst h3 h4
    simp [put_same, er, optD, VL.isNon, two]
    exact fi _ h
  | stands a =>
    simp only at h2
    subst h2
    obtain ⟨e, he⟩ := ok
    simp only at he
    subst he
    simp [put_same, er, optD, VL.isNon, two, last_ix, evD, at0, vw_tp]
    simp [evD, optD, stD, stW, stS] at h
    exact fi _ h
end K30

/-! watches compared: plain data without truths. -/
namespace K30
open PySem PySem.Spec PyProof.Rows L2 VL Fine
variable {K : PySem.W.Frag}
mutual
def nb : PyData → Bool
  | .none => true
  | .bool _ => false
  | .int _ => true
  | .str _ => true
  | .list xs => nbs xs
  | .tuple xs => nbs xs
  | .dict _ => false
def nbs : List PyData → Bool
  | [] => true
  | x :: xs => nb x && nbs xs
end
mutual
theorem eqv_iff : ∀ (p q : PyData), nb p = true → nb q = true → (PyData.eqv p q = true ↔ p = q)
  | .none, .none, _, _ => by simp [PyData.eqv]
  | .int i, .int j, _, _ => by simp [PyData.eqv]
  | .str i, .str j, _, _ => by simp [PyData.eqv]
  | .list xs, .list ys, h, g => by
    rw [PyData.eqv, eqvs_iff xs ys (by rw [nb] at h; exact h) (by rw [nb] at g; exact g)]
    simp
  | .tuple xs, .tuple ys, h, g => by
    rw [PyData.eqv, eqvs_iff xs ys (by rw [nb] at h; exact h) (by rw [nb] at g; exact g)]
    simp
  | .none, .int _, _, _ | .none, .str _, _, _ | .none, .list _, _, _ | .none, .tuple _, _, _ => by simp [PyData.eqv]
  | .int _, .none, _, _ | .int _, .str _, _, _ | .int _, .list _, _, _ | .int _, .tuple _, _, _ => by simp [PyData.eqv]
  | .str _, .none, _, _ | .str _, .int _, _, _ | .str _, .list _, _, _ | .str _, .tuple _, _, _ => by simp [PyData.eqv]
  | .list _, .none, _, _ | .list _, .int _, _, _ | .list _, .str _, _, _ | .list _, .tuple _, _, _ => by simp [PyData.eqv]
  | .tuple _, .none, _, _ | .tuple _, .int _, _, _ | .tuple _, .str _, _, _ | .tuple _, .list _, _, _ => by simp [PyData.eqv]
  | .bool _, _, h, _ => by simp [nb] at h
  | .dict _, _, h, _ => by simp [nb] at h
  | .none, .bool _, _, g | .int _, .bool _, _, g | .str _, .bool _, _, g | .list _, .bool _, _, g | .tuple _, .bool _, _, g => by simp [nb] at g
  | .none, .dict _, _, g | .int _, .dict _, _, g | .str _, .dict _, _, g | .list _, .dict _, _, g | .tuple _, .dict _, _, g => by simp [nb] at g
theorem eqvs_iff : ∀ (p q : List PyData), nbs p = true → nbs q = true → (PyData.eqvAll p q = true ↔ p = q)
  | [], [], _, _ => by simp [PyData.eqvAll]
  | [], _ :: _, _, _ => by simp [PyData.eqvAll]
  | _ :: _, [], _, _ => by simp [PyData.eqvAll]
  | x :: xs, y :: ys, h, g => by
    rw [nbs, Bool.and_eq_true] at h g
    rw [PyData.eqvAll, Bool.and_eq_true, eqv_iff x y h.1 g.1, eqvs_iff xs ys h.2 g.2]
    simp
end
mutual
theorem toP_inj : ∀ (d e : D) (p : PyData), toP d = some p → toP e = some p → d = e
  | .non, e, p, h, g => by
    rw [toP] at h; cases h
    cases e <;> simp [toP] at g ⊢
  | .bl b, e, p, h, g => by
    rw [toP] at h; cases h
    cases e <;> simp [toP] at g ⊢
    exact g.symm
  | .int i, e, p, h, g => by
    rw [toP] at h; cases h
    cases e <;> simp [toP] at g ⊢
    exact g.symm
  | .str s, e, p, h, g => by
    rw [toP] at h; cases h
    cases e <;> simp [toP] at g ⊢
    exact g.symm
  | .tup ds, e, p, h, g => by
    rw [toP] at h
    obtain ⟨ps, h1, h2⟩ := Option.map_eq_some_iff.mp h
    subst h2
    cases e <;> simp [toP] at g ⊢
    exact toPs_inj _ _ _ h1 g
  | .lst ds, e, p, h, g => by
    rw [toP] at h
    obtain ⟨ps, h1, h2⟩ := Option.map_eq_some_iff.mp h
    subst h2
    cases e <;> simp [toP] at g ⊢
    exact toPs_inj _ _ _ h1 g
  | .ty _, e, p, h, g => by rw [toP] at h; cases h
  | .ref _, e, p, h, g => by rw [toP] at h; cases h
  | .dct _, e, p, h, g => by rw [toP] at h; cases h
  | .exc _ _ _ _, e, p, h, g => by rw [toP] at h; cases h
theorem toPs_inj : ∀ (d e : List D) (p : List PyData), toPs d = some p → toPs e = some p → d = e
  | [], [], _, _, _ => rfl
  | [], y :: ys, p, h, g => by
    rw [toPs] at h; cases h
    rw [toPs] at g
    cases e1 : toP y with
    | none => rw [e1] at g; cases g
    | some q => cases e2 : toPs ys with
      | none => rw [e1, e2] at g; cases g
      | some qs => rw [e1, e2] at g; cases g
  | x :: xs, e, p, h, g => by
    rw [toPs] at h
    cases e1 : toP x with
    | none => rw [e1] at h; cases h
    | some q => cases e2 : toPs xs with
      | none => rw [e1, e2] at h; cases h
      | some qs =>
        rw [e1, e2] at h
        cases h
        cases e with
        | nil => rw [toPs] at g; cases g
        | cons y ys =>
          rw [toPs] at g
          cases e3 : toP y with
          | none => rw [e3] at g; cases g
          | some q' => cases e4 : toPs ys with
            | none => rw [e3, e4] at g; cases g
            | some qs' =>
              rw [e3, e4] at g
              cases g
              rw [toP_inj x y _ e1 e3, toPs_inj xs ys _ e2 e4]
end
/-- plain data without truths, of small depth -/
structure Pq (d : D) (k : Nat) : Prop where
  ex : ∃ p, toP d = some p ∧ p.canLay0 = true ∧ p.depth ≤ k ∧ nb p = true
theorem pq_non {k : Nat} : Pq .non k := ⟨⟨_, rfl, rfl, Nat.zero_le _, rfl⟩⟩
theorem pq_int {k : Nat} {i : Int} : Pq (.int i) k := ⟨⟨_, rfl, rfl, Nat.zero_le _, rfl⟩⟩
theorem pq_str {k : Nat} {s : Str} (h : (PyData.str s).canLay0 = true) : Pq (.str s) k := ⟨⟨_, rfl, h, Nat.zero_le _, rfl⟩⟩
theorem pqs : ∀ {ds : List D} {k : Nat}, (∀ d ∈ ds, Pq d k) → ∃ ps, toPs ds = some ps ∧ PyData.canLayAll0 ps = true ∧ PyData.depthAll ps ≤ k ∧ nbs ps = true
  | [], k, _ => ⟨[], rfl, rfl, Nat.zero_le _, rfl⟩
  | d :: ds, k, h => by
    obtain ⟨p, h1, h2, h3, h4⟩ := (h d (List.mem_cons_self ..)).ex
    obtain ⟨ps, g1, g2, g3, g4⟩ := pqs (ds := ds) fun x hx => h x (List.mem_cons_of_mem _ hx)
    refine ⟨p :: ps, by rw [toPs, h1, g1], by rw [PyData.canLayAll0, h2, g2]; rfl, by rw [PyData.depthAll]; exact Nat.max_le.mpr ⟨h3, g3⟩, by rw [nbs, h4, g4]; rfl⟩
theorem pq_tup {ds : List D} {k : Nat} (h : ∀ d ∈ ds, Pq d k) : Pq (.tup ds) (k + 1) := by
  obtain ⟨ps, g1, g2, g3, g4⟩ := pqs h
  exact ⟨⟨_, by rw [toP, g1]; rfl, by rw [PyData.canLay0]; exact g2, by rw [PyData.depth]; exact Nat.succ_le_succ g3, by rw [nb]; exact g4⟩⟩
theorem pq_lst {ds : List D} {k : Nat} (h : ∀ d ∈ ds, Pq d k) : Pq (.lst ds) (k + 1) := by
  obtain ⟨ps, g1, g2, g3, g4⟩ := pqs h
  exact ⟨⟨_, by rw [toP, g1]; rfl, by rw [PyData.canLay0]; exact g2, by rw [PyData.depth]; exact Nat.succ_le_succ g3, by rw [nb]; exact g4⟩⟩
theorem Pq.up {d : D} {k k' : Nat} (h : Pq d k) (hk : k ≤ k') : Pq d k' := by
  obtain ⟨p, h1, h2, h3, h4⟩ := h.ex
  exact ⟨⟨p, h1, h2, Nat.le_trans h3 hk, h4⟩⟩
/-- == of such lists and tuples -/
theorem eqG_pq {g : Bool → Bool} {x y : D} {S : Sto} {Q : QD} {k : Nat} (hx : Pq x k) (hy : Pq y k) (hk : k ≤ 64) (vx : vw S x = x) (vy : vw S y = y) (lx : ∀ i, x ≠ .int i) (sx : ∀ s, x ≠ .str s) (bx : ∀ b, x ≠ .bl b)
    (q : ∀ b, (b = true ↔ x = y) → Q (.bl (g b)) S) : dEqG g x y S Q := by
  obtain ⟨p1, h1, h2, h3, h4⟩ := hx.ex
  obtain ⟨p2, g1, g2, g3, g4⟩ := hy.ex
  refine eqG_of (p := p1) (q := p2) (by rw [vx]; exact h1) (by rw [vy]; exact g1) (fun b hb => ?_) ?_ ?_ (fun i j e => by rw [vx] at e; exact absurd e (lx i)) (fun i j e => by rw [vx] at e; exact absurd e (sx i)) (fun i j e => by rw [vx] at e; exact absurd e (bx i))
  · subst hb
    refine q _ ?_
    rw [eqv_iff p1 p2 h4 g4]
    constructor
    · rintro rfl; exact toP_inj _ _ _ h1 g1
    · rintro rfl; rw [h1] at g1; cases g1; rfl
  · show (p1.canLay0 && decide (p1.depth ≤ 64)) = true
    rw [h2, decide_eq_true (Nat.le_trans h3 hk)]; rfl
  · show (p2.canLay0 && decide (p2.depth ≤ 64)) = true
    rw [g2, decide_eq_true (Nat.le_trans g3 hk)]; rfl
/-! ### what a watch has -/
def marksL (R : Rule) (w : Wat.Wt) (lw lt : Option Int) : List D := [ruD R, .lst (w.ev.map evD), stD w, optD lw, optD lt]
theorem pq_opt {o : Option Int} {k : Nat} : Pq (optD o) k := by
  cases o with
  | none => exact pq_non
  | some i => exact pq_int
theorem pq_name {s : Str} (h : Nm s) {k : Nat} : Pq (.str s) k := by
  rcases h with rfl | rfl | rfl | rfl <;> exact pq_str (by decide +kernel)
theorem pq_ru {R : Rule} (h : VRu R) : Pq (ruD R) 1 := pq_tup fun d hd => by
  obtain ⟨h1, h2, _⟩ := h
  simp at hd
  rcases hd with rfl | rfl | rfl | rfl | rfl | rfl | rfl
  · exact pq_name h1
  · exact pq_name h2
  · cases R.ru.up <;> exact pq_str (by decide +kernel)
  · exact pq_int
  · exact pq_int
  · exact pq_int
  · exact pq_int
theorem pq_st (w : Wat.Wt) : Pq (stD w) 1 := pq_tup fun d hd => by
  obtain ⟨ev, st⟩ := w
  simp at hd
  rcases hd with rfl | rfl
  · cases st
    · exact pq_str (s := "quiet") (by decide +kernel)
    · exact pq_str (s := "waits") (by decide +kernel)
    · exact pq_str (s := "stands") (by decide +kernel)
  · cases st
    · exact pq_non
    · exact pq_int
    · exact pq_int
theorem pq_evs (ev : Wat.Ev) : Pq (.lst (ev.map evD)) 2 := pq_lst fun d hd => by
  obtain ⟨x, _, rfl⟩ := List.mem_map.mp hd
  refine pq_tup fun z hz => ?_
  simp at hz
  rcases hz with rfl | rfl
  · exact pq_int
  · exact pq_opt
theorem pq_marks {R : Rule} (h : VRu R) (w : Wat.Wt) (lw lt : Option Int) : ∀ d ∈ marksL R w lw lt, Pq d 2 := fun d hd => by
  simp [marksL] at hd
  rcases hd with rfl | rfl | rfl | rfl | rfl
  · exact (pq_ru h).up (by decide)
  · exact pq_evs _
  · exact (pq_st w).up (by decide)
  · exact pq_opt
  · exact pq_opt
end K30

/-! watches: what one has, ==, a copy, its text. -/
namespace K30
open PySem PySem.Spec PyProof.Rows L2 VL Fine
variable {K : PySem.W.Frag}
theorem no_marks {r e w s lw lt : D} : (flds r e w s lw lt).lookup ("marks_told" : Str) = none := rfl
theorem no_copied {r e w s lw lt : D} : (flds r e w s lw lt).lookup ("copied" : Str) = none := rfl
theorem pg_events {r e w s lw lt v : D} : putG "own_events" v (flds r e w s lw lt) = flds r v w s lw lt := rfl
def sp_marks (K : PySem.W.Frag) : Spd := fun ds S Q _ => ∃ (a e : Addr) (R : Rule) (w : Wat.Wt) (lw lt : Option Int), ds = [.ref a] ∧ Wa K S a e R w lw lt ∧ Q (.tup (marksL R w lw lt)) S
theorem ok_marks : BodyOk (d_Watch_marks_told K (sp_state K) (sp_events K)) ["self"] (sp_marks K) := by
  rintro _ S Q E ⟨a, e, R, w, lw, lt, rfl, hw, h⟩
  have hi := hw.i
  unfold wO at hi
  simp [-List.lookup_eq_none_iff, d_Watch_marks_told, startD, hi, lk_rule, no_events]
  refine ⟨a, e, R, w, lw, lt, rfl, hw, fun p hp => frz_new hp ?_⟩
  simp [-List.lookup_eq_none_iff, hi, no_state]
  refine ⟨a, e, R, w, lw, lt, rfl, hw, ?_⟩
  simp [-List.lookup_eq_none_iff, hi, lk_worth, lk_time, five]
  exact fin_now h
def sp_eq (K : PySem.W.Frag) : Spd := fun ds S Q _ => ∃ (a e : Addr) (R : Rule) (w : Wat.Wt) (lw lt : Option Int) (y : D), ds = [.ref a, y] ∧ Wa K S a e R w lw lt ∧ VRu R ∧
  ((∃ (b e' : Addr) (R' : Rule) (w' : Wat.Wt) (lw' lt' : Option Int), y = .ref b ∧ Wa K S b e' R' w' lw' lt' ∧ VRu R' ∧ ∀ t, (t = true ↔ marksL R w lw lt = marksL R' w' lw' lt') → Q (.bl t) S) ∨ ((tyN (vw S y)).isSome = true ∧ Q (.bl false) S))
theorem vw_ins {S : Sto} {a C : Addr} {fs : List (Str × D)} (h : S a = some (.ins C fs)) : vw S (.ref a) = .ref a := by
  rcases vw_ref (S := S) (a := a) with ⟨es, h1, h2⟩ | ⟨es, h1, h2⟩ | h2
  · rw [h] at h1; cases h1
  · rw [h] at h1; cases h1
  · exact h2
theorem ok_eq : BodyOk (d_Watch___eq__ K (sp_marks K)) ["self", "other"] (sp_eq K) := by
  rintro _ S Q E ⟨a, e, R, w, lw, lt, y, rfl, hw, vr, h⟩
  have hi := hw.i
  unfold wO at hi
  rcases h with ⟨b, e', R', w', lw', lt', rfl, hw', vr', h⟩ | ⟨ht, h⟩
  · have hi' := hw'.i
    unfold wO at hi'
    have vb := vw_ins hi'
    simp [-List.lookup_eq_none_iff, d_Watch___eq__, startD, vb, tyN, hi', hi, no_marks]
    refine ⟨a, e, R, w, lw, lt, rfl, hw, ?_⟩
    simp [-List.lookup_eq_none_iff, hi', no_marks]
    refine ⟨b, e', R', w', lw', lt', rfl, hw', ?_⟩
    refine eqG_pq (k := 3) (pq_tup (pq_marks vr w lw lt)) (pq_tup (pq_marks vr' w' lw' lt')) (by decide) rfl rfl (fun _ z => by cases z) (fun _ z => by cases z) (fun _ z => by cases z) fun t ht => fin_now (h t ?_)
    rw [ht]; simp
  · cases et : tyN (vw S y) with
    | none => rw [et] at ht; cases ht
    | some t =>
      simp [d_Watch___eq__, startD, et]
      exact fin_now h
def sp_copied (K : PySem.W.Frag) : Spd := fun ds S Q _ => ∃ (a e : Addr) (R : Rule) (w : Wat.Wt) (lw lt : Option Int), ds = [.ref a] ∧ Wa K S a e R w lw lt ∧ VRu R ∧
  ∀ a' e' S', Wa K S' a' e' R w lw lt → S a' = none → S e' = none → Kp a' e' S S' → Q (.ref a') S'
theorem ok_copied : BodyOk (d_Watch_copied K (sp_events K) (sp_state K) (sp_init K)) ["self", "other"] (sp_copied K) := by
  rintro _ S Q E ⟨a, e, R, w, lw, lt, rfl, hw, vr, h⟩
  have hi := hw.i
  unfold wO at hi
  simp [-List.lookup_eq_none_iff, d_Watch_copied, startD, hi, lk_rule]
  intro x hx
  refine ⟨x, R, rfl, put_same, vr, fun e0 S1 hw0 he k1 => ⟨rfl, ?_⟩⟩
  have xa : a ≠ x := fun z => by rw [z, hx] at hi; cases hi
  have he0 : S e0 = none := by rw [put_ne (Ne.symm hw0.n)] at he; exact he
  have ae : a ≠ e0 := fun z => by rw [z, he0] at hi; cases hi
  have ex : e ≠ x := fun z => by have := hw.l; rw [z, hx] at this; cases this
  have ee : e ≠ e0 := fun z => by have := hw.l; rw [z, he0] at this; cases this
  have keep : ∀ b, b ≠ x → b ≠ e0 → S b = none ∨ S1 b = S b := fun b h1 h2 => by
    rcases k1 b h1 h2 with q | q
    · rw [put_ne h1] at q; exact .inl q
    · rw [put_ne h1] at q; exact .inr q.symm
  have hw1 : Wa K S1 a e R w lw lt := by
    refine ⟨?_, ?_, hw.n, hw.ok⟩
    · rcases keep a xa ae with q | q
      · rw [q] at hi; cases hi
      · rw [q]; exact hw.i
    · rcases keep e ex ee with q | q
      · have := hw.l; rw [q] at this; cases this
      · rw [q]; exact hw.l
  have hi1 := hw1.i
  unfold wO at hi1
  have hx1 := hw0.i
  unfold wO at hx1
  simp [-List.lookup_eq_none_iff, hi1, no_events]
  refine ⟨a, e, R, w, lw, lt, rfl, hw1, fun p hp => ?_⟩
  have px : p ≠ x := fun z => by rw [z, hx1] at hp; cases hp
  have pa : p ≠ a := fun z => by rw [z, hi1] at hp; cases hp
  have pe : p ≠ e := fun z => by rw [z, hw1.l] at hp; cases hp
  have xp : x ≠ p := Ne.symm px
  simp [-List.lookup_eq_none_iff, put_ne xp, hx1, fl_len, pg_events]
  have hw2 : ∀ o, Wa K (put (put S1 p (.lst (w.ev.map evD))) x o) a e R w lw lt := fun o => ⟨by rw [put_ne xa, put_ne (Ne.symm pa)]; exact hw1.i, by rw [put_ne ex, put_ne (Ne.symm pe)]; exact hw1.l, hw1.n, hw1.ok⟩
  have hi2 := fun o => (hw2 o).i
  unfold wO at hi2
  simp [-List.lookup_eq_none_iff, hi2, no_state]
  refine ⟨a, e, R, w, lw, lt, rfl, hw2 _, ?_⟩
  simp [-List.lookup_eq_none_iff, vw_tp, put_same, put_put, fl_len, pg_word, pg_since, hi2, lk_worth, lk_time, two, pg_worth, pg_time]
  have hp0 : S p = none := by
    by_cases z : p = e0
    · rw [z]; exact he0
    · rcases keep p px z with q | q
      · exact q
      · rw [← q]; exact hp
  refine fin_now (h x p _ ⟨put_same, by rw [put_ne px, put_same]; rfl, xp, hw.ok⟩ hx hp0 fun b h1 h2 => ?_)
  rw [put_ne h1, put_ne h2]
  by_cases z : b = e0
  · subst z; exact .inl he0
  · rcases keep b h1 z with q | q
    · exact .inl q
    · exact .inr q.symm
end K30

/-! watches: its text; how it stands by the law's own walk. -/
namespace K30
open PySem PySem.Spec PyProof.Rows L2 VL Fine
variable {K : PySem.W.Frag}
theorem nm_len {s : Str} (h : Nm s) : s.length = 1 := by
  rcases h with rfl | rfl | rfl | rfl <;> decide +kernel
theorem tame_st {w : Wat.Wt} (h : ∀ s, stS w.st = .int s → s.natAbs ≤ 100000) : ∃ p, Tame (stD w) p 1 20 := by
  obtain ⟨ev, st⟩ := w
  cases st with
  | quiet => exact ⟨_, tame_tup (b := 6) (tames_cons (tame_str (x := "quiet") (by decide +kernel) (by decide +kernel) (by decide +kernel)) (tames_cons (⟨rfl, rfl, Nat.le_refl _, rfl, rfl, by decide⟩) tames_nil)) (by show 2 * 7 ≤ 20; decide)⟩
  | waits s => exact ⟨_, tame_tup (b := 6) (tames_cons (tame_str (x := "waits") (by decide +kernel) (by decide +kernel) (by decide +kernel)) (tames_cons ((tame_int (by have := h s rfl; omega)).up (Nat.le_refl _) (by decide)) tames_nil)) (by show 2 * 7 ≤ 20; decide)⟩
  | stands s => exact ⟨_, tame_tup (b := 6) (tames_cons (tame_str (x := "stands") (by decide +kernel) (by decide +kernel) (by decide +kernel)) (tames_cons ((tame_int (by have := h s rfl; omega)).up (Nat.le_refl _) (by decide)) tames_nil)) (by show 2 * 7 ≤ 20; decide)⟩
def sp_repr (K : PySem.W.Frag) : Spd := fun ds S Q _ => ∃ (a e : Addr) (R : Rule) (w : Wat.Wt) (lw lt : Option Int), ds = [.ref a] ∧ Wa K S a e R w lw lt ∧ VRu R ∧ (∀ s, stS w.st = .int s → s.natAbs ≤ 100000) ∧ ∀ z : Str, Q (.str z) S
theorem ok_repr : BodyOk (d_Watch___repr__ K (sp_state K)) ["self"] (sp_repr K) := by
  rintro _ S Q E ⟨a, e, R, w, lw, lt, rfl, hw, vr, hb, h⟩
  have hi := hw.i
  unfold wO at hi
  obtain ⟨p, tp⟩ := tame_st hb
  have sh := PyData.shown_le_bulk 13 (by decide) p tp.leaf
  have sb := tp.bulk
  have nl := nm_len vr.1
  have zl := sizeLine_eq
  have e1 : (Str.empty ++ ("<watch " : Str)).length = 7 := by decide +kernel
  have e2 : (" " : Str).length = 1 := by decide +kernel
  have e3 : (">" : Str).length = 1 := by decide +kernel
  simp only [d_Watch___repr__, startD, z_dRet, z_dFstr, z_dJs, z_dJs0, z_dC, z_dFmt, z_dOp, z_dFld, z_dVar, List.getElem?_cons_zero]
  refine ⟨by rw [e1]; omega, ?_⟩
  simp [-List.lookup_eq_none_iff, hi, lk_rule, vw_ru, atI, ixN, no_state]
  have l1 : (Str.empty ++ ("<watch " : Str) ++ R.name).length = 8 := by rw [strLen_append, e1, nl]
  have l2 : (Str.empty ++ ("<watch " : Str) ++ R.name ++ (" " : Str)).length = 9 := by rw [strLen_append, l1, e2]
  refine ⟨by omega, by rw [l1]; omega, by rw [l2]; omega, a, e, R, w, lw, lt, rfl, hw, ?_⟩
  have ti := tp.is
  unfold stD at ti
  simp only [vw_tp, ti]
  obtain ⟨s1, s2, s3⟩ := tp.shows (by decide) (by decide)
  refine ⟨s1, s2, s3, by rw [strLen_append, l2]; omega, by rw [strLen_append, strLen_append, l2, e3]; omega, fin_now (h _)⟩
theorem tame_mark (m : Bool) : Tame (.str (markS m)) (.str (markS m)) 0 4 := by cases m <;> exact tame_str (by decide +kernel) (by decide +kernel) (by decide +kernel)
theorem tame_row {x : Row} (h : VRow x) : ∃ p, Tame (rowD x) p 1 15 := by
  obtain ⟨h1, h2, h3, h4⟩ := h
  exact ⟨_, tame_tup (b := 4) (tames_cons ((tame_int (by omega)).up (Nat.le_refl _) (by decide)) (tames_cons ((tame_int (by omega)).up (Nat.le_refl _) (by decide)) (tames_cons (tame_mark _) tames_nil))) (by show 3 * 5 ≤ 15; decide)⟩
theorem tame_rows {rows : List Row} (v : VR rows) : ∃ p, Tame (.lst (rows.map rowD)) p 2 16000 := by
  obtain ⟨ps, h⟩ := tames_map (f := rowD) (l := rows) fun x hx => tame_row (v.1 x hx)
  have := v.2.2
  exact ⟨_, tame_lst h (by simp; omega)⟩
theorem eqG_nilv {g : Bool → Bool} {x : D} {ds : List D} {S : Sto} {Q : QD} {p : PyData} {k b : Nat} (hx : vw S x = .lst ds) (h : Tame (.lst ds) p k b) (hk : k ≤ 64) (q : Q (.bl (g (decide (ds = [])))) S) : dEqG g x (.lst []) S Q := by
  refine eqG_of (p := p) (q := .list []) (by rw [hx]; exact h.is) rfl (fun c hc => ?_) (h.shaped hk) rfl (fun _ _ z => by rw [hx] at z; cases z) (fun _ _ z => by rw [hx] at z; cases z) (fun _ _ z => by rw [hx] at z; cases z)
  subst hc
  have e : PyData.eqv p (.list []) = decide (ds = []) := by
    have hi := h.is
    cases ds with
    | nil => rw [toP, toPs] at hi; cases hi; rfl
    | cons d ds =>
      rw [toP, toPs] at hi
      cases e1 : toP d with
      | none => rw [e1] at hi; cases hi
      | some p1 =>
        cases e2 : toPs ds with
        | none => rw [e1, e2] at hi; cases hi
        | some p2 => rw [e1, e2] at hi; cases hi; simp [PyData.eqv, PyData.eqvAll]
  rw [e]; exact q
/-! ### how it stands -/
abbrev wat (R : Rule) (rows : List Row) (u : Int) : Wat.Wt := Wat.run R.ru (goods rows u) u
/-- the watch by what it heard -/
def watL (R : Rule) (rows : List Row) : Option Int → Wat.Wt
  | none => Wat.start
  | some t => wat R rows t
def lastW (rows : List Row) : Option Int := rows.getLast?.map fun x => x.2.1
def sp_stands : Spd := fun ds S Q _ => ∃ (b a q : Addr) (R : Rule) (rows : List Row) (lt : Option Int), ds = [.ref b] ∧ S b = some (.lst [.ref a, ruD R, .ref q, optD lt]) ∧ S q = some (.lst (rows.map rowD)) ∧ VRu R ∧ VR rows ∧ (lt = none → rows = []) ∧ (∀ t, lt = some t → 0 ≤ t ∧ t ≤ 9999) ∧
  Q (.lst (marksL R (watL R rows lt) (lastW rows) lt)) S
theorem ok_stands : BodyOk (d__law_stands K sp_model) ["box", "watch", "rule", "signs", "last", "found", "state"] sp_stands := by
  rintro _ S Q E ⟨b, a, q, R, rows, lt, rfl, hb, hq, vr, v, hn, ht, h⟩
  have vb : vw S (.ref b) = .lst [.ref a, ruD R, .ref q, optD lt] := vw_ref_lst hb
  have vq : vw S (.ref q) = .lst (rows.map rowD) := vw_ref_lst hq
  cases lt with
  | none =>
    have := hn rfl
    subst this
    simp [d__law_stands, startD, vb, optD, VL.isNon, zero_le, two, five]
    exact fin_now h
  | some t =>
    obtain ⟨t0, t1⟩ := ht t rfl
    obtain ⟨pr, tr⟩ := tame_rows v
    simp [d__law_stands, startD, vb, optD, VL.isNon]
    refine ⟨R, rows, t, q, rfl, hq, vr, v, t0, t1, ?_⟩
    simp [vw_tp, zero_le]
    refine eqG_nilv vq tr (by decide) ?_
    by_cases c : rows = []
    · subst c
      simp [five]
      exact fin_now h
    · obtain ⟨l0, x, rfl⟩ : ∃ l0 x, rows = l0 ++ [x] := ⟨rows.dropLast, rows.getLast c, (List.dropLast_concat_getLast c).symm⟩
      simp [vq, last_ix, rowD, vw_tp, five]
      have e1 : ∀ x y z : D, atI [x, y, z] 1 = some y := fun _ _ _ => rfl
      simp [e1]
      have hl : lastW (l0 ++ [x]) = some x.2.1 := by unfold lastW; simp
      rw [hl] at h
      exact fin_now h
end K30

/-! watches: several side by side. -/
namespace K30
open PySem PySem.Spec PyProof.Rows L2 VL Fine
variable {K : PySem.W.Frag}
/-- all but X is kept -/
def Ke (X : List Addr) (S S' : Sto) : Prop := ∀ p, p ∉ X → S p = none ∨ S' p = S p
theorem Ke.refl {X : List Addr} {S : Sto} : Ke X S S := fun _ _ => .inr rfl
theorem Ke.trans {X Y : List Addr} {S T U : Sto} (h : Ke X S T) (g : Ke Y T U) (hy : ∀ y ∈ Y, y ∈ X ∨ S y = none) : Ke X S U := fun p hp => by
  by_cases c : p ∈ Y
  · rcases hy p c with q | q
    · exact absurd q hp
    · exact .inl q
  · rcases h p hp with q | q
    · exact .inl q
    · rcases g p c with z | z
      · exact .inl (q.symm.trans z)
      · exact .inr (z.trans q)
theorem Kp.ke {a e : Addr} {S T : Sto} (h : Kp a e S T) : Ke [a, e] S T := fun p hp => by
  simp at hp
  rcases h p hp.1 hp.2 with q | q
  · exact .inl q
  · exact .inr q.symm
theorem Ke.at_ {X : List Addr} {S T : Sto} (h : Ke X S T) {p : Addr} {o : O} (hp : S p = some o) (hn : p ∉ X) : T p = some o := by
  rcases h p hn with q | q
  · rw [q] at hp; cases hp
  · rw [q]; exact hp
theorem Ke.put {X : List Addr} {S T : Sto} (h : Ke X S T) {p : Addr} {o : O} (hp : p ∈ X) : Ke X S (put T p o) := fun b hb => by
  have : b ≠ p := fun e => hb (by rw [e]; exact hp)
  rw [put_ne this]; exact h b hb
theorem Wa.kept {S T : Sto} {a e : Addr} {R : Rule} {w : Wat.Wt} {lw lt : Option Int} {X : List Addr} (h : Wa K S a e R w lw lt) (k : Ke X S T) (ha : a ∉ X) (he : e ∉ X) : Wa K T a e R w lw lt := ⟨k.at_ h.i ha, k.at_ h.l he, h.n, h.ok⟩
structure Bx where
  b : Addr
  a : Addr
  e : Addr
  q : Addr
  R : Rule
  rows : List Row
  lt : Option Int
def adr (x : Bx) : List Addr := [x.b, x.a, x.e, x.q]
def boxL (x : Bx) : List D := [.ref x.a, ruD x.R, .ref x.q, optD x.lt]
structure BxOk (K : PySem.W.Frag) (S : Sto) (x : Bx) (N : Nat) : Prop where
  hb : S x.b = some (.lst (boxL x))
  hq : S x.q = some (.lst (x.rows.map rowD))
  hw : Wa K S x.a x.e x.R (watL x.R x.rows x.lt) (lastW x.rows) x.lt
  vr : VRu x.R
  v : (∀ y ∈ x.rows, VRow y ∧ y.2.2 = true) ∧ x.rows.Pairwise (fun x y => x.1 < y.1) ∧ x.rows.length ≤ N
  le : ∀ t, x.lt = some t → 0 ≤ t ∧ t ≤ 100 * (N : Int) ∧ ∀ y ∈ x.rows, y.1 ≤ t
  nn : x.lt = none → x.rows = []
theorem BxOk.vr_rows {S : Sto} {x : Bx} {N : Nat} (h : BxOk K S x N) (hN : N ≤ 40) : VR x.rows := ⟨fun y hy => (h.v.1 y hy).1, h.v.2.1, by have := h.v.2.2; omega⟩
theorem BxOk.kept {S T : Sto} {x : Bx} {N M : Nat} {X : List Addr} (h : BxOk K S x N) (k : Ke X S T) (hx : ∀ p ∈ adr x, p ∉ X) (hN : N ≤ M) : BxOk K T x M :=
  ⟨k.at_ h.hb (hx _ (by simp [adr])), k.at_ h.hq (hx _ (by simp [adr])), h.hw.kept k (hx _ (by simp [adr])) (hx _ (by simp [adr])), h.vr, ⟨h.v.1, h.v.2.1, by have := h.v.2.2; omega⟩,
    fun t ht => ⟨(h.le t ht).1, by have := (h.le t ht).2.1; omega, (h.le t ht).2.2⟩, h.nn⟩
structure Bxs (K : PySem.W.Frag) (S0 S : Sto) (m : Addr) (L : List Bx) (N : Nat) : Prop where
  hm : S m = some (.lst (L.map fun x => .ref x.b))
  ok : ∀ x ∈ L, BxOk K S x N
  nd : (m :: (L.map adr).flatten).Nodup
  fr : ∀ p ∈ m :: (L.map adr).flatten, S0 p = none
  sb : Sub S0 S
theorem mem_adr {L : List Bx} {x : Bx} {p : Addr} (hx : x ∈ L) (hp : p ∈ adr x) : p ∈ (L.map adr).flatten := List.mem_flatten.mpr ⟨adr x, List.mem_map_of_mem hx, hp⟩
theorem Bxs.m_not {S0 S : Sto} {m : Addr} {L : List Bx} {N : Nat} (h : Bxs K S0 S m L N) {x : Bx} (hx : x ∈ L) : m ∉ adr x := fun hp => (List.nodup_cons.mp h.nd).1 (mem_adr hx hp)
theorem Bxs.apart {S0 S : Sto} {m : Addr} {L : List Bx} {N : Nat} (h : Bxs K S0 S m L N) {i j : Nat} {x y : Bx} (hi : L[i]? = some x) (hj : L[j]? = some y) (hij : i ≠ j) : ∀ p ∈ adr y, p ∉ adr x := by
  intro p hp hq
  have nd := (List.nodup_cons.mp h.nd).2
  rw [List.Nodup, List.pairwise_flatten] at nd
  have pw := nd.2
  obtain ⟨hi1, hi2⟩ := List.getElem?_eq_some_iff.mp hi
  obtain ⟨hj1, hj2⟩ := List.getElem?_eq_some_iff.mp hj
  rw [List.pairwise_iff_getElem] at pw
  rcases Nat.lt_or_gt_of_ne hij with c | c
  · have := pw i j (by simpa using hi1) (by simpa using hj1) c
    simp only [List.getElem_map, hi2, hj2] at this
    exact this p hq p hp rfl
  · have := pw j i (by simpa using hj1) (by simpa using hi1) c
    simp only [List.getElem_map, hi2, hj2] at this
    exact this p hp p hq rfl
theorem Bxs.nd_x {S0 S : Sto} {m : Addr} {L : List Bx} {N : Nat} (h : Bxs K S0 S m L N) {x : Bx} (hx : x ∈ L) : (adr x).Nodup := by
  have nd := (List.nodup_cons.mp h.nd).2
  rw [List.Nodup, List.pairwise_flatten] at nd
  exact nd.1 _ (List.mem_map_of_mem hx)
theorem set_adr {L : List Bx} {i : Nat} {x x' : Bx} (hi : L[i]? = some x) (ha : adr x' = adr x) : (L.set i x').map adr = L.map adr := by
  rw [List.map_set, ha]
  apply List.ext_getElem?
  intro j
  rw [List.getElem?_set]
  split
  · next e =>
    subst e
    split
    · next hl => rw [List.getElem?_map, hi]; rfl
    · next hl => rw [List.getElem?_eq_none (by omega)]
  · rfl
theorem Bxs.step {S0 S S' : Sto} {m : Addr} {L : List Bx} {N M : Nat} (h : Bxs K S0 S m L N) {i : Nat} {x x' : Bx} (hi : L[i]? = some x) (ha : adr x' = adr x) (ok' : BxOk K S' x' M) (k : Ke (adr x) S S') (hN : N ≤ M) : Bxs K S0 S' m (L.set i x') M := by
  have hx : x ∈ L := List.mem_of_getElem? hi
  have eb : x'.b = x.b := by simp [adr] at ha; exact ha.1
  have em : (L.set i x').map (fun x => D.ref x.b) = L.map fun x => .ref x.b := by
    rw [List.map_set, eb]
    apply List.ext_getElem?
    intro j
    rw [List.getElem?_set]
    split
    · next e =>
      subst e
      split
      · next hl => rw [List.getElem?_map, hi]; rfl
      · next hl => rw [List.getElem?_eq_none (by omega)]
    · rfl
  refine ⟨by rw [em]; exact k.at_ h.hm (h.m_not hx), fun y hy => ?_, by rw [set_adr hi ha]; exact h.nd, fun p hp => h.fr p (by rw [set_adr hi ha] at hp; exact hp), fun p => ?_⟩
  · obtain ⟨j, hj⟩ := List.mem_iff_getElem?.mp hy
    rw [List.getElem?_set] at hj
    split at hj
    · split at hj
      · cases hj; exact ok'
      · cases hj
    · next hne => exact (h.ok y (List.mem_of_getElem? hj)).kept k (h.apart hi hj hne) hN
  · by_cases c : p ∈ adr x
    · exact .inl (h.fr p (List.mem_cons_of_mem _ (mem_adr hx c)))
    · rcases h.sb p with q | q
      · exact .inl q
      · rcases k p c with z | z
        · exact .inl (q.trans z)
        · exact .inr (q.trans z.symm)
theorem Bxs.keep {S0 S S' : Sto} {m : Addr} {L : List Bx} {N M : Nat} (h : Bxs K S0 S m L N) (k : Ke [] S S') (hN : N ≤ M) : Bxs K S0 S' m L M := by
  refine ⟨k.at_ h.hm (by simp), fun x hx => (h.ok x hx).kept k (by simp) hN, h.nd, h.fr, fun p => ?_⟩
  rcases h.sb p with q | q
  · exact .inl q
  · rcases k p (by simp) with z | z
    · exact .inl (q.trans z)
    · exact .inr (q.trans z.symm)
theorem Bxs.add {S0 S S' : Sto} {m : Addr} {L : List Bx} {N : Nat} (h : Bxs K S0 S m L N) {z : Bx} (ok' : BxOk K S' z N) (fz : ∀ p ∈ adr z, S p = none) (nz : (adr z).Nodup) (hm' : S' m = some (.lst ((L ++ [z]).map fun x => .ref x.b))) (k : Ke (m :: adr z) S S') : Bxs K S0 S' m (L ++ [z]) N := by
  have hne : ∀ p ∈ m :: (L.map adr).flatten, p ∉ adr z := by
    intro p hp hz
    have hn := fz p hz
    rcases List.mem_cons.mp hp with q | q
    · subst q; rw [h.hm] at hn; cases hn
    · obtain ⟨l, hl, hpl⟩ := List.mem_flatten.mp q
      obtain ⟨y, hy, rfl⟩ := List.mem_map.mp hl
      have o := h.ok y hy
      simp [adr] at hpl
      rcases hpl with rfl | rfl | rfl | rfl
      · rw [o.hb] at hn; cases hn
      · rw [o.hw.i] at hn; cases hn
      · rw [o.hw.l] at hn; cases hn
      · rw [o.hq] at hn; cases hn
  have ef : m :: ((L ++ [z]).map adr).flatten = (m :: (L.map adr).flatten) ++ adr z := by simp
  refine ⟨hm', fun x hx => ?_, ?_, fun p hp => ?_, fun p => ?_⟩
  · rcases List.mem_append.mp hx with q | q
    · refine (h.ok x q).kept k (fun p hp hc => ?_) (Nat.le_refl _)
      rcases List.mem_cons.mp hc with c | c
      · subst c; exact h.m_not q hp
      · exact hne p (List.mem_cons_of_mem _ (mem_adr q hp)) c
    · simp at q; subst q; exact ok'
  · rw [ef, List.nodup_append]
    exact ⟨h.nd, nz, fun a ha b hb e => hne a ha (by rw [e]; exact hb)⟩
  · rw [ef] at hp
    rcases List.mem_append.mp hp with q | q
    · exact h.fr p q
    · rcases h.sb p with z | z
      · exact z
      · rw [z]; exact fz p q
  · rcases h.sb p with q | q
    · exact .inl q
    · by_cases c : p ∈ m :: adr z
      · rcases List.mem_cons.mp c with c | c
        · subst c; exact .inl (h.fr _ (List.mem_cons_self ..))
        · exact .inl (q.trans (fz p c))
      · rcases k p c with y | y
        · exact .inl (q.trans y)
        · exact .inr (q.trans y.symm)
/-! ### what a deed makes of it -/
theorem goods_all {rows : List Row} {t u : Int} (h : ∀ y ∈ rows, y.1 ≤ t) (hu : t ≤ u) : goods rows u = goods rows t := by
  unfold goods
  congr 1
  apply List.filter_congr
  intro y hy
  have a := h y hy
  have b : y.1 ≤ u := by omega
  simp [a, b]
theorem go_wat {R : Rule} {rows : List Row} {lt : Option Int} {t : Int} (nn : lt = none → rows = []) (le : ∀ u, lt = some u → u < t ∧ ∀ y ∈ rows, y.1 ≤ u) : Wat.come R.ru t (watL R rows lt) = watL R rows (some t) := by
  cases lt with
  | none =>
    have := nn rfl
    subst this; rfl
  | some u =>
    obtain ⟨h1, h2⟩ := le u rfl
    show Wat.come R.ru t (Wat.come R.ru u (Wat.heard R.ru (goods rows u) Wat.start)) = Wat.come R.ru t (Wat.heard R.ru (goods rows t) Wat.start)
    rw [Wat.come_come (by omega), goods_all (t := u) (u := t) h2 (by omega)]
theorem goods_snoc {rows : List Row} {t v : Int} : goods (rows ++ [(t, v, true)]) t = goods rows t ++ [(t, v)] := by
  unfold goods
  rw [List.filter_append]
  simp
theorem hear_wat {R : Rule} {rows : List Row} {lt : Option Int} {t v : Int} (nn : lt = none → rows = []) (le : ∀ u, lt = some u → u < t ∧ ∀ y ∈ rows, y.1 ≤ u) : Wat.hear R.ru t v (watL R rows lt) = watL R (rows ++ [(t, v, true)]) (some t) := by
  show _ = Wat.come R.ru t (Wat.heard R.ru (goods (rows ++ [(t, v, true)]) t) Wat.start)
  rw [goods_snoc]
  have e : ∀ l : Wat.Sgs, Wat.heard R.ru (l ++ [(t, v)]) Wat.start = Wat.hear R.ru t v (Wat.heard R.ru l Wat.start) := fun l => by unfold Wat.heard; rw [List.foldl_append]; rfl
  rw [e, Wat.come_hear]
  cases lt with
  | none =>
    have := nn rfl
    subst this; rfl
  | some u =>
    obtain ⟨h1, h2⟩ := le u rfl
    show Wat.hear R.ru t v (Wat.come R.ru u (Wat.heard R.ru (goods rows u) Wat.start)) = _
    rw [Wat.hear_come h1, goods_all (t := u) (u := t) h2 (by omega)]
theorem heard_len (r : Wat.Ru) : ∀ (l : Wat.Sgs) (w : Wat.Wt), (Wat.heard r l w).ev.length ≤ w.ev.length + 2 * l.length
  | [], w => by simp [Wat.heard]
  | x :: l, w => by
    have h1 := heard_len r l (Wat.hear r x.1 x.2 w)
    have h2 := hear_len r x.1 x.2 w
    show (Wat.heard r l (Wat.hear r x.1 x.2 w)).ev.length ≤ _
    simp only [List.length_cons]; omega
theorem wat_len {R : Rule} {rows : List Row} {lt : Option Int} : (watL R rows lt).ev.length ≤ 2 * rows.length + 1 := by
  cases lt with
  | none => show 0 ≤ _; omega
  | some t =>
    have h1 := come_len R.ru t (Wat.heard R.ru (goods rows t) Wat.start)
    have h2 := heard_len R.ru (goods rows t) Wat.start
    have h3 : Wat.start.ev.length = 0 := rfl
    have h4 : (goods rows t).length ≤ rows.length := by
      unfold goods
      rw [List.length_map]
      exact List.length_filter_le ..
    show (Wat.come R.ru t _).ev.length ≤ _
    omega
theorem lastW_snoc {rows : List Row} {t v : Int} {b : Bool} : lastW (rows ++ [(t, v, b)]) = some v := by unfold lastW; simp
end K30

/-! watches: the law's turns, compared. -/
namespace K30
open PySem PySem.Spec PyProof.Rows L2 VL Fine
variable {K : PySem.W.Frag}
abbrev G0 (K : PySem.W.Frag) := g_law_0 K sp_row sp_cell_at sp_rule (spAl 3) sp_stands (sp_copied K) (sp_go K) (sp_hear K) (sp_state K) (sp_events K) (sp_init K) (sp_eq K) (sp_repr K)
abbrev B0 (K : PySem.W.Frag) := b_law_0 K sp_row sp_cell_at sp_rule (spAl 3) sp_stands (sp_copied K) (sp_go K) (sp_hear K) (sp_state K) (sp_events K) (sp_init K) (sp_eq K) (sp_repr K)
abbrev G1 (K : PySem.W.Frag) := g_law_1 K sp_row sp_cell_at sp_rule (spAl 3) sp_stands (sp_copied K) (sp_go K) (sp_hear K) (sp_state K) (sp_events K) (sp_init K) (sp_eq K) (sp_repr K)
abbrev B1 (K : PySem.W.Frag) := b_law_1 K sp_row sp_cell_at sp_rule (spAl 3) sp_stands (sp_copied K) (sp_go K) (sp_hear K) (sp_state K) (sp_events K) (sp_init K) (sp_eq K) (sp_repr K)
abbrev G2 (K : PySem.W.Frag) := g_law_2 K sp_row sp_cell_at sp_rule (spAl 3) sp_stands (sp_copied K) (sp_go K) (sp_hear K) (sp_state K) (sp_events K) (sp_init K) (sp_eq K) (sp_repr K)
abbrev B2 (K : PySem.W.Frag) := b_law_2 K sp_row sp_cell_at sp_rule (spAl 3) sp_stands (sp_copied K) (sp_go K) (sp_hear K) (sp_state K) (sp_events K) (sp_init K) (sp_eq K) (sp_repr K)
abbrev G3 (K : PySem.W.Frag) := g_law_3 K sp_row sp_cell_at sp_rule (spAl 3) sp_stands (sp_copied K) (sp_go K) (sp_hear K) (sp_state K) (sp_events K) (sp_init K) (sp_eq K) (sp_repr K)
abbrev B3 (K : PySem.W.Frag) := b_law_3 K sp_row sp_cell_at sp_rule (spAl 3) sp_stands (sp_copied K) (sp_go K) (sp_hear K) (sp_state K) (sp_events K) (sp_init K) (sp_eq K) (sp_repr K)
def tl10 (K : PySem.W.Frag) : TSd := (dFor (nRng1 (dCons (dCB dLen (dCons (dVar 4) dNil)) dNil)) (g_law_1 K sp_row sp_cell_at sp_rule (spAl 3) sp_stands (sp_copied K) (sp_go K) (sp_hear K) (sp_state K) (sp_events K) (sp_init K) (sp_eq K) (sp_repr K)) (b_law_1 K sp_row sp_cell_at sp_rule (spAl 3) sp_stands (sp_copied K) (sp_go K) (sp_hear K) (sp_state K) (sp_events K) (sp_init K) (sp_eq K) (sp_repr K)))
def tl9 (K : PySem.W.Frag) : TSd := (dSeq (dAsg (dLcR (dVar 4) (hName 14) dYes (dCall sp_stands [] (dCons (dVar 14) dNil)) [14]) (hName 13)) (tl10 K))
def tl8 (K : PySem.W.Frag) : TSd := (dSeq (dSetI (dVar 9) (dVar 8) (dC (.int 3))) (tl9 K))
def tl7 (K : PySem.W.Frag) : TSd := (dSeq (dIf (dOrT (dNotT (dTest (dCall (spAl 3) [] (dCons (dOp dIx (dVar 11) (dC (.int 1))) (dCons (dOp dIx (dVar 11) (dC (.int 0))) dNil))))) (dTest (dOp (dEqI (He.ga K "Watch") (sp_eq K) (!·)) (dVar 10) (dOp dIx (dVar 8) (dC (.int 0)))))) (dRet (dC (.bl false))) dNext) (tl8 K))
def tl6 (K : PySem.W.Frag) : TSd := (dSeq (dIf (dTest (dOp dEq (dOp dMod (dOp dIx (dVar 6) (dC (.int 5))) (dC (.int 4))) (dC (.int 0)))) (dAsg (dLst (dCons (dFrz (dMeth (He.ga K "Watch") "go_on" (sp_go K) [] (dOp dIx (dVar 8) (dC (.int 0))) (dCons (dVar 9) dNil))) (dCons (dFrz (dMeth (He.ga K "Watch") "go_on" (sp_go K) [] (dVar 10) (dCons (dVar 9) dNil))) dNil))) (hName 11)) (dSeq (dAsg (dOp dIx (dLst (dCons (dC (.int 63)) (dCons (dC (.int 0)) (dCons (dOp dIx (dOp dIx (dVar 8) (dC (.int 1))) (dC (.int 3))) (dCons (dOp dMod (dOp dIx (dVar 6) (dC (.int 6))) (dC (.int 64))) dNil))))) (dOp dMod (dOp dIx (dVar 6) (dC (.int 7))) (dC (.int 4)))) (hName 12)) (dSeq (dAsg (dLst (dCons (dMeth (He.ga K "Watch") "hear" (sp_hear K) [] (dOp dIx (dVar 8) (dC (.int 0))) (dCons (dVar 9) (dCons (dVar 12) dNil))) (dCons (dMeth (He.ga K "Watch") "hear" (sp_hear K) [] (dVar 10) (dCons (dVar 9) (dCons (dVar 12) dNil))) dNil))) (hName 11)) (dDrop (dAppend (dOp dIx (dVar 8) (dC (.int 2))) (dCons (dTup (dCons (dVar 9) (dCons (dVar 12) (dCons (dC (.str "good")) dNil)))) dNil)))))) (tl7 K))
def tl5 (K : PySem.W.Frag) : TSd := (dSeq (dAsg (dMeth (He.ga K "Watch") "copied" (sp_copied K) [] (dOp dIx (dVar 8) (dC (.int 0))) dNil) (hName 10)) (tl6 K))
def tl4 (K : PySem.W.Frag) : TSd := (dSeq (dIf (dTest (dOp (dIsG (!·)) (dOp dIx (dVar 8) (dC (.int 3))) (dC .non))) (dAsg (dOp dAdd (dOp dAdd (dOp dIx (dVar 8) (dC (.int 3))) (dC (.int 1))) (dOp dIx (dLst (dCons (dC (.int 0)) (dCons (dOp dMod (dOp dIx (dVar 6) (dC (.int 3))) (dC (.int 3))) (dCons (dOp dIx (dOp dIx (dVar 8) (dC (.int 1))) (dC (.int 5))) dNil)))) (dOp dMod (dOp dIx (dVar 6) (dC (.int 4))) (dC (.int 3))))) (hName 9)) dNext) (tl5 K))
def tl3 (K : PySem.W.Frag) : TSd := (dSeq (dAsg (dC (.int 0)) (hName 9)) (tl4 K))
def tl2 (K : PySem.W.Frag) : TSd := (dSeq (dAsg (dOp dIx (dVar 4) (dOp dMod (dOp dIx (dVar 6) (dC (.int 2))) (dCB dLen (dCons (dVar 4) dNil)))) (hName 8)) (tl3 K))
def tl1 (K : PySem.W.Frag) : TSd := (dSeq (dIf (dAndT (dTest (dOp dLt (dCB dLen (dCons (dVar 4) dNil)) (dC (.int 4)))) (dTest (dOp dEq (dOp dMod (dOp dIx (dVar 6) (dC (.int 0))) (dC (.int 5))) (dC (.int 0))))) (dSeq (dAsg (dOp dIx (dVar 4) (dOp dMod (dOp dIx (dVar 6) (dC (.int 1))) (dCB dLen (dCons (dVar 4) dNil)))) (hName 7)) (dDrop (dAppend (dVar 4) (dCons (dLstM (dCons (dMeth (He.ga K "Watch") "copied" (sp_copied K) [] (dOp dIx (dVar 7) (dC (.int 0))) dNil) (dCons (dOp dIx (dVar 7) (dC (.int 1))) (dCons (dCB dListOfM (dCons (dOp dIx (dVar 7) (dC (.int 2))) dNil)) (dCons (dOp dIx (dVar 7) (dC (.int 3))) dNil))))) dNil)))) dNext) (tl2 K))
theorem u_B0 {Z : EndsD} {σ : Sd} {S : Sto} : B0 K Z σ S = (dSeq (dAsg (dCall sp_row [] (dCons (dVar 5) (dCons (dC (.int 8)) (dCons (dC (.int 29)) dNil)))) (hName 6)) (tl1 K)) Z σ S := rfl
theorem for_cons {gd : TGd} {tb : TSd} {Z : EndsD} {d : D} {ds : List D} {σ : Sd} {S : Sto} : dForL gd tb Z (d :: ds) σ S = gd d σ S fun σ1 S1 => tb { Z with nx := dForL gd tb Z ds, ct := dForL gd tb Z ds, bk := Z.nx } σ1 S1 := rfl
abbrev mkL (x : Bx) : List D := marksL x.R (watL x.R x.rows x.lt) (lastW x.rows) x.lt
theorem at_n {ds : List D} {k : Nat} {d : D} (h : ds[k]? = some d) : atI ds (k : Int) = some d := by
  have := (List.getElem?_eq_some_iff.mp h).1
  unfold atI ixN
  rw [if_pos (by omega), if_pos (by omega)]
  simp [h]
theorem cut13 {a b c d e : D} : VL.cutD [a, b, c, d, e] (some 1) (some 3) = [b, c] := rfl
theorem pl_two {ev : Wat.Ev} {w : Wat.Wt} (h : ev.length ≤ 1000000) : PlA 3 (.lst [.lst (ev.map evD), stD w]) := by
  refine .inr ⟨_, .inl rfl, by simp, fun x hx => ?_⟩
  simp at hx
  rcases hx with rfl | rfl
  · refine .inr ⟨_, .inl rfl, by simpa using h, fun x hx => ?_⟩
    obtain ⟨⟨a, o⟩, _, rfl⟩ := List.mem_map.mp hx
    refine .inr ⟨_, .inr rfl, by simp, fun z hz => ?_⟩
    simp at hz
    rcases hz with rfl | rfl
    · exact .inr (.inl ⟨_, rfl⟩)
    · cases o
      · exact .inl rfl
      · exact .inr (.inl ⟨_, rfl⟩)
  · refine .inr ⟨_, .inr rfl, by simp, fun z hz => ?_⟩
    obtain ⟨ev2, st⟩ := w
    simp at hz
    rcases hz with rfl | rfl
    · exact .inl (.inr (.inr ⟨_, rfl⟩))
    · cases st
      · exact .inl (.inl rfl)
      · exact .inl (.inr (.inl ⟨_, rfl⟩))
      · exact .inl (.inr (.inl ⟨_, rfl⟩))
section
variable {Z : EndsD} {S0 S : Sto} {m : Addr} {L : List Bx} {N : Nat} {x0 x1 x2 x3 x5 x6 x7 x8 x9 x10 x12 x14 x18 : Option D}
abbrev stL (L : List Bx) : List D := L.map fun x => .lst (mkL x)
theorem j_loop (h : Bxs K S0 S m L N) (hN : N ≤ 40) {k : Nat} {x : Bx} {x11 : Option D} (hx : L[k]? = some x)
    (hz : ∀ z16 z17, Z.nx [x0, x1, x2, x3, some (.ref m), x5, x6, x7, x8, x9, x10, x11, x12, some (.lst (stL L)), x14, some (.int (k : Int)), z16, z17, x18] S) :
    ∀ (n j : Nat) (y16 y17 : Option D), j + n = L.length →
    dForL (G2 K) (B2 K) Z ((Fine.tik (j : Int) n).map D.int) [x0, x1, x2, x3, some (.ref m), x5, x6, x7, x8, x9, x10, x11, x12, some (.lst (stL L)), x14, some (.int (k : Int)), y16, y17, x18] S
  | 0, j, y16, y17, _ => hz _ _
  | n + 1, j, y16, y17, hj => by
    have next := fun z16 z17 => j_loop h hN hx hz n (j + 1) z16 z17 (by omega)
    rw [show (((j + 1 : Nat)) : Int) = (j : Int) + 1 by omega] at next
    have jl : j < L.length := by omega
    have hy : L[j]? = some L[j] := List.getElem?_eq_getElem jl
    generalize L[j] = y at hy
    have ox := h.ok x (List.mem_of_getElem? hx)
    have oy := h.ok y (List.mem_of_getElem? hy)
    have ak : atI (stL L) (k : Int) = some (.lst (mkL x)) := at_n (by rw [List.getElem?_map, hx]; rfl)
    have aj : atI (stL L) (j : Int) = some (.lst (mkL y)) := at_n (by rw [List.getElem?_map, hy]; rfl)
    have bk : atI (L.map fun x => D.ref x.b) (k : Int) = some (.ref x.b) := at_n (by rw [List.getElem?_map, hx]; rfl)
    have bj : atI (L.map fun x => D.ref x.b) (j : Int) = some (.ref y.b) := at_n (by rw [List.getElem?_map, hy]; rfl)
    have vm : vw S (.ref m) = .lst (L.map fun x => .ref x.b) := vw_ref_lst h.hm
    have vx : vw S (.ref x.b) = .lst (boxL x) := vw_ref_lst ox.hb
    have vy : vw S (.ref y.b) = .lst (boxL y) := vw_ref_lst oy.hb
    have z1 : ∀ z : Bx, atI (boxL z) 0 = some (.ref z.a) := fun _ => rfl
    have ia := ox.hw.i
    have ib := oy.hw.i
    unfold wO at ia ib
    rw [Fine.tik, List.map_cons, for_cons]
    simp only [u_g_law_2, u_b_law_2, z_hName, List.set_cons_succ, List.set_cons_zero, z_dSeq, z_dAsg, z_dOp, z_dVar, List.getElem?_cons_succ, List.getElem?_cons_zero, z_dIx, vw_lst, ak, aj]
    refine eqG_pq (k := 3) (pq_lst (pq_marks ox.vr _ _ _)) (pq_lst (pq_marks oy.vr _ _ _)) (by decide) rfl rfl (fun _ z => by cases z) (fun _ z => by cases z) (fun _ z => by cases z) fun t ht => ?_
    simp [vm, bk, bj, vx, vy, z1]
    refine ⟨⟨_, ia⟩, .inr ⟨_, _, rfl, ib⟩, ?_⟩
    refine ⟨x.a, x.e, x.R, _, _, _, .ref y.a, rfl, ox.hw, ox.vr, .inl ⟨y.a, y.e, y.R, _, _, _, rfl, oy.hw, oy.vr, fun t2 ht2 => ?_⟩⟩
    have e : t2 = t := by
      have : t2 = true ↔ t = true := by rw [ht2, ht]; simp
      cases t <;> cases t2 <;> simp at this ⊢
    subst e
    simp
    exact next _ _
theorem k_loop (h : Bxs K S0 S m L N) (hN : N ≤ 40) (hll : L.length ≤ 40)
    (hz : ∀ z11 z15 z16 z17, Z.nx [x0, x1, x2, x3, some (.ref m), x5, x6, x7, x8, x9, x10, z11, x12, some (.lst (stL L)), x14, z15, z16, z17, x18] S) :
    ∀ (n k : Nat) (y11 y15 y16 y17 : Option D), k + n = L.length →
    dForL (G1 K) (B1 K) Z ((Fine.tik (k : Int) n).map D.int) [x0, x1, x2, x3, some (.ref m), x5, x6, x7, x8, x9, x10, y11, x12, some (.lst (stL L)), x14, y15, y16, y17, x18] S
  | 0, k, y11, y15, y16, y17, _ => hz _ _ _ _
  | n + 1, k, y11, y15, y16, y17, hk => by
    have next := fun z11 z15 z16 z17 => k_loop h hN hll hz n (k + 1) z11 z15 z16 z17 (by omega)
    rw [show (((k + 1 : Nat)) : Int) = (k : Int) + 1 by omega] at next
    have kl : k < L.length := by omega
    have hx : L[k]? = some L[k] := List.getElem?_eq_getElem kl
    generalize L[k] = x at hx
    have ox := h.ok x (List.mem_of_getElem? hx)
    have ak : atI (stL L) (k : Int) = some (.lst (mkL x)) := at_n (by rw [List.getElem?_map, hx]; rfl)
    have bk : atI (L.map fun x => D.ref x.b) (k : Int) = some (.ref x.b) := at_n (by rw [List.getElem?_map, hx]; rfl)
    have vm : vw S (.ref m) = .lst (L.map fun x => .ref x.b) := vw_ref_lst h.hm
    have vx : vw S (.ref x.b) = .lst (boxL x) := vw_ref_lst ox.hb
    have z1 : atI (boxL x) 0 = some (.ref x.a) := rfl
    have ia := ox.hw.i
    unfold wO at ia
    have wl := wat_len (R := x.R) (rows := x.rows) (lt := x.lt)
    have rl := ox.v.2.2
    rw [Fine.tik, List.map_cons, for_cons]
    simp [-List.lookup_eq_none_iff, u_g_law_1, u_b_law_1, vm, bk, vx, z1, ia, no_events]
    refine ⟨x.a, x.e, x.R, _, _, _, rfl, ox.hw, fun p hp => frz_new hp ?_⟩
    simp [-List.lookup_eq_none_iff, vm, bk, vx, z1, ia, no_state]
    refine ⟨x.a, x.e, x.R, _, _, _, rfl, ox.hw, ?_⟩
    simp only [ak]
    have ec : VL.cutD (mkL x) (some 1) (some 3) = [.lst ((watL x.R x.rows x.lt).ev.map evD), stD (watL x.R x.rows x.lt)] := cut13
    simp [two, ec]
    refine ⟨_, _, rfl, rfl, pl_two (by omega), ?_⟩
    simp [vm]
    refine ⟨by omega, ?_⟩
    rw [Fine.rangeD_tik]
    exact j_loop (S0 := S0) h hN hx (fun z16 z17 => next _ _ _ _) L.length 0 _ _ (by omega)
end
end K30

/-! watches: the law's turn, from its end on. -/
namespace K30
open PySem PySem.Spec PyProof.Rows L2 VL Fine
variable {K : PySem.W.Frag}
theorem lcR_map {α : Type} {P : Sto → Prop} {gd : TGd} {dt : TTd} {de : TEd} {σ0 : Sd} {Q : List D → Sto → Prop} {S : Sto} (hP : P S) (g : α → D) (f : α → D) : ∀ (l : List α) (acc : List D), (∀ x ∈ l, ∀ R : Option D → Sto → Prop, R (some (f x)) S → oneD gd dt de σ0 (g x) S R) →
    Q (acc ++ l.map f) S → dLcRL P gd dt de σ0 Q (l.map g) acc S
  | [], acc, _, h => ⟨hP, by simpa using h⟩
  | x :: l, acc, st, h => by
    refine ⟨hP, ?_⟩
    have z := st x (List.mem_cons_self ..) (fun o S' => match o with
      | some y => dLcRL P gd dt de σ0 Q (l.map g) (acc ++ [y]) S'
      | none => dLcRL P gd dt de σ0 Q (l.map g) acc S')
    refine z ?_
    exact lcR_map hP g f l (acc ++ [f x]) (fun y hy => st y (List.mem_cons_of_mem _ hy)) (by rw [List.append_assoc]; exact h)
section
variable {Z : EndsD} {S0 S : Sto} {m : Addr} {L : List Bx} {N : Nat} {x0 x1 x2 x3 x5 x6 x7 x8 x9 x10 x11 x12 x13 x14 x15 x16 x17 x18 : Option D}
theorem tl9_ok (h : Bxs K S0 S m L N) (hN : N ≤ 40) (hll : L.length ≤ 40) (hz : ∀ z11 z13 z15 z16 z17, Z.nx [x0, x1, x2, x3, some (.ref m), x5, x6, x7, x8, x9, x10, z11, x12, z13, x14, z15, z16, z17, x18] S) :
    tl9 K Z [x0, x1, x2, x3, some (.ref m), x5, x6, x7, x8, x9, x10, x11, x12, x13, x14, x15, x16, x17, x18] S := by
  have vm : vw S (.ref m) = .lst (L.map fun x => .ref x.b) := vw_ref_lst h.hm
  simp only [tl9, z_dSeq, z_dAsg, z_dLcR, z_dVar, List.getElem?_cons_succ, List.getElem?_cons_zero, h.hm]
  refine ⟨sz (by simp; omega), ?_⟩
  refine lcR_map h.hm (fun x : Bx => D.ref x.b) (fun x => .lst (mkL x)) L _ (fun x hx R hR => ?_) ?_
  · have ox := h.ok x hx
    simp [oneD, wipeD]
    exact ⟨x.b, x.a, x.q, x.R, x.rows, x.lt, rfl, ox.hb, ox.hq, ox.vr, ox.vr_rows hN, ox.nn, fun t ht => ⟨(ox.le t ht).1, by have := (ox.le t ht).2.1; omega⟩, hR⟩
  rw [List.nil_append]
  simp [tl10, vm]
  refine ⟨by omega, ?_⟩
  rw [Fine.rangeD_tik]
  exact k_loop (S0 := S0) h hN hll (fun z11 z15 z16 z17 => hz _ _ _ _ _) L.length 0 _ _ _ _ (by omega)
/-- a box whose last time is set -/
theorem tl8_ok {i : Nat} {x x' : Bx} {S1 : Sto} {t : Int} (h : Bxs K S0 S m L N) (hi : L[i]? = some x) (hN : N + 1 ≤ 40) (hll : L.length ≤ 40) (ha : adr x' = adr x) (hR : x'.R = x.R) (ht : x'.lt = some t)
    (hb1 : S1 x.b = some (.lst (boxL x))) (ok' : BxOk K (put S1 x.b (.lst (boxL x'))) x' (N + 1)) (k : Ke (adr x) S S1)
    (hz : ∀ z11 z13 z15 z16 z17 S', Bxs K S0 S' m (L.set i x') (N + 1) → Z.nx [x0, x1, x2, x3, some (.ref m), x5, x6, x7, some (.ref x.b), some (.int t), x10, z11, x12, z13, x14, z15, z16, z17, x18] S') :
    tl8 K Z [x0, x1, x2, x3, some (.ref m), x5, x6, x7, some (.ref x.b), some (.int t), x10, x11, x12, x13, x14, x15, x16, x17, x18] S1 := by
  have ea : x'.a = x.a ∧ x'.q = x.q := by simp [adr] at ha; exact ⟨ha.2.1, ha.2.2.2⟩
  have eb : (boxL x).set 3 (.int t) = boxL x' := by
    unfold boxL
    rw [ea.1, ea.2, hR, ht]; rfl
  have ei : ixN (boxL x).length 3 = some 3 := rfl
  simp only [tl8, z_dSeq, z_dSetI, z_dVar, z_dC, List.getElem?_cons_succ, List.getElem?_cons_zero, hb1, ei, eb]
  have hB := h.step hi ha ok' (k.put (by simp [adr])) (Nat.le_succ N)
  exact tl9_ok hB hN (by simp; exact hll) fun z11 z13 z15 z16 z17 => hz _ _ _ _ _ _ hB
/-- what was told of both, and the two compared -/
theorem tl7_ok {i : Nat} {x x' : Bx} {S1 : Sto} {t : Int} {a' e' : Addr} {l : List D} (h : Bxs K S0 S m L N) (hi : L[i]? = some x) (hN : N + 1 ≤ 40) (hll : L.length ≤ 40) (ha : adr x' = adr x) (hR : x'.R = x.R) (ht : x'.lt = some t)
    (hb1 : S1 x.b = some (.lst (boxL x))) (ok' : BxOk K (put S1 x.b (.lst (boxL x'))) x' (N + 1)) (k : Ke (adr x) S S1) (hw1 : Wa K S1 x.a x.e x.R (watL x'.R x'.rows x'.lt) (lastW x'.rows) x'.lt) (hw2 : Wa K S1 a' e' x.R (watL x'.R x'.rows x'.lt) (lastW x'.rows) x'.lt) (pl : PlA 3 (.lst l))
    (hz : ∀ z11 z13 z15 z16 z17 S', Bxs K S0 S' m (L.set i x') (N + 1) → Z.nx [x0, x1, x2, x3, some (.ref m), x5, x6, x7, some (.ref x.b), some (.int t), some (.ref a'), z11, x12, z13, x14, z15, z16, z17, x18] S') :
    tl7 K Z [x0, x1, x2, x3, some (.ref m), x5, x6, x7, some (.ref x.b), some (.int t), some (.ref a'), some (.lst [.lst l, .lst l]), x12, x13, x14, x15, x16, x17, x18] S1 := by
  have ox := h.ok x (List.mem_of_getElem? hi)
  have vx : vw S1 (.ref x.b) = .lst (boxL x) := vw_ref_lst hb1
  have z1 : atI (boxL x) 0 = some (.ref x.a) := rfl
  have ia := hw1.i
  have ib := hw2.i
  unfold wO at ia ib
  have l0 : atI [D.lst l, D.lst l] 0 = some (.lst l) := rfl
  have l1 : atI [D.lst l, D.lst l] 1 = some (.lst l) := rfl
  simp [tl7, l0, l1]
  refine ⟨_, _, rfl, rfl, pl, ?_⟩
  simp [vx, z1]
  refine ⟨⟨_, ib⟩, .inr ⟨_, _, rfl, ia⟩, ?_⟩
  refine ⟨a', e', x.R, _, _, _, .ref x.a, rfl, hw2, ox.vr, .inl ⟨x.a, x.e, x.R, _, _, _, rfl, hw1, ox.vr, fun t2 ht2 => ?_⟩⟩
  obtain rfl : t2 = true := ht2.mpr rfl
  simp
  exact tl8_ok h hi hN hll ha hR ht hb1 ok' k hz
end
end K30

/-! watches: the law's deeds. -/
namespace K30
open PySem PySem.Spec PyProof.Rows L2 VL Fine
variable {K : PySem.W.Frag}
theorem era_ne {S : Sto} {a b : Addr} (h : b ≠ a) : era S a b = S b := by unfold era; rw [if_neg h]
theorem Wa.era_ {S : Sto} {a e p : Addr} {R : Rule} {w : Wat.Wt} {lw lt : Option Int} (h : Wa K S a e R w lw lt) (pa : p ≠ a) (pe : p ≠ e) : Wa K (era S p) a e R w lw lt := ⟨by rw [era_ne (Ne.symm pa)]; exact h.i, by rw [era_ne (Ne.symm pe)]; exact h.l, h.n, h.ok⟩
theorem Kp.era_ {S T : Sto} {a e p : Addr} (h : Kp a e S T) (hp : S p = none) : Kp a e S (era T p) := fun b h1 h2 => by
  by_cases c : b = p
  · subst c; exact .inl hp
  · rw [era_ne c]; exact h b h1 h2
theorem mk_ok {Sb T : Sto} {x x' : Bx} {N : Nat} (ox : BxOk K Sb x N) (nd : (adr x).Nodup) (ha : adr x' = adr x) (hR : x'.R = x.R) (hq : T x.q = some (.lst (x'.rows.map rowD))) (hw : Wa K T x.a x.e x.R (watL x'.R x'.rows x'.lt) (lastW x'.rows) x'.lt)
    (v' : (∀ y ∈ x'.rows, VRow y ∧ y.2.2 = true) ∧ x'.rows.Pairwise (fun x y => x.1 < y.1) ∧ x'.rows.length ≤ N + 1) (le' : ∀ t, x'.lt = some t → 0 ≤ t ∧ t ≤ 100 * ((N + 1 : Nat) : Int) ∧ ∀ y ∈ x'.rows, y.1 ≤ t) (nn' : x'.lt = none → x'.rows = []) :
    BxOk K (put T x.b (.lst (boxL x'))) x' (N + 1) := by
  have hh : x'.b = x.b ∧ x'.a = x.a ∧ x'.e = x.e ∧ x'.q = x.q := by simp [adr] at ha; exact ha
  obtain ⟨h1, h2, h3, h4⟩ := hh
  have n1 : x.a ≠ x.b ∧ x.e ≠ x.b ∧ x.q ≠ x.b := by
    simp [adr] at nd
    exact ⟨fun e => nd.1.1 e.symm, fun e => nd.1.2.1 e.symm, fun e => nd.1.2.2 e.symm⟩
  refine ⟨by rw [h1]; exact put_same, by rw [h4, put_ne n1.2.2]; exact hq, ?_, by rw [hR]; exact ox.vr, v', le', nn'⟩
  rw [h2, h3, hR]
  rw [hR] at hw
  exact ⟨by rw [put_ne n1.1]; exact hw.i, by rw [put_ne n1.2.1]; exact hw.l, hw.n, hw.ok⟩
theorem pl_told {l : List D} (h : ∀ d ∈ l, ∃ (s : Str) (i : Int), d = .tup [.str s, .int i]) (hl : l.length ≤ 10) : PlA 3 (.lst l) := by
  refine .inr ⟨_, .inl rfl, by omega, fun x hx => ?_⟩
  obtain ⟨s, i, rfl⟩ := h x hx
  refine .inr ⟨_, .inr rfl, by simp, fun z hz => ?_⟩
  simp at hz
  rcases hz with rfl | rfl
  · exact .inl (.inr (.inr ⟨_, rfl⟩))
  · exact .inl (.inr (.inl ⟨_, rfl⟩))
theorem toldC_ok (r : Wat.Ru) (t : Int) (w : Wat.Wt) : (∀ d ∈ toldC r t w, ∃ (s : Str) (i : Int), d = .tup [.str s, .int i]) ∧ (toldC r t w).length ≤ 1 := by
  unfold toldC
  split
  · exact ⟨fun d hd => by simp at hd; exact ⟨_, _, hd⟩, by simp⟩
  · exact ⟨fun d hd => by simp at hd, by simp⟩
theorem toldE_ok (r : Wat.Ru) (t x : Int) (w : Wat.Wt) : (∀ d ∈ toldE r t x w, ∃ (s : Str) (i : Int), d = .tup [.str s, .int i]) ∧ (toldE r t x w).length ≤ 1 := by
  unfold toldE
  split
  · split
    · exact ⟨fun d hd => by simp at hd; exact ⟨_, _, hd⟩, by simp⟩
    · exact ⟨fun d hd => by simp at hd, by simp⟩
  · exact ⟨fun d hd => by simp at hd, by simp⟩
theorem pl_toldG {r : Wat.Ru} {t : Int} {lt : Option Int} {w : Wat.Wt} : PlA 3 (.lst (toldG r t lt w)) := by
  unfold toldG
  split
  · exact pl_told (fun d hd => by simp at hd) (by simp)
  · have := toldC_ok r t w
    exact pl_told this.1 (by omega)
theorem pl_toldH {r : Wat.Ru} {t x : Int} {w : Wat.Wt} : PlA 3 (.lst (toldH r t x w)) := by
  unfold toldH
  have h1 := toldC_ok r (t - 1) w
  have h2 := toldE_ok r t x (Wat.come r (t - 1) w)
  have h3 := toldC_ok r t (Wat.turn r t x (Wat.come r (t - 1) w))
  refine pl_told (fun d hd => ?_) (by simp; omega)
  rcases List.mem_append.mp hd with q | q
  · rcases List.mem_append.mp q with q | q
    · exact h1.1 d q
    · exact h2.1 d q
  · exact h3.1 d q
section
variable {Z : EndsD} {S0 Sb S : Sto} {m : Addr} {L : List Bx} {N : Nat} {x0 x1 x2 x3 x5 x6 x7 x8 x9 x10 x11 x12 x13 x14 x15 x16 x17 x18 : Option D} {i : Nat} {x : Bx} {t : Int} {a' e' : Addr} {ns : List Int}
theorem tl6_ok (h : Bxs K S0 Sb m L N) (hi : L[i]? = some x) (hN : N + 1 ≤ 40) (hll : L.length ≤ 40) (hns : ns.length = 8) (kS : Ke [] Sb S) (na : Sb a' = none) (ne : Sb e' = none) (hc : Wa K S a' e' x.R (watL x.R x.rows x.lt) (lastW x.rows) x.lt) (t0 : 0 ≤ t) (t1 : t ≤ 100 * ((N + 1 : Nat) : Int)) (tl : ∀ u, x.lt = some u → u < t)
    (hz : ∀ x' z11 z12 z13 z15 z16 z17 S', Bxs K S0 S' m (L.set i x') (N + 1) → Z.nx [x0, x1, x2, x3, some (.ref m), x5, some (.lst (ns.map D.int)), x7, some (.ref x.b), some (.int t), some (.ref a'), z11, z12, z13, x14, z15, z16, z17, x18] S') :
    tl6 K Z [x0, x1, x2, x3, some (.ref m), x5, some (.lst (ns.map D.int)), x7, some (.ref x.b), some (.int t), some (.ref a'), x11, x12, x13, x14, x15, x16, x17, x18] S := by
  have hx := List.mem_of_getElem? hi
  have ob := h.ok x hx
  have nd := h.nd_x hx
  have ox : BxOk K S x N := ob.kept kS (by simp) (Nat.le_refl _)
  have e5 : atI (ns.map D.int) 5 = some (.int (ns.getD 5 0)) := at_g (k := 5) (by omega)
  have e6 : atI (ns.map D.int) 6 = some (.int (ns.getD 6 0)) := at_g (k := 6) (by omega)
  have e7 : atI (ns.map D.int) 7 = some (.int (ns.getD 7 0)) := at_g (k := 7) (by omega)
  generalize ns.getD 5 0 = g5 at e5
  generalize ns.getD 6 0 = g6 at e6
  generalize ns.getD 7 0 = g7 at e7
  have vx : vw S (.ref x.b) = .lst (boxL x) := vw_ref_lst ox.hb
  have z1 : atI (boxL x) 0 = some (.ref x.a) := rfl
  have zr : atI (boxL x) 1 = some (ruD x.R) := rfl
  have zq : atI (boxL x) 2 = some (.ref x.q) := rfl
  have r3 : ∀ a b c d e f g : D, atI [a, b, c, d, e, f, g] 3 = some d := fun _ _ _ _ _ _ _ => rfl
  have ia := ox.hw.i
  unfold wO at ia
  have wl := wat_len (R := x.R) (rows := x.rows) (lt := x.lt)
  have rl := ox.v.2.2
  have ne1 : ∀ p, Sb p = none → p ∉ adr x := fun p hp hm => by
    simp [adr] at hm
    rcases hm with rfl | rfl | rfl | rfl
    · rw [ob.hb] at hp; cases hp
    · rw [ob.hw.i] at hp; cases hp
    · rw [ob.hw.l] at hp; cases hp
    · rw [ob.hq] at hp; cases hp
  have ca := ne1 a' na
  have ce := ne1 e' ne
  simp [adr] at ca ce
  have hlt : x.lt ≠ some t := fun e => by have := tl t e; omega
  have lea : ∀ u, x.lt = some u → u < t ∧ ∀ y ∈ x.rows, y.1 ≤ u := fun u hu => ⟨tl u hu, (ob.le u hu).2.2⟩
  have kb : Ke (adr x) Sb S := fun p hp => kS p (by simp)
  have nd' := nd
  simp [adr] at nd'
  by_cases c : g5 % 4 = 0
  · simp [-List.lookup_eq_none_iff, tl6, e5, c, vx, z1, ia, no_go]
    refine ⟨x.a, x.e, x.R, _, _, _, t, rfl, ox.hw, t0, by omega, fun u hu => by have := tl u hu; omega, by omega, fun T1 p1 l1 hw1 k1 sp1 lp1 pa1 pe1 le1 => ?_⟩
    unfold frz
    simp only [lp1]
    have hg : go x.R.ru t x.lt (watL x.R x.rows x.lt) = watL x.R x.rows (some t) := by unfold go; rw [if_neg hlt]; exact go_wat ob.nn lea
    rw [hg] at hw1
    have hw1' := hw1.era_ pa1 pe1
    have k1' := (k1.era_ sp1).ke
    generalize era T1 p1 = T1' at hw1' k1'
    have hc1 : Wa K T1' a' e' x.R (watL x.R x.rows x.lt) (lastW x.rows) x.lt := hc.kept k1' (by simp; exact ⟨ca.2.1, ca.2.2.1⟩) (by simp; exact ⟨ce.2.1, ce.2.2.1⟩)
    have ic := hc1.i
    unfold wO at ic
    simp [-List.lookup_eq_none_iff, ic, no_go]
    refine ⟨a', e', x.R, _, _, _, t, rfl, hc1, t0, by omega, fun u hu => by have := tl u hu; omega, by omega, fun T2 p2 l2 hw2 k2 sp2 lp2 pa2 pe2 le2 => ?_⟩
    simp only [lp2]
    rw [hg] at hw2
    have hw2' := hw2.era_ pa2 pe2
    have k2' := (k2.era_ sp2).ke
    generalize era T2 p2 = T2' at hw2' k2'
    have hwx : Wa K T2' x.a x.e x.R (watL x.R x.rows (some t)) (lastW x.rows) (some t) := hw1'.kept k2' (by simp; exact ⟨fun e => ca.2.1 e.symm, fun e => ce.2.1 e.symm⟩) (by simp; exact ⟨fun e => ca.2.2.1 e.symm, fun e => ce.2.2.1 e.symm⟩)
    have kA : Ke (adr x) Sb T2' := (kb.trans k1' (fun y hy => .inl (by simp at hy; rcases hy with rfl | rfl <;> simp [adr]))).trans k2' (fun y hy => .inr (by simp at hy; rcases hy with rfl | rfl <;> assumption))
    have hqT : T2' x.q = some (.lst (x.rows.map rowD)) := k2'.at_ (k1'.at_ ox.hq (by simp; exact ⟨fun e => nd'.2.1.2 e.symm, fun e => nd'.2.2 e.symm⟩)) (by simp; exact ⟨fun e => ca.2.2.2 e.symm, fun e => ce.2.2.2 e.symm⟩)
    have hbT : T2' x.b = some (.lst (boxL x)) := k2'.at_ (k1'.at_ ox.hb (by simp; exact ⟨fun e => nd'.1.1 e, fun e => nd'.1.2.1 e⟩)) (by simp; exact ⟨fun e => ca.1 e.symm, fun e => ce.1 e.symm⟩)
    simp only [two]
    refine ⟨trivial, ?_⟩
    rw [le1, le2]
    refine tl7_ok (x' := { x with lt := some t }) h hi hN hll rfl rfl rfl hbT ?_ kA hwx hw2' pl_toldG (fun z11 z13 z15 z16 z17 S' hB => hz _ _ _ _ _ _ _ S' hB)
    exact mk_ok ob nd rfl rfl hqT hwx ⟨ob.v.1, ob.v.2.1, by have := ob.v.2.2; show x.rows.length ≤ N + 1; omega⟩ (fun u hu => by
      cases hu
      refine ⟨t0, t1, fun y hy => ?_⟩
      cases hq : x.lt with
      | none => have := ob.nn hq; rw [this] at hy; cases hy
      | some u => have := (lea u hq).1; have := (lea u hq).2 y hy; omega) (fun e => by cases e)
  · obtain ⟨y, ey, v, rfl, v0, v1⟩ := pick (l := [D.int 63, D.int 0, D.int x.R.ru.lim, D.int (g6 % 64)]) (d := g7 % 4) (fun y => ∃ b : Int, y = .int b ∧ 0 ≤ b ∧ b ≤ 63) (by omega) (by simp; omega) (by
      have l0 := ob.vr.2.2.1
      have l1 := ob.vr.2.2.2.1
      intro y hy
      simp at hy
      rcases hy with rfl | rfl | rfl | rfl
      · exact ⟨_, rfl, by omega, by omega⟩
      · exact ⟨_, rfl, by omega, by omega⟩
      · exact ⟨_, rfl, l0, l1⟩
      · exact ⟨_, rfl, by omega, by omega⟩)
    have hh : Wat.hear x.R.ru t v (watL x.R x.rows x.lt) = watL x.R (x.rows ++ [(t, v, true)]) (some t) := hear_wat ob.nn lea
    have hl' : lastW (x.rows ++ [(t, v, true)]) = some v := lastW_snoc
    simp [-List.lookup_eq_none_iff, tl6, e5, e6, e7, c, vx, z1, zr, vw_ru, r3, four, ey, ia, no_hear]
    refine ⟨x.a, x.e, x.R, _, _, _, t, v, rfl, ox.hw, t0, by omega, v0, v1, tl, by omega, fun T1 hw1 k1 => ?_⟩
    rw [hh] at hw1
    have k1' := k1.ke
    have hc1 : Wa K T1 a' e' x.R (watL x.R x.rows x.lt) (lastW x.rows) x.lt := hc.kept k1' (by simp; exact ⟨ca.2.1, ca.2.2.1⟩) (by simp; exact ⟨ce.2.1, ce.2.2.1⟩)
    have ic := hc1.i
    unfold wO at ic
    simp [-List.lookup_eq_none_iff, ic, no_hear]
    refine ⟨a', e', x.R, _, _, _, t, v, rfl, hc1, t0, by omega, v0, v1, tl, by omega, fun T2 hw2 k2 => ?_⟩
    rw [hh] at hw2
    have k2' := k2.ke
    have hwx : Wa K T2 x.a x.e x.R (watL x.R (x.rows ++ [(t, v, true)]) (some t)) (some v) (some t) := hw1.kept k2' (by simp; exact ⟨fun e => ca.2.1 e.symm, fun e => ce.2.1 e.symm⟩) (by simp; exact ⟨fun e => ca.2.2.1 e.symm, fun e => ce.2.2.1 e.symm⟩)
    have kA : Ke (adr x) Sb T2 := (kb.trans k1' (fun y hy => .inl (by simp at hy; rcases hy with rfl | rfl <;> simp [adr]))).trans k2' (fun y hy => .inr (by simp at hy; rcases hy with rfl | rfl <;> assumption))
    have hqT : T2 x.q = some (.lst (x.rows.map rowD)) := k2'.at_ (k1'.at_ ox.hq (by simp; exact ⟨fun e => nd'.2.1.2 e.symm, fun e => nd'.2.2 e.symm⟩)) (by simp; exact ⟨fun e => ca.2.2.2 e.symm, fun e => ce.2.2.2 e.symm⟩)
    have hbT : T2 x.b = some (.lst (boxL x)) := k2'.at_ (k1'.at_ ox.hb (by simp; exact ⟨fun e => nd'.1.1 e, fun e => nd'.1.2.1 e⟩)) (by simp; exact ⟨fun e => ca.1 e.symm, fun e => ce.1 e.symm⟩)
    have vxT : vw T2 (.ref x.b) = .lst (boxL x) := vw_ref_lst hbT
    have cq : x.rows.length < sizeLine := by have := sizeLine_eq; omega
    have er : x.rows.map rowD ++ [.tup [.int t, .int v, .str "good"]] = (x.rows ++ [(t, v, true)]).map rowD := by simp [rowD, markS]
    simp [two, three_le, vxT, zq, hqT, cq]
    rw [er]
    have qb : x.b ≠ x.q := fun e => nd'.1.2.2 e
    have qa : x.a ≠ x.q := fun e => nd'.2.1.2 e
    have qe : x.e ≠ x.q := fun e => nd'.2.2 e
    have hwx' : Wa K (put T2 x.q (.lst ((x.rows ++ [(t, v, true)]).map rowD))) x.a x.e x.R (watL x.R (x.rows ++ [(t, v, true)]) (some t)) (lastW (x.rows ++ [(t, v, true)])) (some t) := by
      rw [hl']
      exact ⟨by rw [put_ne qa]; exact hwx.i, by rw [put_ne qe]; exact hwx.l, hwx.n, hwx.ok⟩
    have hwc' : Wa K (put T2 x.q (.lst ((x.rows ++ [(t, v, true)]).map rowD))) a' e' x.R (watL x.R (x.rows ++ [(t, v, true)]) (some t)) (lastW (x.rows ++ [(t, v, true)])) (some t) := by
      rw [hl']
      exact ⟨by rw [put_ne ca.2.2.2]; exact hw2.i, by rw [put_ne ce.2.2.2]; exact hw2.l, hw2.n, hw2.ok⟩
    refine tl7_ok (x' := { x with rows := x.rows ++ [(t, v, true)], lt := some t }) h hi hN hll rfl rfl rfl (by rw [put_ne qb]; exact hbT) ?_ (kA.put (by simp [adr])) hwx' hwc' pl_toldH (fun z11 z13 z15 z16 z17 S' hB => hz _ _ _ _ _ _ _ S' hB)
    refine mk_ok ob nd rfl rfl put_same hwx' ⟨fun y hy => ?_, ?_, ?_⟩ (fun u hu => ?_) (fun e => by cases e)
    · rcases List.mem_append.mp hy with q | q
      · exact ob.v.1 y q
      · simp at q; subst q
        exact ⟨⟨t0, by dsimp only; omega, v0, v1⟩, rfl⟩
    · refine List.pairwise_append.mpr ⟨ob.v.2.1, by simp, fun a ha b hb => ?_⟩
      simp at hb; subst hb
      show a.1 < t
      cases hq : x.lt with
      | none => have := ob.nn hq; rw [this] at ha; cases ha
      | some u => have := (lea u hq).1; have := (lea u hq).2 a ha; omega
    · have := ob.v.2.2; simp; omega
    · cases hu
      refine ⟨t0, t1, fun y hy => ?_⟩
      rcases List.mem_append.mp hy with q | q
      · cases hq : x.lt with
        | none => have := ob.nn hq; rw [this] at q; cases q
        | some u => have := (lea u hq).1; have := (lea u hq).2 y q; omega
      · simp at q; subst q; exact Int.le_refl _
end
end K30

/-! watches: the law's turn, from its beginning. -/
namespace K30
open PySem PySem.Spec PyProof.Rows L2 VL Fine
variable {K : PySem.W.Frag}
section
variable {Z : EndsD} {S0 S : Sto} {m : Addr} {L : List Bx} {N : Nat} {x0 x1 x2 x3 x5 x6 x7 x8 x9 x10 x11 x12 x13 x14 x15 x16 x17 x18 : Option D} {i : Nat} {x : Bx} {t : Int} {ns : List Int}
theorem tl5_ok (h : Bxs K S0 S m L N) (hi : L[i]? = some x) (hN : N + 1 ≤ 40) (hll : L.length ≤ 40) (hns : ns.length = 8) (t0 : 0 ≤ t) (t1 : t ≤ 100 * ((N + 1 : Nat) : Int)) (tl : ∀ u, x.lt = some u → u < t)
    (hz : ∀ x' z10 z11 z12 z13 z15 z16 z17 S', Bxs K S0 S' m (L.set i x') (N + 1) → Z.nx [x0, x1, x2, x3, some (.ref m), x5, some (.lst (ns.map D.int)), x7, some (.ref x.b), some (.int t), z10, z11, z12, z13, x14, z15, z16, z17, x18] S') :
    tl5 K Z [x0, x1, x2, x3, some (.ref m), x5, some (.lst (ns.map D.int)), x7, some (.ref x.b), some (.int t), x10, x11, x12, x13, x14, x15, x16, x17, x18] S := by
  have ox := h.ok x (List.mem_of_getElem? hi)
  have vx : vw S (.ref x.b) = .lst (boxL x) := vw_ref_lst ox.hb
  have z1 : atI (boxL x) 0 = some (.ref x.a) := rfl
  have ia := ox.hw.i
  unfold wO at ia
  simp [-List.lookup_eq_none_iff, tl5, vx, z1, ia, no_copied]
  refine ⟨x.a, x.e, x.R, _, _, _, rfl, ox.hw, ox.vr, fun a' e' S' hw' na ne kp => ?_⟩
  have kS : Ke [] S S' := fun p _ => by
    by_cases c1 : p = a'
    · subst c1; exact .inl na
    · by_cases c2 : p = e'
      · subst c2; exact .inl ne
      · rcases kp p c1 c2 with q | q
        · exact .inl q
        · exact .inr q.symm
  exact tl6_ok h hi hN hll hns kS na ne hw' t0 t1 tl fun x' z11 z12 z13 z15 z16 z17 S' hB => hz x' _ _ _ _ _ _ _ S' hB
theorem ev_asg {de : TEd} {gd : TGd} {Y : EndsD} {σ : Sd} {S : Sto} (d : D) (h1 : ∀ Q' : QD, Q' d S → de σ S Q' (Y.ex σ)) (h2 : gd d σ S Y.nx) : dAsg de gd Y σ S := h1 _ h2
theorem ev_if {c : TTd} {t u : TSd} {Y : EndsD} {σ : Sd} {S : Sto} (b : Bool) (h1 : ∀ Q' : Bool → Sto → Prop, Q' b S → c σ S Q' (Y.ex σ)) (h2 : if b = true then t Y σ S else u Y σ S) : dIf c t u Y σ S := h1 _ h2
theorem ev_op {rd : R2d} {da db : TEd} {σ : Sd} {S : Sto} {Q : QD} {E : XD} (x y : D) (h1 : ∀ Q' : QD, Q' x S → da σ S Q' E) (h2 : ∀ Q' : QD, Q' y S → db σ S Q' E) (h3 : rd x y S Q) : dOp rd da db σ S Q E := h1 _ (h2 _ h3)
theorem ev_lst {da : TAd} {σ : Sd} {S : Sto} {Q : QD} {E : XD} (ds : List D) (h1 : ∀ Q' : List D → Sto → Prop, Q' ds S → da σ S Q' E) (hl : ds.length ≤ sizeLine) (h2 : Q (.lst ds) S) : dLst da σ S Q E := h1 _ ⟨hl, h2⟩
theorem ev_cons {de : TEd} {dr : TAd} {σ : Sd} {S : Sto} {Q : List D → Sto → Prop} {E : XD} (d : D) (ds : List D) (h1 : ∀ Q' : QD, Q' d S → de σ S Q' E) (h2 : ∀ Q' : List D → Sto → Prop, Q' ds S → dr σ S Q' E) (h3 : Q (d :: ds) S) : dCons de dr σ S Q E := h1 _ (h2 _ h3)
theorem tl3_ok (h : Bxs K S0 S m L N) (hi : L[i]? = some x) (hN : N + 1 ≤ 40) (hll : L.length ≤ 40) (hns : ns.length = 8)
    (hz : ∀ x' z9 z10 z11 z12 z13 z15 z16 z17 S', Bxs K S0 S' m (L.set i x') (N + 1) → Z.nx [x0, x1, x2, x3, some (.ref m), x5, some (.lst (ns.map D.int)), x7, some (.ref x.b), z9, z10, z11, z12, z13, x14, z15, z16, z17, x18] S') :
    tl3 K Z [x0, x1, x2, x3, some (.ref m), x5, some (.lst (ns.map D.int)), x7, some (.ref x.b), x9, x10, x11, x12, x13, x14, x15, x16, x17, x18] S := by
  have ox := h.ok x (List.mem_of_getElem? hi)
  have vx : vw S (.ref x.b) = .lst (boxL x) := vw_ref_lst ox.hb
  have z3 : atI (boxL x) 3 = some (optD x.lt) := rfl
  have zr : atI (boxL x) 1 = some (ruD x.R) := rfl
  have r5 : ∀ a b c d e f g : D, atI [a, b, c, d, e, f, g] 5 = some f := fun _ _ _ _ _ _ _ => rfl
  have e3 : atI (ns.map D.int) 3 = some (.int (ns.getD 3 0)) := at_g (k := 3) (by omega)
  have e4 : atI (ns.map D.int) 4 = some (.int (ns.getD 4 0)) := at_g (k := 4) (by omega)
  generalize ns.getD 3 0 = g3 at e3
  generalize ns.getD 4 0 = g4 at e4
  simp only [tl3, tl4, z_dSeq, z_dAsg, z_dC, z_hName, List.set_cons_succ, List.set_cons_zero]
  cases hl : x.lt with
  | none =>
    rw [hl] at z3
    refine ev_if false (fun Q q => ?_) ?_
    · simp [vx, z3, optD, VL.isNon]
      exact q
    · exact tl5_ok h hi hN hll hns (Int.le_refl _) (by omega) (fun u hu => by rw [hl] at hu; cases hu) fun x' z10 z11 z12 z13 z15 z16 z17 S' hB => hz x' _ _ _ _ _ _ _ _ S' hB
  | some u =>
    rw [hl] at z3
    obtain ⟨u0, u1, _⟩ := ox.le u hl
    obtain ⟨y, ey, d, rfl, d0, d1⟩ := pick (l := [D.int 0, D.int (g3 % 3), D.int x.R.ru.hold]) (d := g4 % 3) (fun y => ∃ b : Int, y = .int b ∧ 0 ≤ b ∧ b ≤ 99) (by omega) (by simp; omega) (by
      have l0 := ox.vr.2.2.2.2.2.2.1
      have l1 := ox.vr.2.2.2.2.2.2.2.1
      intro y hy
      simp at hy
      rcases hy with rfl | rfl | rfl
      · exact ⟨_, rfl, by omega, by omega⟩
      · exact ⟨_, rfl, by omega, by omega⟩
      · exact ⟨_, rfl, l0, l1⟩)
    refine ev_if true (fun Q q => ?_) ?_
    · simp [vx, z3, optD, VL.isNon]
      exact q
    rw [if_pos rfl]
    refine ev_asg (.int (u + 1 + d)) (fun Q q => ?_) ?_
    · refine ev_op (.int (u + 1)) (.int d) (fun Q q => ?_) (fun Q q => ?_) ?_
      · simp [vx, z3, optD]
        exact q
      · refine ev_op (.lst [D.int 0, D.int (g3 % 3), D.int x.R.ru.hold]) (.int (g4 % 3)) (fun Q q => ?_) (fun Q q => ?_) ?_
        · refine ev_lst [D.int 0, D.int (g3 % 3), D.int x.R.ru.hold] (fun Q q => ?_) three_le q
          refine ev_cons (.int 0) _ (fun Q q => q) (fun Q q => ?_) q
          refine ev_cons (.int (g3 % 3)) _ (fun Q q => ?_) (fun Q q => ?_) q
          · simp [e3]
            exact q
          refine ev_cons (.int x.R.ru.hold) _ (fun Q q => ?_) (fun Q q => q) q
          simp [vx, zr, vw_ru, r5]
          exact q
        · simp [e4]
          exact q
        · simp [ey]
          exact q
      · simp
        exact q
    simp only [z_hName, List.set_cons_succ, List.set_cons_zero]
    exact tl5_ok h hi hN hll hns (by omega) (by omega) (fun u' hu => by rw [hl] at hu; cases hu; omega) fun x' z10 z11 z12 z13 z15 z16 z17 S' hB => hz x' _ _ _ _ _ _ _ _ S' hB
theorem at_mod {L : List Bx} {g : Int} (hl : 0 < L.length) : ∃ (i : Nat) (x : Bx), L[i]? = some x ∧ atI (L.map fun x : Bx => D.ref x.b) (g % (L.length : Int)) = some (.ref x.b) := by
  have j0 := Int.emod_nonneg g (show (L.length : Int) ≠ 0 by omega)
  have j1 := Int.emod_lt_of_pos g (show (0 : Int) < (L.length : Int) by omega)
  obtain ⟨k, hk⟩ : ∃ k : Nat, (k : Int) = g % (L.length : Int) := ⟨(g % (L.length : Int)).toNat, by omega⟩
  have hkl : k < L.length := by omega
  refine ⟨k, L[k]'hkl, List.getElem?_eq_getElem hkl, ?_⟩
  rw [← hk]
  exact at_n (by rw [List.getElem?_map, List.getElem?_eq_getElem hkl]; rfl)
theorem tl2_ok (h : Bxs K S0 S m L N) (hL : 0 < L.length) (hN : N + 1 ≤ 40) (hll : L.length ≤ 40) (hns : ns.length = 8)
    (hz : ∀ i x' z8 z9 z10 z11 z12 z13 z15 z16 z17 S', Bxs K S0 S' m (L.set i x') (N + 1) → Z.nx [x0, x1, x2, x3, some (.ref m), x5, some (.lst (ns.map D.int)), x7, z8, z9, z10, z11, z12, z13, x14, z15, z16, z17, x18] S') :
    tl2 K Z [x0, x1, x2, x3, some (.ref m), x5, some (.lst (ns.map D.int)), x7, x8, x9, x10, x11, x12, x13, x14, x15, x16, x17, x18] S := by
  have vm : vw S (.ref m) = .lst (L.map fun x => .ref x.b) := vw_ref_lst h.hm
  have e2 : atI (ns.map D.int) 2 = some (.int (ns.getD 2 0)) := at_g (k := 2) (by omega)
  generalize ns.getD 2 0 = g2 at e2
  obtain ⟨i, x, hi, ea⟩ := at_mod (g := g2) hL
  simp [tl2, vm, e2, ea]
  refine ⟨by omega, ?_⟩
  exact tl3_ok h hi hN hll hns fun x' z9 z10 z11 z12 z13 z15 z16 z17 S' hB => hz i x' _ _ _ _ _ _ _ _ _ S' hB
theorem tl1_ok (h : Bxs K S0 S m L N) (hL : 0 < L.length) (hL4 : L.length ≤ 4) (hN : N + 1 ≤ 40) (hns : ns.length = 8)
    (hz : ∀ L' z7 z8 z9 z10 z11 z12 z13 z15 z16 z17 S', Bxs K S0 S' m L' (N + 1) → 0 < L'.length → L'.length ≤ 4 → Z.nx [x0, x1, x2, x3, some (.ref m), x5, some (.lst (ns.map D.int)), z7, z8, z9, z10, z11, z12, z13, x14, z15, z16, z17, x18] S') :
    tl1 K Z [x0, x1, x2, x3, some (.ref m), x5, some (.lst (ns.map D.int)), x7, x8, x9, x10, x11, x12, x13, x14, x15, x16, x17, x18] S := by
  have vm : vw S (.ref m) = .lst (L.map fun x => .ref x.b) := vw_ref_lst h.hm
  have e0 : atI (ns.map D.int) 0 = some (.int (ns.getD 0 0)) := at_g (k := 0) (by omega)
  have e1 : atI (ns.map D.int) 1 = some (.int (ns.getD 1 0)) := at_g (k := 1) (by omega)
  generalize ns.getD 0 0 = g0 at e0
  generalize ns.getD 1 0 = g1 at e1
  by_cases c : L.length < 4
  · by_cases c2 : g0 % 5 = 0
    · obtain ⟨i, x, hi, ea⟩ := at_mod (g := g1) hL
      have ox := h.ok x (List.mem_of_getElem? hi)
      have vx : vw S (.ref x.b) = .lst (boxL x) := vw_ref_lst ox.hb
      have z1 : atI (boxL x) 0 = some (.ref x.a) := rfl
      have zr : atI (boxL x) 1 = some (ruD x.R) := rfl
      have zq : atI (boxL x) 2 = some (.ref x.q) := rfl
      have z3 : atI (boxL x) 3 = some (optD x.lt) := rfl
      have ia := ox.hw.i
      unfold wO at ia
      have c' : (L.length : Int) < 4 := by omega
      have c0 : (0 : Int) < L.length := by omega
      simp only [tl1, z_dSeq]
      refine ev_if true (fun Q q => ?_) ?_
      · simp [vm, e0, c, c', c2]
        exact q
      rw [if_pos rfl, z_dSeq]
      refine ev_asg (.ref x.b) (fun Q q => ?_) ?_
      · simp [vm, e1, ea]
        exact ⟨by omega, q⟩
      simp [-List.lookup_eq_none_iff, vx, z1, h.hm, ia, no_copied]
      refine ⟨x.a, x.e, x.R, _, _, _, rfl, ox.hw, ox.vr, fun a' e' S1 hw' na ne kp => ?_⟩
      have kS : Ke [] S S1 := fun p _ => by
        by_cases c1 : p = a'
        · subst c1; exact .inl na
        · by_cases c2 : p = e'
          · subst c2; exact .inl ne
          · rcases kp p c1 c2 with q | q
            · exact .inl q
            · exact .inr q.symm
      have h1 := h.keep kS (Nat.le_refl N)
      have ox1 := h1.ok x (List.mem_of_getElem? hi)
      have vx1 : vw S1 (.ref x.b) = .lst (boxL x) := vw_ref_lst ox1.hb
      have vq1 : vw S1 (.ref x.q) = .lst (x.rows.map rowD) := vw_ref_lst ox1.hq
      simp [vx1, zr, zq, vq1]
      intro p hp
      have hp0 : S p = none := by
        rcases kS p (by simp) with q | q
        · exact q
        · rw [← q]; exact hp
      have pb : x.b ≠ p := fun e => by have := ox1.hb; rw [e, hp] at this; cases this
      have vx2 : vw (put S1 p (.lst (x.rows.map rowD))) (.ref x.b) = .lst (boxL x) := vw_ref_lst (by rw [put_ne pb]; exact ox1.hb)
      simp [vx2, z3, four]
      intro b' hb
      have bp : b' ≠ p := fun e => by rw [e, put_same] at hb; cases hb
      have hb1 : S1 b' = none := by rw [put_ne bp] at hb; exact hb
      have hb0 : S b' = none := by
        rcases kS b' (by simp) with q | q
        · exact q
        · rw [← q]; exact hb1
      have mp : m ≠ p := fun e => by have := h1.hm; rw [e, hp] at this; cases this
      have mb : m ≠ b' := fun e => by have := h1.hm; rw [e, hb1] at this; cases this
      have ap : a' ≠ p := fun e => by have := hw'.i; rw [e, hp] at this; cases this
      have ab : a' ≠ b' := fun e => by have := hw'.i; rw [e, hb1] at this; cases this
      have ep : e' ≠ p := fun e => by have := hw'.l; rw [e, hp] at this; cases this
      have eb : e' ≠ b' := fun e => by have := hw'.l; rw [e, hb1] at this; cases this
      have ma : m ≠ a' := fun e => by have := h.hm; rw [e, na] at this; cases this
      have me : m ≠ e' := fun e => by have := h.hm; rw [e, ne] at this; cases this
      have cl : L.length < sizeLine := by have := sizeLine_eq; omega
      simp [put_ne mb, put_ne mp, h1.hm, cl]
      have hB : Bxs K S0 (put (put (put S1 p (.lst (x.rows.map rowD))) b' (.lst [.ref a', ruD x.R, .ref p, optD x.lt])) m (.lst ((L.map fun x => .ref x.b) ++ [.ref b']))) m (L ++ [{ b := b', a := a', e := e', q := p, R := x.R, rows := x.rows, lt := x.lt }]) N := by
        refine h.add ⟨?_, ?_, ?_, ox.vr, ox.v, ox.le, ox.nn⟩ (fun y hy => ?_) ?_ (by rw [put_same]; simp) (fun y hy => ?_)
        · rw [put_ne (Ne.symm mb), put_same]; rfl
        · rw [put_ne (Ne.symm mp), put_ne (Ne.symm bp), put_same]
        · exact ⟨by rw [put_ne (Ne.symm ma), put_ne ab, put_ne ap]; exact hw'.i, by rw [put_ne (Ne.symm me), put_ne eb, put_ne ep]; exact hw'.l, hw'.n, hw'.ok⟩
        · simp [adr] at hy
          rcases hy with rfl | rfl | rfl | rfl <;> assumption
        · simp [adr]
          exact ⟨⟨Ne.symm ab, Ne.symm eb, bp⟩, ⟨hw'.n, ap⟩, ep⟩
        · simp [adr] at hy
          rw [put_ne hy.1, put_ne hy.2.1, put_ne hy.2.2.2.2]
          exact kS y (by simp)
      exact tl2_ok hB (by simp) hN (by simp; omega) hns fun i x' z8 z9 z10 z11 z12 z13 z15 z16 z17 S' hB' => hz _ _ _ _ _ _ _ _ _ _ _ S' hB' (by simp) (by simp; omega)
    · have c' : (L.length : Int) < 4 := by omega
      simp only [tl1, z_dSeq]
      refine ev_if false (fun Q q => ?_) ?_
      · simp [vm, e0, c, c', c2]
        exact q
      exact tl2_ok h hL hN (by omega) hns fun i x' z8 z9 z10 z11 z12 z13 z15 z16 z17 S' hB' => hz _ _ _ _ _ _ _ _ _ _ _ S' hB' (by simp; exact hL) (by simp; exact hL4)
  · have c' : ¬ ((L.length : Int) < 4) := by omega
    simp only [tl1, z_dSeq]
    refine ev_if false (fun Q q => ?_) ?_
    · simp [vm, c, c']
      exact q
    exact tl2_ok h hL hN (by omega) hns fun i x' z8 z9 z10 z11 z12 z13 z15 z16 z17 S' hB' => hz _ _ _ _ _ _ _ _ _ _ _ S' hB' (by simp; exact hL) (by simp; exact hL4)
end
theorem c_loop {Z : EndsD} {S0 : Sto} {m : Addr} {x0 x1 x2 x3 x14 x18 : Option D}
    (hz : ∀ L N z5 z6 z7 z8 z9 z10 z11 z12 z13 z15 z16 z17 S', Bxs K S0 S' m L N → 0 < L.length → N ≤ 40 → Z.nx [x0, x1, x2, x3, some (.ref m), z5, z6, z7, z8, z9, z10, z11, z12, z13, x14, z15, z16, z17, x18] S') :
    ∀ (cs : List Int) (S : Sto) (L : List Bx) (N : Nat) (y5 y6 y7 y8 y9 y10 y11 y12 y13 y15 y16 y17 : Option D), Bxs K S0 S m L N → 0 < L.length → L.length ≤ 4 → N + cs.length ≤ 40 →
    dForL (G0 K) (B0 K) Z (cs.map D.int) [x0, x1, x2, x3, some (.ref m), y5, y6, y7, y8, y9, y10, y11, y12, y13, x14, y15, y16, y17, x18] S
  | [], S, L, N, y5, y6, y7, y8, y9, y10, y11, y12, y13, y15, y16, y17, h, hL, hL4, hN => hz _ _ _ _ _ _ _ _ _ _ _ _ _ _ S h hL (by simpa using hN)
  | c :: cs, S, L, N, y5, y6, y7, y8, y9, y10, y11, y12, y13, y15, y16, y17, h, hL, hL4, hN => by
    simp only [List.length_cons] at hN
    rw [List.map_cons, for_cons]
    simp only [u_g_law_0, z_hName, List.set_cons_succ, List.set_cons_zero]
    rw [u_B0]
    simp only [z_dSeq, z_dAsg, z_dCall, z_dCons, z_dNil, z_dVar, z_dC, List.set_cons_succ, List.set_cons_zero, List.getElem?_cons_succ, List.getElem?_cons_zero, List.append_nil]
    refine ⟨c, 8, 29, rfl, by decide, by decide, by decide, by decide, fun ns hn hb => ?_⟩
    have hn' : ns.length = 8 := hn
    simp only [z_hName, List.set_cons_succ, List.set_cons_zero]
    exact tl1_ok h hL hL4 (by omega) hn' fun L' z7 z8 z9 z10 z11 z12 z13 z15 z16 z17 S' hB hl hl4 => c_loop hz cs S' L' (N + 1) _ _ _ _ _ _ _ _ _ _ _ _ hB hl hl4 (by omega)
end K30

/-! watches: the law. -/
namespace K30
open PySem PySem.Spec PyProof.Rows L2 VL Fine
variable {K : PySem.W.Frag}
theorem goods_pw {rows : List Row} (p : rows.Pairwise fun x y => x.1 < y.1) (u : Int) : (goods rows u).Pairwise fun x y => x.1 < y.1 := by
  rw [← goods_filter]
  exact (goodR_pw p).filter _
theorem goods_mem {rows : List Row} {u : Int} {x : Int × Int} (h : x ∈ goods rows u) : x.1 ≤ u ∧ ∃ y ∈ rows, y.1 = x.1 := by
  rw [← goods_filter] at h
  obtain ⟨h1, h2⟩ := List.mem_filter.mp h
  obtain ⟨y, hy, e, _⟩ := goodR_mem h1
  exact ⟨by simpa using h2, y, hy, e⟩
theorem wat_cl {R : Rule} (vr : VRu R) {rows : List Row} (v : VR rows) {u : Int} (u0 : 0 ≤ u) : Wat.Cl u (wat R rows u) :=
  Wat.cl_run vr.2.2.2.2.2.2.1 (goods_pw v.2.1 u) (fun x hx => by
    obtain ⟨h1, y, hy, e⟩ := goods_mem hx
    exact ⟨by rw [← e]; exact (v.1 y hy).1, h1⟩) u0
theorem st_bound {T : Int} {w : Wat.Wt} (h : Wat.Cl T w) : ∀ s, stS w.st = .int s → 0 ≤ s ∧ s ≤ T := by
  obtain ⟨ev, st⟩ := w
  obtain ⟨_, h⟩ := h
  cases st with
  | quiet => intro s e; cases e
  | waits u => intro s e; cases e; exact h.1
  | stands u => intro s e; cases e; exact ⟨h.1, h.2.1⟩
theorem bx_bound {S : Sto} {x : Bx} {N : Nat} (h : BxOk K S x N) (hN : N ≤ 40) : ∀ s, stS (watL x.R x.rows x.lt).st = .int s → s.natAbs ≤ 100000 := by
  intro s e
  cases hl : x.lt with
  | none => rw [hl] at e; cases e
  | some t =>
    rw [hl] at e
    have := st_bound (wat_cl h.vr (h.vr_rows hN) (h.le t hl).1) s e
    have := (h.le t hl).2.1
    omega
theorem box_new {i : Nat} {σ : Sd} {S : Sto} {Q : QD} {E : XD} {R : Rule} (hσ : σ[i]? = some (some (ruD R))) (vr : VRu R)
    (h : ∀ x T, BxOk K T x 0 → (∀ p ∈ adr x, S p = none) → (adr x).Nodup → Ke [] S T → Q (.ref x.b) T) :
    dLstM (dCons (dMake (He.ga K "Watch") (sp_init K) [] (dCons (dVar i) dNil)) (dCons (dVar i) (dCons (dLstM dNil) (dCons (dC .non) dNil)))) σ S Q E := by
  simp only [z_dLstM, z_dCons, z_dNil, z_dMake, z_dVar, z_dC, hσ, List.append_nil]
  intro a ha
  refine ⟨a, R, rfl, put_same, vr, fun e S1 hw he k1 => ⟨rfl, zero_le, fun q hq => ⟨four, fun b hb => ?_⟩⟩⟩
  have ea : e ≠ a := Ne.symm hw.n
  have he0 : S e = none := by rw [put_ne ea] at he; exact he
  have qa : q ≠ a := fun z => by rw [z, hw.i] at hq; cases hq
  have qe : q ≠ e := fun z => by rw [z, hw.l] at hq; cases hq
  have keep : ∀ p, p ≠ a → p ≠ e → S p = none ∨ S1 p = S p := fun p h1 h2 => by
    rcases k1 p h1 h2 with z | z
    · rw [put_ne h1] at z; exact .inl z
    · rw [put_ne h1] at z; exact .inr z.symm
  have hq0 : S q = none := by
    rcases keep q qa qe with z | z
    · exact z
    · rw [← z]; exact hq
  have bq : b ≠ q := fun z => by rw [z, put_same] at hb; cases hb
  have hb1 : S1 b = none := by rw [put_ne bq] at hb; exact hb
  have ba : b ≠ a := fun z => by rw [z, hw.i] at hb1; cases hb1
  have be : b ≠ e := fun z => by rw [z, hw.l] at hb1; cases hb1
  have hb0 : S b = none := by
    rcases keep b ba be with z | z
    · exact z
    · rw [← z]; exact hb1
  refine h { b := b, a := a, e := e, q := q, R := R, rows := [], lt := none } _ ⟨put_same, by rw [put_ne (Ne.symm bq), put_same]; rfl, ⟨?_, ?_, hw.n, hw.ok⟩, vr, ⟨fun y hy => (by cases hy), List.Pairwise.nil, Nat.le_refl _⟩, fun t ht => (by cases ht), fun _ => rfl⟩ (fun p hp => ?_) ?_ fun p _ => ?_
  · rw [put_ne (Ne.symm ba), put_ne (Ne.symm qa)]; exact hw.i
  · rw [put_ne (Ne.symm be), put_ne (Ne.symm qe)]; exact hw.l
  · simp [adr] at hp
    rcases hp with rfl | rfl | rfl | rfl <;> assumption
  · simp [adr]
    exact ⟨⟨ba, be, bq⟩, ⟨hw.n, Ne.symm qa⟩, Ne.symm qe⟩
  · by_cases c1 : p = b
    · subst c1; exact .inl hb0
    · by_cases c2 : p = q
      · subst c2; exact .inl hq0
      · by_cases c3 : p = a
        · subst c3; exact .inl ha
        · by_cases c4 : p = e
          · subst c4; exact .inl he0
          · rw [put_ne c1, put_ne c2]; exact keep p c3 c4
theorem two_new {σ : Sd} {S : Sto} {Q : QD} {E : XD} {R R2 : Rule} (h1 : σ[2]? = some (some (ruD R))) (h2 : σ[3]? = some (some (ruD R2))) (vr : VRu R) (vr2 : VRu R2)
    (h : ∀ m L T, Bxs K S T m L 0 → L.length = 2 → Q (.ref m) T) :
    dLstM (dCons (dLstM (dCons (dMake (He.ga K "Watch") (sp_init K) [] (dCons (dVar 2) dNil)) (dCons (dVar 2) (dCons (dLstM dNil) (dCons (dC .non) dNil))))) (dCons (dLstM (dCons (dMake (He.ga K "Watch") (sp_init K) [] (dCons (dVar 3) dNil)) (dCons (dVar 3) (dCons (dLstM dNil) (dCons (dC .non) dNil))))) dNil)) σ S Q E := by
  rw [z_dLstM, z_dCons]
  refine box_new h1 vr fun x T ox fx nx kx => ?_
  rw [z_dCons]
  refine box_new h2 vr2 fun y U oy fy ny ky => ?_
  rw [z_dNil]
  refine ⟨two, fun m hm => ?_⟩
  have ox' := ox.kept ky (by simp) (Nat.le_refl 0)
  have xs : ∀ p ∈ adr x, ∃ o, T p = some o := fun p hp => by
    simp [adr] at hp
    rcases hp with rfl | rfl | rfl | rfl
    · exact ⟨_, ox.hb⟩
    · exact ⟨_, ox.hw.i⟩
    · exact ⟨_, ox.hw.l⟩
    · exact ⟨_, ox.hq⟩
  have ys : ∀ p ∈ adr y, ∃ o, U p = some o := fun p hp => by
    simp [adr] at hp
    rcases hp with rfl | rfl | rfl | rfl
    · exact ⟨_, oy.hb⟩
    · exact ⟨_, oy.hw.i⟩
    · exact ⟨_, oy.hw.l⟩
    · exact ⟨_, oy.hq⟩
  have xU : ∀ p ∈ adr x, ∃ o, U p = some o := fun p hp => by
    obtain ⟨o, ho⟩ := xs p hp
    exact ⟨o, ky.at_ ho (by simp)⟩
  have mx : m ∉ adr x := fun z => by obtain ⟨o, ho⟩ := xU m z; rw [hm] at ho; cases ho
  have my : m ∉ adr y := fun z => by obtain ⟨o, ho⟩ := ys m z; rw [hm] at ho; cases ho
  have dis : ∀ p ∈ adr x, p ∉ adr y := fun p hp hq => by
    obtain ⟨o, ho⟩ := xs p hp
    rw [fy p hq] at ho; cases ho
  have fyS : ∀ p ∈ adr y, S p = none := fun p hp => by
    rcases kx p (by simp) with z | z
    · exact z
    · rw [← z]; exact fy p hp
  have mS : S m = none := by
    rcases kx m (by simp) with z | z
    · exact z
    · rcases ky m (by simp) with w | w
      · rw [← z]; exact w
      · rw [← z, ← w]; exact hm
  have km : Ke [] U (put U m (.lst [.ref x.b, .ref y.b])) := fun p _ => by
    by_cases c : p = m
    · subst c; exact .inl hm
    · exact .inr (put_ne c)
  have kS := (kx.trans ky (fun y hy => by cases hy)).trans km (fun y hy => by cases hy)
  refine h m [x, y] _ ⟨put_same, fun z hz => ?_, ?_, fun p hp => ?_, fun p => ?_⟩ rfl
  · simp at hz
    rcases hz with rfl | rfl
    · exact ox'.kept km (by simp) (Nat.le_refl 0)
    · exact oy.kept km (by simp) (Nat.le_refl 0)
  · show (m :: (adr x ++ (adr y ++ []))).Nodup
    rw [List.append_nil, List.nodup_cons, List.nodup_append]
    exact ⟨fun z => (List.mem_append.mp z).elim mx my, nx, ny, fun a ha b hb e => dis a ha (by rw [e]; exact hb)⟩
  · have hp' : p ∈ m :: (adr x ++ (adr y ++ [])) := hp
    rw [List.append_nil] at hp'
    rcases List.mem_cons.mp hp' with rfl | q
    · exact mS
    · rcases List.mem_append.mp q with q | q
      · exact fx p q
      · exact fyS p q
  · rcases kS p (by simp) with z | z
    · exact .inl z
    · exact .inr z.symm
theorem cut333 (ns : List Int) : ∃ cs : List Int, VL.cutD (ns.map D.int) (some 3) (some 33) = cs.map D.int ∧ cs.length ≤ 30 := by
  unfold VL.cutD
  rw [show (some (3 : Int)) = some ((3 : Nat) : Int) from rfl, show (some (33 : Int)) = some ((33 : Nat) : Int) from rfl, HT.sIx_nat, HT.sIx_nat, List.length_map]
  refine ⟨(ns.drop (min 3 ns.length)).take (min 33 ns.length - min 3 ns.length), by rw [List.map_take, List.map_drop], ?_⟩
  rw [List.length_take]
  omega
theorem cut7 (ns : List Int) : VL.cutD (ns.map D.int) (some 7) none = (ns.drop (min 7 ns.length)).map D.int := by
  unfold VL.cutD
  rw [show (some (7 : Int)) = some ((7 : Nat) : Int) from rfl, HT.sIx_nat, HT.sIx_none, List.length_map]
  rw [List.map_drop, List.take_of_length_le]
  simp
theorem cutA {a b c d e f g : D} : VL.cutD [a, b, c, d, e, f, g] (some 1) none = [b, c, d, e, f, g] := rfl
theorem cutB {a b c d e f g : D} : VL.cutD [a, b, c, d, e, f, g] none (some 1) = [a] := rfl
theorem cutC {a b c d e f g : D} : VL.cutD [a, b, c, d, e, f, g] (some 2) none = [c, d, e, f, g] := rfl
def tail30 (K : PySem.W.Frag) : TSd := (dSeq (dFor (nAny (dLst (dCons (dC .non) (dCons (dC (.int 0)) (dCons (dVar 2) (dCons (dFrz (dMeth (He.ga K "Watch") "events" (sp_events K) [] (dOp dIx (dOp dIx (dVar 4) (dC (.int 0))) (dC (.int 0))) dNil)) (dCons (dC (.str "watch")) dNil))))))) (G3 K) (B3 K)) (dRet (dCB dIsi (dCons (dCB (dReprI (He.ga K "Watch") (sp_repr K)) (dCons (dOp dIx (dOp dIx (dVar 4) (dC (.int 0))) (dC (.int 0))) dNil)) (dCons (dC (.ty "str")) dNil)))))
theorem th_loop {Z : EndsD} {S0 S : Sto} {m : Addr} {L : List Bx} {N : Nat} {x0 x1 x2 x3 x5 x6 x7 x8 x9 x10 x11 x12 x13 x14 x15 x16 x17 : Option D} {x : Bx} (h : Bxs K S0 S m L N) (hx : L[0]? = some x)
    (hz : ∀ z18, Z.nx [x0, x1, x2, x3, some (.ref m), x5, x6, x7, x8, x9, x10, x11, x12, x13, x14, x15, x16, x17, z18] S) :
    ∀ (ds : List D) (y18 : Option D), (∀ d ∈ ds, (tyN (vw S d)).isSome = true) → dForL (G3 K) (B3 K) Z ds [x0, x1, x2, x3, some (.ref m), x5, x6, x7, x8, x9, x10, x11, x12, x13, x14, x15, x16, x17, y18] S
  | [], _, _ => hz _
  | d :: ds, y18, hd => by
    have next := fun z18 => th_loop h hx hz ds z18 (fun d hd' => hd d (List.mem_cons_of_mem _ hd'))
    have td := hd d (List.mem_cons_self ..)
    have ox := h.ok x (List.mem_of_getElem? hx)
    have vm : vw S (.ref m) = .lst (L.map fun x => .ref x.b) := vw_ref_lst h.hm
    have vx : vw S (.ref x.b) = .lst (boxL x) := vw_ref_lst ox.hb
    have b0 : atI (L.map fun x => D.ref x.b) 0 = some (.ref x.b) := at_n (k := 0) (by rw [List.getElem?_map, hx]; rfl)
    have z1 : atI (boxL x) 0 = some (.ref x.a) := rfl
    have ia := ox.hw.i
    unfold wO at ia
    rw [for_cons]
    simp only [u_g_law_3, u_b_law_3, z_hName, List.set_cons_succ, List.set_cons_zero, z_dIf, z_dTest, z_dOp, z_dVar, z_dC, List.getElem?_cons_succ, List.getElem?_cons_zero, z_dIx, vm, vx, b0, z1, z_dEqI, z_dRet, z_dNext]
    refine ⟨⟨_, ia⟩, .inl td, x.a, x.e, x.R, _, _, _, d, rfl, ox.hw, ox.vr, .inr ⟨td, ?_⟩⟩
    simp only [id, Bool.false_eq_true, if_false]
    exact next _
theorem tail_ok {Z : EndsD} {S0 S : Sto} {m : Addr} {L : List Bx} {N : Nat} {x0 x1 x3 x5 x6 x7 x8 x9 x10 x11 x12 x13 x14 x15 x16 x17 x18 : Option D} {R : Rule} (h : Bxs K S0 S m L N) (hL : 0 < L.length) (hN : N ≤ 40) (hz : Z.rt (.bl true) S) :
    tail30 K Z [x0, x1, some (ruD R), x3, some (.ref m), x5, x6, x7, x8, x9, x10, x11, x12, x13, x14, x15, x16, x17, x18] S := by
  have hx : L[0]? = some L[0] := List.getElem?_eq_getElem hL
  generalize L[0] = x at hx
  have ox := h.ok x (List.mem_of_getElem? hx)
  have vm : vw S (.ref m) = .lst (L.map fun x => .ref x.b) := vw_ref_lst h.hm
  have vx : vw S (.ref x.b) = .lst (boxL x) := vw_ref_lst ox.hb
  have b0 : atI (L.map fun x => D.ref x.b) 0 = some (.ref x.b) := at_n (k := 0) (by rw [List.getElem?_map, hx]; rfl)
  have z1 : atI (boxL x) 0 = some (.ref x.a) := rfl
  have ia := ox.hw.i
  unfold wO at ia
  simp only [tail30, z_dSeq, z_dFor, z_nAny, z_dLst, z_dCons, z_dNil, z_dVar, z_dC, List.getElem?_cons_succ, List.getElem?_cons_zero, z_dFrz, z_dMeth, z_dOp, z_dIx, vm, vx, b0, z1, ia, no_events]
  refine ⟨trivial, trivial, x.a, x.e, x.R, _, _, _, rfl, ox.hw, fun p hp => frz_new hp ⟨five, ?_⟩⟩
  refine th_loop h hx (fun z18 => ?_) _ _ (fun d hd => ?_)
  · simp only [z_dRet, z_dCB, z_dCons, z_dNil, z_dReprI, z_dOp, z_dVar, z_dC, List.getElem?_cons_succ, List.getElem?_cons_zero, z_dIx, vm, vx, b0, z1]
    refine ⟨⟨_, ia⟩, x.a, x.e, x.R, _, _, _, rfl, ox.hw, ox.vr, bx_bound ox hN, fun z => ?_⟩
    simp [tyN, isT, kindsB]
    exact hz
  · simp at hd
    rcases hd with rfl | rfl | rfl | rfl | rfl <;> rfl
def rest30 (K : PySem.W.Frag) : TSd := (dSeq (dAsg (dLstM (dCons (dLstM (dCons (dMake (He.ga K "Watch") (sp_init K) [] (dCons (dVar 2) dNil)) (dCons (dVar 2) (dCons (dLstM dNil) (dCons (dC .non) dNil))))) (dCons (dLstM (dCons (dMake (He.ga K "Watch") (sp_init K) [] (dCons (dVar 3) dNil)) (dCons (dVar 3) (dCons (dLstM dNil) (dCons (dC .non) dNil))))) dNil))) (hName 4)) (dSeq (dFor (nAny (dOp dAdd (dSlice (dVar 0) (dPart (dC (.int 3))) (dPart (dC (.int 33)))) (dLst (dCons (dCall sp_cell_at [] (dCons (dVar 0) (dCons (dC (.int 2)) dNil))) dNil)))) (g_law_0 K sp_row sp_cell_at sp_rule (spAl 3) sp_stands (sp_copied K) (sp_go K) (sp_hear K) (sp_state K) (sp_events K) (sp_init K) (sp_eq K) (sp_repr K)) (b_law_0 K sp_row sp_cell_at sp_rule (spAl 3) sp_stands (sp_copied K) (sp_go K) (sp_hear K) (sp_state K) (sp_events K) (sp_init K) (sp_eq K) (sp_repr K))) (tail30 K)))
theorem u_law : d_law K sp_row sp_cell_at sp_rule (spAl 3) sp_stands (sp_copied K) (sp_go K) (sp_hear K) (sp_state K) (sp_events K) (sp_init K) (sp_eq K) (sp_repr K) = (dSeq (dAsg (dCall sp_row [] (dCons (dCall sp_cell_at [] (dCons (dVar 0) (dCons (dC (.int 0)) dNil))) (dCons (dC (.int 20)) (dCons (dC (.int 23)) dNil)))) (hName 1)) (dSeq (dPar 2 3 (dCons (dCall sp_rule [] (dCons (dC (.str "a")) (dCons (dC (.str "p")) (dCons (dVar 1) dNil)))) (dCons (dCall sp_rule [] (dCons (dOp dIx (dLst (dCons (dC (.str "a")) (dCons (dC (.str "b")) dNil))) (dOp dMod (dOp dIx (dVar 1) (dC (.int 15))) (dC (.int 2)))) (dCons (dOp dIx (dLst (dCons (dC (.str "p")) (dCons (dC (.str "q")) dNil))) (dOp dMod (dOp dIx (dVar 1) (dC (.int 16))) (dC (.int 2)))) (dCons (dSliceA (dVar 1) (dPart (dC (.int 7))) dNoPart) dNil)))) dNil))) (dSeq (dIf (dTest (dOp dGt (dOp dMod (dOp dIx (dVar 1) (dC (.int 14))) (dC (.int 3))) (dC (.int 0)))) (dAsg (dOp dIx (dLst (dCons (dVar 2) (dCons (dVar 2) (dCons (dOp dAddT (dTup (dCons (dC (.str "b")) dNil)) (dSliceA (dVar 2) (dPart (dC (.int 1))) dNoPart)) (dCons (dOp dAddT (dOp dAddT (dSliceA (dVar 2) dNoPart (dPart (dC (.int 1)))) (dTup (dCons (dC (.str "q")) dNil))) (dSliceA (dVar 2) (dPart (dC (.int 2))) dNoPart)) dNil))))) (dOp dMod (dOp dIx (dVar 1) (dC (.int 17))) (dC (.int 4)))) (hName 3)) dNext) (rest30 K)))) := rfl
theorem ok_law : BodyOk (d_law K sp_row sp_cell_at sp_rule (spAl 3) sp_stands (sp_copied K) (sp_go K) (sp_hear K) (sp_state K) (sp_events K) (sp_init K) (sp_eq K) (sp_repr K)) ["script", "row", "rule", "other", "some", "cell", "draws", "elder", "box", "time", "copy", "told", "worth", "stands", "one", "k", "j", "same", "thing"] (spdLaw 63) := by
  rintro _ S Q E ⟨sc, rfl, hl, h⟩
  obtain ⟨cs, ec, lc⟩ := cut333 sc
  rw [u_law]
  simp only [startD, List.map_cons, List.map_nil, List.length_cons, List.length_nil, List.replicate, List.cons_append, List.nil_append, z_dSeq, z_dAsg, z_dCall, z_dCons, z_dNil, z_dVar, z_dC, List.getElem?_cons_zero, List.append_nil]
  refine ⟨sc, 0, rfl, by decide, by decide, fun c => ?_⟩
  refine ⟨c, 20, 23, rfl, by decide, by decide, by decide, by decide, fun ns hn hb => ?_⟩
  have hn' : ns.length = 20 := hn
  have e14 : atI (ns.map D.int) 14 = some (.int (ns.getD 14 0)) := at_g (k := 14) (by omega)
  have e15 : atI (ns.map D.int) 15 = some (.int (ns.getD 15 0)) := at_g (k := 15) (by omega)
  have e16 : atI (ns.map D.int) 16 = some (.int (ns.getD 16 0)) := at_g (k := 16) (by omega)
  have e17 : atI (ns.map D.int) 17 = some (.int (ns.getD 17 0)) := at_g (k := 17) (by omega)
  generalize ns.getD 14 0 = g14 at e14
  generalize ns.getD 15 0 = g15 at e15
  generalize ns.getD 16 0 = g16 at e16
  generalize ns.getD 17 0 = g17 at e17
  simp only [z_hName, List.set_cons_succ, List.set_cons_zero, z_dPar, z_dCons, z_dNil, z_dCall, z_dVar, z_dC, List.getElem?_cons_succ, List.getElem?_cons_zero, List.append_nil]
  refine ⟨"a", "p", ns, rfl, by omega, .inl rfl, .inr (.inr (.inl rfl)), fun R vr => ?_⟩
  obtain ⟨y, ey, n2, rfl, hn2⟩ := pick (l := [D.str "a", D.str "b"]) (d := g15 % 2) (fun y => ∃ b, y = .str b ∧ Nm b) (by omega) (by simp; omega) (by
    intro y hy
    simp at hy
    rcases hy with rfl | rfl
    · exact ⟨_, rfl, .inl rfl⟩
    · exact ⟨_, rfl, .inr (.inl rfl)⟩)
  obtain ⟨y, ez, p2, rfl, hp2⟩ := pick (l := [D.str "p", D.str "q"]) (d := g16 % 2) (fun y => ∃ b, y = .str b ∧ Nm b) (by omega) (by simp; omega) (by
    intro y hy
    simp at hy
    rcases hy with rfl | rfl
    · exact ⟨_, rfl, .inr (.inr (.inl rfl))⟩
    · exact ⟨_, rfl, .inr (.inr (.inr rfl))⟩)
  simp [e15, e16, two, ey, ez, cut7]
  refine ⟨n2, p2, ns.drop (min 7 ns.length), by rw [List.map_drop], by simp; omega, hn2, hp2, fun R2 vr2 => ?_⟩
  have fin_ : ∀ R2, VRu R2 → rest30 K { nx := fun _ S' => fin Q .non S', rt := fin Q, ex := fun _ => finX E } [some (.lst (sc.map D.int)), some (.lst (ns.map D.int)), some (ruD R), some (ruD R2), none, none, none, none, none, none, none, none, none, none, none, none, none, none, none] S := by
    intro R2 vr2
    rw [rest30, z_dSeq, z_dAsg]
    refine two_new rfl rfl vr vr2 fun m L T hB hL => ?_
    simp only [z_hName, List.set_cons_succ, List.set_cons_zero, z_dSeq, z_dFor, z_nAny, z_dOp, z_dSlice, z_dVar, z_dPart, z_dC, List.getElem?_cons_succ, List.getElem?_cons_zero, vw_lst, ec, z_dLst, z_dCons, z_dNil, z_dCall, List.append_nil]
    refine ⟨sc, 2, rfl, by decide, by decide, fun c2 => ⟨one_le, ?_⟩⟩
    simp only [z_dAdd, vw_lst]
    refine ⟨sz (by simp; omega), one_le, sz (by simp; omega), ?_⟩
    have ea : cs.map D.int ++ [D.int c2] = (cs ++ [c2]).map D.int := by simp
    rw [ea]
    refine c_loop (S0 := S) (fun L N z5 z6 z7 z8 z9 z10 z11 z12 z13 z15 z16 z17 S' hB' hL' hN' => ?_) (cs ++ [c2]) T L 0 _ _ _ _ _ _ _ _ _ _ _ _ hB (by omega) (by omega) (by simp; omega)
    exact tail_ok hB' hL' hN' ⟨S, hB'.sb, h⟩
  by_cases c14 : 0 < g14 % 3
  · obtain ⟨y, ey, R3, rfl, vr3⟩ := pick (l := [ruD R, ruD R, ruD { R with name := "b" }, ruD { R with point := "q" }]) (d := g17 % 4) (fun y => ∃ R3, y = ruD R3 ∧ VRu R3) (by omega) (by simp; omega) (by
      obtain ⟨v1, v2, v3⟩ := vr
      intro y hy
      simp at hy
      rcases hy with rfl | rfl | rfl
      · exact ⟨_, rfl, v1, v2, v3⟩
      · exact ⟨_, rfl, .inr (.inl rfl), v2, v3⟩
      · exact ⟨_, rfl, v1, .inr (.inr (.inr rfl)), v3⟩)
    have f := fin_ R3 vr3
    have ey2 : atI [ruD R, ruD R, D.tup [D.str "b", D.str R.point, D.str (wordS R.ru.up), D.int R.ru.lim, D.int R.ru.back, D.int R.ru.hold, D.int R.pri], D.tup [D.str R.name, D.str "q", D.str (wordS R.ru.up), D.int R.ru.lim, D.int R.ru.back, D.int R.ru.hold, D.int R.pri]] (g17 % 4) = some (ruD R3) := ey
    simp [e14, c14, e17, vw_ru, cutA, cutB, cutC, one_le, two, four, six, seven]
    simp only [ey2]
    exact f
  · simp [e14, c14]
    exact fin_ R2 vr2
end K30

namespace K30
open PySem PySem.Spec PyProof.Rows L2 VL
def df0 : He.DefD := ⟨("Watch", some "end_now"), "end_now", "Watch.end_now", defArgs st_Watch_end_now, defBody st_Watch_end_now, defScope st_Watch_end_now, [], []⟩
def df1 : He.DefD := ⟨("Watch", some "events"), "events", "Watch.events", defArgs st_Watch_events, defBody st_Watch_events, defScope st_Watch_events, [], []⟩
def df2 : He.DefD := ⟨("Watch", some "is_due"), "is_due", "Watch.is_due", defArgs st_Watch_is_due, defBody st_Watch_is_due, defScope st_Watch_is_due, [], []⟩
def df3 : He.DefD := ⟨("Watch", some "raise_now"), "raise_now", "Watch.raise_now", defArgs st_Watch_raise_now, defBody st_Watch_raise_now, defScope st_Watch_raise_now, [], []⟩
def df4 : He.DefD := ⟨("Watch", some "state"), "state", "Watch.state", defArgs st_Watch_state, defBody st_Watch_state, defScope st_Watch_state, [], []⟩
def df5 : He.DefD := ⟨("_law_beyond", none), "_law_beyond", "_law_beyond", defArgs st__law_beyond, defBody st__law_beyond, defScope st__law_beyond, [], []⟩
def df6 : He.DefD := ⟨("_law_cell_at", none), "_law_cell_at", "_law_cell_at", defArgs st__law_cell_at, defBody st__law_cell_at, defScope st__law_cell_at, [], []⟩
def df7 : He.DefD := ⟨("_law_rests", none), "_law_rests", "_law_rests", defArgs st__law_rests, defBody st__law_rests, defScope st__law_rests, [], []⟩
def df8 : He.DefD := ⟨("_law_row", none), "_law_row", "_law_row", defArgs st__law_row, defBody st__law_row, defScope st__law_row, [], []⟩
def df9 : He.DefD := ⟨("_law_rule", none), "_law_rule", "_law_rule", defArgs st__law_rule, defBody st__law_rule, defScope st__law_rule, [], []⟩
def df10 : He.DefD := ⟨("is_at_rest", none), "is_at_rest", "is_at_rest", defArgs st_is_at_rest, defBody st_is_at_rest, defScope st_is_at_rest, [], []⟩
def df11 : He.DefD := ⟨("is_beyond", none), "is_beyond", "is_beyond", defArgs st_is_beyond, defBody st_is_beyond, defScope st_is_beyond, [], []⟩
def df12 : He.DefD := ⟨("is_name", none), "is_name", "is_name", defArgs st_is_name, defBody st_is_name, defScope st_is_name, [], []⟩
def df13 : He.DefD := ⟨("is_whole", none), "is_whole", "is_whole", defArgs st_is_whole, defBody st_is_whole, defScope st_is_whole, [], []⟩
def df14 : He.DefD := ⟨("is_word", none), "is_word", "is_word", defArgs st_is_word, defBody st_is_word, defScope st_is_word, [], []⟩
def df15 : He.DefD := ⟨("Watch", some "__repr__"), "__repr__", "Watch.__repr__", defArgs st_Watch___repr__, defBody st_Watch___repr__, defScope st_Watch___repr__, [], []⟩
def df16 : He.DefD := ⟨("Watch", some "come_to"), "come_to", "Watch.come_to", defArgs st_Watch_come_to, defBody st_Watch_come_to, defScope st_Watch_come_to, [], []⟩
def df17 : He.DefD := ⟨("Watch", some "marks_told"), "marks_told", "Watch.marks_told", defArgs st_Watch_marks_told, defBody st_Watch_marks_told, defScope st_Watch_marks_told, [], []⟩
def df18 : He.DefD := ⟨("_law_model", none), "_law_model", "_law_model", defArgs st__law_model, defBody st__law_model, defScope st__law_model, [], []⟩
def df19 : He.DefD := ⟨("is_rule", none), "is_rule", "is_rule", defArgs st_is_rule, defBody st_is_rule, defScope st_is_rule, [], []⟩
def df20 : He.DefD := ⟨("is_time", none), "is_time", "is_time", defArgs st_is_time, defBody st_is_time, defScope st_is_time, [], []⟩
def df21 : He.DefD := ⟨("Watch", some "__eq__"), "__eq__", "Watch.__eq__", defArgs st_Watch___eq__, defBody st_Watch___eq__, defScope st_Watch___eq__, [], []⟩
def df22 : He.DefD := ⟨("_law_stands", none), "_law_stands", "_law_stands", defArgs st__law_stands, defBody st__law_stands, defScope st__law_stands, [], []⟩
def df23 : He.DefD := ⟨("need_rule", none), "need_rule", "need_rule", defArgs st_need_rule, defBody st_need_rule, defScope st_need_rule, [], []⟩
def df24 : He.DefD := ⟨("need_time", none), "need_time", "need_time", defArgs st_need_time, defBody st_need_time, defScope st_need_time, [], []⟩
def df25 : He.DefD := ⟨("Watch", some "__init__"), "__init__", "Watch.__init__", defArgs st_Watch___init__, defBody st_Watch___init__, defScope st_Watch___init__, [], []⟩
def df26 : He.DefD := ⟨("Watch", some "need_later"), "need_later", "Watch.need_later", defArgs st_Watch_need_later, defBody st_Watch_need_later, defScope st_Watch_need_later, [], []⟩
def df27 : He.DefD := ⟨("Watch", some "go_on"), "go_on", "Watch.go_on", defArgs st_Watch_go_on, defBody st_Watch_go_on, defScope st_Watch_go_on, [], []⟩
def df28 : He.DefD := ⟨("Watch", some "hear"), "hear", "Watch.hear", defArgs st_Watch_hear, defBody st_Watch_hear, defScope st_Watch_hear, [], []⟩
def df29 : He.DefD := ⟨("Watch", some "copied"), "copied", "Watch.copied", defArgs st_Watch_copied, defBody st_Watch_copied, defScope st_Watch_copied, [], []⟩
def df30 : He.DefD := ⟨("_law_alike", none), "_law_alike", "_law_alike", defArgs st__law_alike, defBody st__law_alike, defScope st__law_alike, [], []⟩
def df31 : He.DefD := ⟨("law", none), "law", "law", defArgs st_law, defBody st_law, defScope st_law, [], []⟩
def fn : List He.DefD := [df0, df1, df2, df3, df4, df5, df6, df7, df8, df9, df10, df11, df12, df13, df14, df15, df16, df17, df18, df19, df20, df21, df22, df23, df24, df25, df26, df27, df28, df29, df30, df31]
def exs : List (PySem.W.Frag → Bool) := [fun K => (He.Fa.meth "Watch" "end_now").ok K,
  fun K => (He.Fa.meth "Watch" "events").ok K,
  fun K => (He.Fa.meth "Watch" "is_due").ok K,
  fun K => (He.Fa.meth "Watch" "raise_now").ok K,
  fun K => (He.Fa.meth "Watch" "state").ok K,
  fun K => (He.Fa.glo "_law_beyond").ok K,
  fun K => (He.Fa.glo "_law_cell_at").ok K,
  fun K => (He.Fa.glo "_law_rests").ok K,
  fun K => (He.Fa.glo "_law_row").ok K,
  fun K => (He.Fa.glo "_law_rule").ok K,
  fun K => (He.Fa.glo "is_at_rest").ok K,
  fun K => (He.Fa.glo "is_beyond").ok K,
  fun K => (He.Fa.glo "is_name").ok K,
  fun K => (He.Fa.glo "is_whole").ok K,
  fun K => (He.Fa.glo "is_word").ok K,
  fun K => (He.Fa.meth "Watch" "__repr__").ok K,
  fun K => (He.Fa.meth "Watch" "come_to").ok K,
  fun K => (He.Fa.meth "Watch" "marks_told").ok K,
  fun K => (He.Fa.glo "_law_model").ok K,
  fun K => (He.Fa.glo "is_rule").ok K,
  fun K => (He.Fa.glo "is_time").ok K,
  fun K => (He.Fa.meth "Watch" "__eq__").ok K,
  fun K => (He.Fa.glo "_law_stands").ok K,
  fun K => (He.Fa.glo "need_rule").ok K,
  fun K => (He.Fa.glo "need_time").ok K,
  fun K => (He.Fa.mkr "Watch").ok K,
  fun K => (He.Fa.meth "Watch" "need_later").ok K,
  fun K => (He.Fa.meth "Watch" "go_on").ok K,
  fun K => (He.Fa.meth "Watch" "hear").ok K,
  fun K => (He.Fa.meth "Watch" "copied").ok K,
  fun K => (He.Fa.glo "_law_alike").ok K,
  fun K => (He.Fa.glo "law").ok K,
  fun K => (He.Fa.cls "Watch").ok K,
  fun K => (He.Fa.glo "Watch").ok K,
  fun K => (He.Fa.noat "Watch" "last_time").ok K,
  fun K => (He.Fa.noat "Watch" "last_worth").ok K,
  fun K => (He.Fa.noat "Watch" "own_events").ok K,
  fun K => (He.Fa.noat "Watch" "own_rule").ok K,
  fun K => (He.Fa.noat "Watch" "own_word").ok K,
  fun K => (He.Fa.noat "Watch" "word_since").ok K,
  fun K => eqB "Watch" K,
  fun K => (He.Fa.free "abs").ok K,
  fun K => (He.Fa.free "all").ok K,
  fun K => (He.Fa.free "bool").ok K,
  fun K => (He.Fa.free "dict").ok K,
  fun K => (He.Fa.free "int").ok K,
  fun K => (He.Fa.free "isinstance").ok K,
  fun K => (He.Fa.free "len").ok K,
  fun K => (He.Fa.free "list").ok K,
  fun K => (He.Fa.free "min").ok K,
  fun K => (He.Fa.free "range").ok K,
  fun K => (He.Fa.free "repr").ok K,
  fun K => (He.Fa.free "str").ok K,
  fun K => (He.Fa.free "tuple").ok K,
  fun K => (He.Fa.int "MOST_TIME" 9999).ok K,
  fun K => (He.Fa.int "MOST_LEVEL" 63).ok K,
  fun K => (He.Fa.str "LETTERS" "abcdefghijklmnopqrstuvwxyz").ok K,
  fun K => (He.Fa.str "QUIET" "quiet").ok K,
  fun K => (He.Fa.str "WAITS" "waits").ok K,
  fun K => (He.Fa.str "STANDS" "stands").ok K,
  fun K => (He.Fa.glo "WORDS").ok K,
  fun K => He.tupB K "WORDS" [.str "above", .str "below"],
  fun K => (He.Fa.glo "Watch").ok K]
def ex (K : PySem.W.Frag) : Bool := exs.all fun f => f K
theorem ex_at {K : PySem.W.Frag} (h : ex K = true) (i : Nat) {f : PySem.W.Frag → Bool} (e : exs[i]? = some f := by rfl) : f K = true := List.all_eq_true.mp h f (List.mem_of_getElem? e)
variable {K : PySem.W.Frag} {mg : Str → Option Value} {h : Heap}
theorem txt_ok (X : K.In h) (G : h.Ns mainGlobals mg) (c : ex K = true) : Txt K mg where
  b_abs := He.free_ok X G (ex_at c 41)
  b_all := He.free_ok X G (ex_at c 42)
  b_bool := He.free_ok X G (ex_at c 43)
  b_dict := He.free_ok X G (ex_at c 44)
  b_int := He.free_ok X G (ex_at c 45)
  b_isinstance := He.free_ok X G (ex_at c 46)
  b_len := He.free_ok X G (ex_at c 47)
  b_list := He.free_ok X G (ex_at c 48)
  b_min := He.free_ok X G (ex_at c 49)
  b_range := He.free_ok X G (ex_at c 50)
  b_repr := He.free_ok X G (ex_at c 51)
  b_str := He.free_ok X G (ex_at c 52)
  b_tuple := He.free_ok X G (ex_at c 53)
  c_MOST_TIME := He.int_ok X G (ex_at c 54)
  c_MOST_LEVEL := He.int_ok X G (ex_at c 55)
  c_LETTERS := He.str_ok X G (ex_at c 56)
  c_QUIET := He.str_ok X G (ex_at c 57)
  c_WAITS := He.str_ok X G (ex_at c 58)
  c_STANDS := He.str_ok X G (ex_at c 59)
  g_WORDS := He.glo_ok X G (ex_at c 60)
  t_WORDS := fun M => .tup (He.tupB_ok (ex_at c 61) M) (.cons (.str _) (.cons (.str _) .nil))
  o_Watch := He.glo_ok X G (ex_at c 62)
  C_Watch := He.cls_ok (ex_at c 32)
  a_Watch_last_time := He.noat_ok (ex_at c 34)
  a_Watch_last_worth := He.noat_ok (ex_at c 35)
  a_Watch_own_events := He.noat_ok (ex_at c 36)
  a_Watch_own_rule := He.noat_ok (ex_at c 37)
  a_Watch_own_word := He.noat_ok (ex_at c 38)
  a_Watch_word_since := He.noat_ok (ex_at c 39)
  E_Watch := eqB_ok (ex_at c 40)
abbrev RW : PySem.W.OpenRow := PySem.W.OpenLaw.row PySem.Challenge.rw_panelwatch_k30_watches_copied_and_compar
abbrev hk : PySem.W.Hook := hookV 4 fn ex
def ob (s : PySem.W.SharedT) : AlV := obsVG 4 fn ex (HandSHeadRun.getT s)
theorem ob_eq (s : PySem.W.SharedT) : ob s = hk.obs s.abs := obsVG_eq (HandSHeadRun.getT_eq s)
def loose : List Str := (["PanelError", "Absent", "Barred", "NoTime", "NoWorth", "NoRule", "NotNow", "MOST_TIME", "MOST_LEVEL", "LETTERS", "is_whole", "is_name", "is_time", "WORDS", "is_word", "is_rule", "is_beyond", "QUIET", "WAITS", "STANDS", "is_at_rest", "need_rule", "need_time", "Watch", "_law_cell_at", "_law_row", "_law_alike", "_law_rule", "_law_beyond", "_law_rests"] : List Str) ++ (["_law_model", "_law_stands"] : List Str)
theorem run (w : World) : HandSHeadRun.RunEq RW (PySem.W.view RW.prog [37]) hk ob 12000 loose w := by
  intro os
  kernel_rfl
/-- all together -/
theorem joined {P : Program} {w : World} {fa : Addr} (X : K.In h) (G : h.Ns mainGlobals mg) (hfa : mg "law" = some (.ref fa)) (c : SaysV fn ex K) : ∃ fd : FuncData, (∀ (s : Shared) (u : Value), BindsTo s fd ⟨[u], []⟩ [("script", u)]) ∧ ∀ base : Heap, K.In base → base.Ns mainGlobals mg → FnG P w K mg base 7 fa fd ["script"] (lift K (spdLaw 63)) := by
  have cm := c.more
  have T := txt_ok X G cm
  obtain ⟨fd_Watch_end_now, F_Watch_end_now⟩ := c.fund 0 (d := df0) rfl
  obtain ⟨fd_Watch_events, F_Watch_events⟩ := c.fund 1 (d := df1) rfl
  obtain ⟨fd_Watch_is_due, F_Watch_is_due⟩ := c.fund 2 (d := df2) rfl
  obtain ⟨fd_Watch_raise_now, F_Watch_raise_now⟩ := c.fund 3 (d := df3) rfl
  obtain ⟨fd_Watch_state, F_Watch_state⟩ := c.fund 4 (d := df4) rfl
  obtain ⟨fd__law_beyond, F__law_beyond⟩ := c.fund 5 (d := df5) rfl
  obtain ⟨fd__law_cell_at, F__law_cell_at⟩ := c.fund 6 (d := df6) rfl
  obtain ⟨fd__law_rests, F__law_rests⟩ := c.fund 7 (d := df7) rfl
  obtain ⟨fd__law_row, F__law_row⟩ := c.fund 8 (d := df8) rfl
  obtain ⟨fd__law_rule, F__law_rule⟩ := c.fund 9 (d := df9) rfl
  obtain ⟨fd_is_at_rest, F_is_at_rest⟩ := c.fund 10 (d := df10) rfl
  obtain ⟨fd_is_beyond, F_is_beyond⟩ := c.fund 11 (d := df11) rfl
  obtain ⟨fd_is_name, F_is_name⟩ := c.fund 12 (d := df12) rfl
  obtain ⟨fd_is_whole, F_is_whole⟩ := c.fund 13 (d := df13) rfl
  obtain ⟨fd_is_word, F_is_word⟩ := c.fund 14 (d := df14) rfl
  obtain ⟨fd_Watch___repr__, F_Watch___repr__⟩ := c.fund 15 (d := df15) rfl
  obtain ⟨fd_Watch_come_to, F_Watch_come_to⟩ := c.fund 16 (d := df16) rfl
  obtain ⟨fd_Watch_marks_told, F_Watch_marks_told⟩ := c.fund 17 (d := df17) rfl
  obtain ⟨fd__law_model, F__law_model⟩ := c.fund 18 (d := df18) rfl
  obtain ⟨fd_is_rule, F_is_rule⟩ := c.fund 19 (d := df19) rfl
  obtain ⟨fd_is_time, F_is_time⟩ := c.fund 20 (d := df20) rfl
  obtain ⟨fd_Watch___eq__, F_Watch___eq__⟩ := c.fund 21 (d := df21) rfl
  obtain ⟨fd__law_stands, F__law_stands⟩ := c.fund 22 (d := df22) rfl
  obtain ⟨fd_need_rule, F_need_rule⟩ := c.fund 23 (d := df23) rfl
  obtain ⟨fd_need_time, F_need_time⟩ := c.fund 24 (d := df24) rfl
  obtain ⟨fd_Watch___init__, F_Watch___init__⟩ := c.fund 25 (d := df25) rfl
  obtain ⟨fd_Watch_need_later, F_Watch_need_later⟩ := c.fund 26 (d := df26) rfl
  obtain ⟨fd_Watch_go_on, F_Watch_go_on⟩ := c.fund 27 (d := df27) rfl
  obtain ⟨fd_Watch_hear, F_Watch_hear⟩ := c.fund 28 (d := df28) rfl
  obtain ⟨fd_Watch_copied, F_Watch_copied⟩ := c.fund 29 (d := df29) rfl
  obtain ⟨fd__law_alike, F__law_alike⟩ := c.fund 30 (d := df30) rfl
  obtain ⟨fd_law, F_law⟩ := c.fund 31 (d := df31) rfl
  have e := hfa.symm.trans (He.glo_ok X G (ex_at cm 31))
  cases e
  refine ⟨fd_law, fun s u => FunD.bindsA (ps := ["script"]) F_law (fun _ _ _ _ _ _ us hl => match us, hl with | [_], _ => rfl) s [u] rfl, fun base _ _ => ?_⟩
  have R_Watch_end_now := rdym_of (g_Watch_end_now (k := 0) (P := P) (w := w) (mg := mg) (base := base) (s_ := (sp_end K)) T F_Watch_end_now  (fun _ _ _ _ ⟨_, _, _, _, _, _, _, _, e, _⟩ => by rw [e]; rfl) ok_end) (He.meth_ok (ex_at cm 0)) (b_Watch_end_now F_Watch_end_now)
  have R_Watch_events := rdym_of (g_Watch_events (k := 0) (P := P) (w := w) (mg := mg) (base := base) (s_ := (sp_events K)) T F_Watch_events  (fun _ _ _ _ ⟨_, _, _, _, _, _, e, _⟩ => by rw [e]; rfl) ok_wevents) (He.meth_ok (ex_at cm 1)) (b_Watch_events F_Watch_events)
  have R_Watch_is_due := rdym_of (g_Watch_is_due (k := 0) (P := P) (w := w) (mg := mg) (base := base) (s_ := (sp_is_due K)) T F_Watch_is_due  (fun _ _ _ _ ⟨_, _, _, _, _, _, _, e, _⟩ => by rw [e]; rfl) ok_is_due) (He.meth_ok (ex_at cm 2)) (b_Watch_is_due F_Watch_is_due)
  have R_Watch_raise_now := rdym_of (g_Watch_raise_now (k := 0) (P := P) (w := w) (mg := mg) (base := base) (s_ := (sp_raise K)) T F_Watch_raise_now  (fun _ _ _ _ ⟨_, _, _, _, _, _, _, e, _⟩ => by rw [e]; rfl) ok_raise) (He.meth_ok (ex_at cm 3)) (b_Watch_raise_now F_Watch_raise_now)
  have R_Watch_state := rdym_of (g_Watch_state (k := 0) (P := P) (w := w) (mg := mg) (base := base) (s_ := (sp_state K)) T F_Watch_state  (fun _ _ _ _ ⟨_, _, _, _, _, _, e, _⟩ => by rw [e]; rfl) ok_wstate) (He.meth_ok (ex_at cm 4)) (b_Watch_state F_Watch_state)
  have R__law_beyond := r__law_beyond (k := 0) (P := P) (w := w) (base := base) (s_ := sp_lbeyond) T (He.glo_ok X G (ex_at cm 5)) F__law_beyond  (fun _ _ _ _ ⟨_, _, e, _⟩ => by rw [e]; rfl) ok_lbeyond
  have R__law_cell_at := r__law_cell_at (k := 0) (P := P) (w := w) (base := base) (s_ := sp_cell_at) T (He.glo_ok X G (ex_at cm 6)) F__law_cell_at  (fun _ _ _ _ ⟨_, _, e, _⟩ => by rw [e]; rfl) ok_cell_at
  have R__law_rests := r__law_rests (k := 0) (P := P) (w := w) (base := base) (s_ := sp_lrests) T (He.glo_ok X G (ex_at cm 7)) F__law_rests  (fun _ _ _ _ ⟨_, _, e, _⟩ => by rw [e]; rfl) ok_lrests
  have R__law_row := r__law_row (k := 0) (P := P) (w := w) (base := base) (s_ := sp_row) T (He.glo_ok X G (ex_at cm 8)) F__law_row  (fun _ _ _ _ ⟨_, _, _, e, _⟩ => by rw [e]; rfl) ok_row
  have R__law_rule := r__law_rule (k := 0) (P := P) (w := w) (base := base) (s_ := sp_rule) T (He.glo_ok X G (ex_at cm 9)) F__law_rule  (fun _ _ _ _ ⟨_, _, _, e, _⟩ => by rw [e]; rfl) ok_rule
  have R_is_at_rest := r_is_at_rest (k := 0) (P := P) (w := w) (base := base) (s_ := sp_is_at_rest) T (He.glo_ok X G (ex_at cm 10)) F_is_at_rest  (fun _ _ _ _ ⟨_, _, e, _⟩ => by rw [e]; rfl) ok_is_at_rest
  have R_is_beyond := r_is_beyond (k := 0) (P := P) (w := w) (base := base) (s_ := sp_is_beyond) T (He.glo_ok X G (ex_at cm 11)) F_is_beyond  (fun _ _ _ _ ⟨_, _, e, _⟩ => by rw [e]; rfl) ok_is_beyond
  have R_is_name := r_is_name (k := 0) (P := P) (w := w) (base := base) (s_ := sp_is_name) T (He.glo_ok X G (ex_at cm 12)) F_is_name  (fun _ _ _ _ ⟨_, e, _⟩ => by rw [e]; rfl) ok_is_name
  have R_is_whole := r_is_whole (k := 0) (P := P) (w := w) (base := base) (s_ := sp_is_whole) T (He.glo_ok X G (ex_at cm 13)) F_is_whole  (fun _ _ _ _ ⟨_, _, _, e, _⟩ => by rw [e]; rfl) ok_is_whole
  have R_is_word := r_is_word (k := 0) (P := P) (w := w) (base := base) (s_ := sp_is_word) T (He.glo_ok X G (ex_at cm 14)) F_is_word  (fun _ _ _ _ ⟨_, e, _⟩ => by rw [e]; rfl) ok_is_word
  have R_Watch___repr__ := rdym_of (g_Watch___repr__ (k := 1) (P := P) (w := w) (mg := mg) (base := base) (s_ := (sp_repr K)) T F_Watch___repr__ (R_Watch_state.mono (by decide)) (fun _ _ _ _ ⟨_, _, _, _, _, _, e, _⟩ => by rw [e]; rfl) ok_repr) (He.meth_ok (ex_at cm 15)) (b_Watch___repr__ F_Watch___repr__)
  have R_Watch_come_to := rdym_of (g_Watch_come_to (k := 1) (P := P) (w := w) (mg := mg) (base := base) (s_ := (sp_come K)) T F_Watch_come_to (R_Watch_is_due.mono (by decide)) (R_Watch_raise_now.mono (by decide)) (fun _ _ _ _ ⟨_, _, _, _, _, _, _, e, _⟩ => by rw [e]; rfl) ok_come) (He.meth_ok (ex_at cm 16)) (b_Watch_come_to F_Watch_come_to)
  have R_Watch_marks_told := rdym_of (g_Watch_marks_told (k := 1) (P := P) (w := w) (mg := mg) (base := base) (s_ := (sp_marks K)) T F_Watch_marks_told (R_Watch_state.mono (by decide)) (R_Watch_events.mono (by decide)) (fun _ _ _ _ ⟨_, _, _, _, _, _, e, _⟩ => by rw [e]; rfl) ok_marks) (He.meth_ok (ex_at cm 17)) (b_Watch_marks_told F_Watch_marks_told)
  have R__law_model := r__law_model (k := 1) (P := P) (w := w) (base := base) (s_ := sp_model) T (He.glo_ok X G (ex_at cm 18)) F__law_model (R__law_rests.mono (by decide)) (R__law_beyond.mono (by decide)) (fun _ _ _ _ ⟨_, _, _, _, e, _⟩ => by rw [e]; rfl) ok_model
  have R_is_rule := r_is_rule (k := 1) (P := P) (w := w) (base := base) (s_ := sp_is_rule) T (He.glo_ok X G (ex_at cm 19)) F_is_rule (R_is_word.mono (by decide)) (R_is_name.mono (by decide)) (R_is_whole.mono (by decide)) (fun _ _ _ _ ⟨_, e, _⟩ => by rw [e]; rfl) ok_is_rule
  have R_is_time := r_is_time (k := 1) (P := P) (w := w) (base := base) (s_ := sp_is_time) T (He.glo_ok X G (ex_at cm 20)) F_is_time (R_is_whole.mono (by decide)) (fun _ _ _ _ ⟨_, e, _⟩ => by rw [e]; rfl) ok_is_time
  have R_Watch___eq__ := rdym_of (g_Watch___eq__ (k := 2) (P := P) (w := w) (mg := mg) (base := base) (s_ := (sp_eq K)) T F_Watch___eq__ (R_Watch_marks_told.mono (by decide)) (fun _ _ _ _ ⟨_, _, _, _, _, _, _, e, _⟩ => by rw [e]; rfl) ok_eq) (He.meth_ok (ex_at cm 21)) (b_Watch___eq__ F_Watch___eq__)
  have R__law_stands := r__law_stands (k := 2) (P := P) (w := w) (base := base) (s_ := sp_stands) T (He.glo_ok X G (ex_at cm 22)) F__law_stands (R__law_model.mono (by decide)) (fun _ _ _ _ ⟨_, _, _, _, _, _, e, _⟩ => by rw [e]; rfl) ok_stands
  have R_need_rule := r_need_rule (k := 2) (P := P) (w := w) (base := base) (s_ := sp_need_rule) T (He.glo_ok X G (ex_at cm 23)) F_need_rule (R_is_rule.mono (by decide)) (fun _ _ _ _ ⟨_, e, _⟩ => by rw [e]; rfl) ok_need_rule
  have R_need_time := r_need_time (k := 2) (P := P) (w := w) (base := base) (s_ := sp_need_time) T (He.glo_ok X G (ex_at cm 24)) F_need_time (R_is_time.mono (by decide)) (fun _ _ _ _ ⟨_, e, _⟩ => by rw [e]; rfl) ok_need_time
  have M_Watch := rdyc_of (g_Watch___init__ (k := 3) (P := P) (w := w) (mg := mg) (base := base) (s_ := (sp_init K)) T F_Watch___init__ (R_need_rule.mono (by decide)) (fun _ _ _ _ ⟨_, _, e, _⟩ => by rw [e]; rfl) ok_init) (He.mkr_ok (ex_at cm 25)) (He.glo_ok X G (ex_at cm 33)) (b_Watch___init__ F_Watch___init__)
  have R_Watch_need_later := rdym_of (g_Watch_need_later (k := 3) (P := P) (w := w) (mg := mg) (base := base) (s_ := (sp_later K)) T F_Watch_need_later (R_need_time.mono (by decide)) (fun _ _ _ _ ⟨_, _, _, _, _, _, _, e, _⟩ => by rw [e]; rfl) ok_later) (He.meth_ok (ex_at cm 26)) (b_Watch_need_later F_Watch_need_later)
  have R_Watch_go_on := rdym_of (g_Watch_go_on (k := 4) (P := P) (w := w) (mg := mg) (base := base) (s_ := (sp_go K)) T F_Watch_go_on (R_need_time.mono (by decide)) (R_Watch_need_later.mono (by decide)) (R_Watch_come_to.mono (by decide)) (fun _ _ _ _ ⟨_, _, _, _, _, _, _, e, _⟩ => by rw [e]; rfl) ok_go) (He.meth_ok (ex_at cm 27)) (b_Watch_go_on F_Watch_go_on)
  have R_Watch_hear := rdym_of (g_Watch_hear (k := 4) (P := P) (w := w) (mg := mg) (base := base) (s_ := (sp_hear K)) T F_Watch_hear (R_need_time.mono (by decide)) (R_is_whole.mono (by decide)) (R_is_beyond.mono (by decide)) (R_is_at_rest.mono (by decide)) (R_Watch_need_later.mono (by decide)) (R_Watch_come_to.mono (by decide)) (R_Watch_end_now.mono (by decide)) (fun _ _ _ _ ⟨_, _, _, _, _, _, _, _, e, _⟩ => by rw [e]; rfl) ok_hear) (He.meth_ok (ex_at cm 28)) (b_Watch_hear F_Watch_hear)
  have R_Watch_copied := rdym_of (g_Watch_copied (k := 4) (P := P) (w := w) (mg := mg) (base := base) (s_ := (sp_copied K)) T F_Watch_copied (R_Watch_events.mono (by decide)) (R_Watch_state.mono (by decide)) (M_Watch.mono (by decide)) (fun _ _ _ _ ⟨_, _, _, _, _, _, e, _⟩ => by rw [e]; rfl) ok_copied) (He.meth_ok (ex_at cm 29)) (b_Watch_copied F_Watch_copied)
  have N__law_alike : Rdy P w K mg base 0 "_law_alike" [] [] spNo := rdy_of (no_fn (ps := ["found", "due"])) (He.glo_ok X G (ex_at cm 30)) F__law_alike.kp (F__law_alike.bindsN fun _ _ _ _ _ _ us hl => match us, hl with | [_, _], _ => rfl)
  have R0__law_alike := r__law_alike (k := 0) (P := P) (w := w) (base := base) (s_ := spAl 0) T (He.glo_ok X G (ex_at cm 30)) F__law_alike N__law_alike (fun _ _ _ _ ⟨_, _, e, _⟩ => by rw [e]; rfl) ok_alike0
  have R1__law_alike := r__law_alike (k := 1) (P := P) (w := w) (base := base) (s_ := spAl 1) T (He.glo_ok X G (ex_at cm 30)) F__law_alike R0__law_alike (fun _ _ _ _ ⟨_, _, e, _⟩ => by rw [e]; rfl) (ok_alikeS 0)
  have R2__law_alike := r__law_alike (k := 2) (P := P) (w := w) (base := base) (s_ := spAl 2) T (He.glo_ok X G (ex_at cm 30)) F__law_alike R1__law_alike (fun _ _ _ _ ⟨_, _, e, _⟩ => by rw [e]; rfl) (ok_alikeS 1)
  have R__law_alike := r__law_alike (k := 3) (P := P) (w := w) (base := base) (s_ := spAl 3) T (He.glo_ok X G (ex_at cm 30)) F__law_alike R2__law_alike (fun _ _ _ _ ⟨_, _, e, _⟩ => by rw [e]; rfl) (ok_alikeS 2)
  exact g_law (k := 5) T F_law (R__law_row.mono (by decide)) (R__law_cell_at.mono (by decide)) (R__law_rule.mono (by decide)) (R__law_alike.mono (by decide)) (R__law_stands.mono (by decide)) (R_Watch_copied.mono (by decide)) (R_Watch_go_on.mono (by decide)) (R_Watch_hear.mono (by decide)) (R_Watch_state.mono (by decide)) (R_Watch_events.mono (by decide)) (M_Watch.mono (by decide)) (R_Watch___eq__.mono (by decide)) (R_Watch___repr__.mono (by decide)) (fun _ _ _ _ ⟨_, e, _⟩ => by rw [e]; rfl) ok_law
end K30
open PySem PySem.W PySem.Calls PyProof.Rows
theorem PySem.Challenge.cw_panelwatch_k30_watches_copied_and_compar_holds : PySem.Challenge.rw_panelwatch_k30_watches_copied_and_compar.Holds := by
  w_on; o_law
  refine HandSHeadRun.head_any (r := OpenLaw.row PySem.Challenge.rw_panelwatch_k30_watches_copied_and_compar) (q := view (OpenLaw.row PySem.Challenge.rw_panelwatch_k30_watches_copied_and_compar).prog [37]) (H := K30.hk) (ob := K30.ob) (M := 12000) (loose := K30.loose) (d := HandSHeadRun.topDef (OpenLaw.row PySem.Challenge.rw_panelwatch_k30_watches_copied_and_compar).prog 37) (kwd := []) K30.ob_eq
    (by kernel_rfl) (fun s => by kernel_rfl) K30.run (by kernel_rfl) (by kernel_rfl) (by kernel_rfl) (by rfl) (by first | assumption | decide +kernel) (by decide +kernel) ⟨rfl, rfl, rfl, rfl, rfl, by decide +kernel⟩ ?hw ?hc
  case hw => w_witness2
  case hc =>
    refine VL.walkE (l := PySem.Challenge.rw_panelwatch_k30_watches_copied_and_compar) (n := 63) (k := 7) (x := "script") rfl (by decide) (by kernel_rfl) ⟨rfl, by decide, by decide⟩ ?F
    intro w mg fa h Y G hmg0
    obtain ⟨K, KX, c⟩ := Y
    have hmg : mg ("law" : PySem.Str) = some (.ref fa) := by
      have e : (HandSHeadRun.topDef (OpenLaw.row PySem.Challenge.rw_panelwatch_k30_watches_copied_and_compar).prog 37).name = ("law" : PySem.Str) := by kernel_rfl
      rw [← e]; exact hmg0
    obtain ⟨fd, hb, hF⟩ := K30.joined (P := (PySem.Challenge.rw_panelwatch_k30_watches_copied_and_compar).prog) (w := w) KX G hmg c
    exact ⟨K, fd, KX, hb, hF⟩

