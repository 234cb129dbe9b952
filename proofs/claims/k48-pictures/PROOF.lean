import PyProof.Rows.All
import Wide.All
import OpenK.AllK
import Wide.FinOn
import PyProof.EqAt
import PyProof.EqKinds
import PyProof.TupleCall
import HandS.ForMost
import HandS.ForExc
import HandS.IsInst
import HandS.Wide
import HandS.Zip
import HandS.Flow
import HandS.Defaults
import HandS.RaiseMore
import HandS.Conv
import HandS.TupLe
import HandS.ExcInit
import HandS.ExcField
import HandS.ExcIs
import HandS.TryOnly
import HandS.Head0
import HandS.Head1
import HandS.Head2
import HandS.HeadHook1
import HandS.HeadHook2
import HandS.Sort
import KE.KDictList
import PyProof.ReprBulk
import HandS.More
import HandS.SortInts
import HandS.SetKeys
import HandS.DictTup
import HandS.Keys
import KE.KDictWalk
import HandS.TupAny
import OpenK.KMore
import HandS.Style
import HandS.OwnEq
import HandS.Codes
import HandS.FStr
import HandS.CallLocal
import HandS.MakeKwOnly
import HandS.Iter
import HandS.SetFor
import HandS.DictComp
import HandS.Deep
import PySem.Challenge.RW_panelwatch_k48_pictures_by_histories
set_option Elab.async false
set_option linter.all false
set_option maxRecDepth 100000
set_option maxHeartbeats 0
/-! VL: readings over data. D: a value as a tree; S: the objects that may change; a reading is a function of the slots, S and what is wanted. -/
namespace VL
open PySem PySem.Spec PyProof.Rows L2

inductive D where
  | non | bl (b : Bool) | int (i : Int) | str (x : Str) | ty (n : String) | ref (a : Addr)
  | tup (ds : List D) | lst (ds : List D) | dct (kvs : List (Key × D)) | exc (a : Addr) (dd : Option Addr) (cls : Value) (fs : List (Str × D)) | ins (C : Addr) (fs : List (Str × D)) | dcs (kvs : List (List Key × D))
inductive O where
  | lst (ds : List D) | dct (kvs : List (Key × D)) | ins (C : Addr) (fs : List (Str × D)) | dcs (kvs : List (List Key × D))
abbrev Sto := Addr → Option O
def put (S : Sto) (a : Addr) (o : O) : Sto := fun b => if b = a then some o else S b
def era (S : Sto) (a : Addr) : Sto := fun b => if b = a then none else S b
theorem put_same {S : Sto} {a : Addr} {o : O} : put S a o a = some o := by unfold put; rw [if_pos rfl]
theorem put_ne {S : Sto} {a b : Addr} {o : O} (h : b ≠ a) : put S a o b = S b := by unfold put; rw [if_neg h]
theorem put_put {S : Sto} {a : Addr} {o u : O} : put (put S a o) a u = put S a u := by
  funext b; unfold put; split <;> rfl
theorem put_self {S : Sto} {a : Addr} {o : O} (h : S a = some o) : put S a o = S := by
  funext b; unfold put; split
  · next e => rw [e, h]
  · rfl
theorem era_put {S : Sto} {a : Addr} {o : O} (h : S a = none) : era (put S a o) a = S := by
  funext b; unfold era put
  by_cases e : b = a
  · rw [if_pos e, e, h]
  · rw [if_neg e, if_neg e]
theorem put_comm {S : Sto} {a b : Addr} {o u : O} (h : a ≠ b) : put (put S a o) b u = put (put S b u) a o := by
  funext c; unfold put
  by_cases e : c = b
  · rw [if_pos e, if_neg (fun q => h (q.symm.trans e)), if_pos e]
  · rw [if_neg e]
    by_cases e2 : c = a
    · rw [if_pos e2, if_pos e2]
    · rw [if_neg e2, if_neg e2, if_neg e]
theorem era_put_ne {S : Sto} {a b : Addr} {o : O} (h : a ≠ b) : era (put S a o) b = put (era S b) a o := by
  funext c
  show (if c = b then none else if c = a then some o else S c) = (if c = a then some o else if c = b then none else S c)
  by_cases e : c = b
  · rw [if_pos e, if_neg (fun q => h (q.symm.trans e)), if_pos e]
  · rw [if_neg e]
    by_cases e2 : c = a
    · rw [if_pos e2, if_pos e2]
    · rw [if_neg e2, if_neg e2, if_neg e]
/-- S' has lost some of what S has -/
def Sub (S' S : Sto) : Prop := ∀ a, S' a = none ∨ S' a = S a
theorem Sub.refl (S : Sto) : Sub S S := fun _ => .inr rfl
theorem Sub.trans {A B C : Sto} (h : Sub A B) (g : Sub B C) : Sub A C := fun a => by
  rcases h a with e | e
  · exact .inl e
  · rcases g a with q | q
    · exact .inl (e.trans q)
    · exact .inr (e.trans q)
theorem sub_put {S : Sto} {a : Addr} {o : O} (h : S a = none) : Sub S (put S a o) := fun b => by
  by_cases e : b = a
  · exact .inl (by rw [e]; exact h)
  · exact .inr (put_ne e).symm
theorem sub_put2 {S S' : Sto} {a : Addr} {o : O} (h : Sub S S') : Sub (put S a o) (put S' a o) := fun b => by
  by_cases e : b = a
  · exact .inr (by rw [e, put_same, put_same])
  · rw [put_ne e, put_ne e]; exact h b
theorem sub_era {S : Sto} {a : Addr} : Sub (era S a) S := fun b => by
  by_cases e : b = a
  · exact .inl (by unfold era; rw [if_pos e])
  · exact .inr (by unfold era; rw [if_neg e])

/-! ### what a value bears, in the part of the heap that stays -/
mutual
inductive Rep (K : PySem.W.Frag) (M : Hp) : V → D → Prop
  | non : Rep K M .non .non
  | bl (b : Bool) : Rep K M (.bl b) (.bl b)
  | int (i : Int) : Rep K M (.int i) (.int i)
  | str (x : Str) : Rep K M (.str x) (.str x)
  | ty (n : String) : Rep K M (.ty n) (.ty n)
  | ref (a : Addr) : Rep K M (.ref a) (.ref a)
  | tup {a : Addr} {xs : List V} {ds : List D} (h : SqT K M a xs) (r : Reps K M xs ds) : Rep K M (.ref a) (.tup ds)
  | lst {a : Addr} {xs : List V} {ds : List D} (h : SqL K M a xs) (r : Reps K M xs ds) : Rep K M (.ref a) (.lst ds)
  | dct {a : Addr} {kvs : List (Key × V)} {kds : List (Key × D)} (h : Rd M a (.dK kvs)) (r : RepK K M kvs kds) : Rep K M (.ref a) (.dct kds)
  | exn (a : Addr) (cls : Value) : Rep K M (.ref a) (.exc a none cls [])
  | ins {a C : Addr} {dx : Addr} {fv : List (Str × V)} {fs : List (Str × D)} (h : M a = some (.ins C dx fv)) (r : RepF K M fv fs) : Rep K M (.ref a) (.ins C fs)
  | dcs {a : Addr} {kvs : List (List Key × V)} {kds : List (List Key × D)} (h : Rd M a (.dT kvs)) (r : RepQ K M kvs kds) : Rep K M (.ref a) (.dcs kds)
  | exs (a : Addr) (cls : Value) {dd : Addr} {fv : List (Str × V)} {fs : List (Str × D)} (h : M dd = some (.xd fv)) (r : RepF K M fv fs) : Rep K M (.ref a) (.exc a (some dd) cls fs)
inductive Reps (K : PySem.W.Frag) (M : Hp) : List V → List D → Prop
  | nil : Reps K M [] []
  | cons {v : V} {d : D} {vs : List V} {ds : List D} (h : Rep K M v d) (r : Reps K M vs ds) : Reps K M (v :: vs) (d :: ds)
inductive RepK (K : PySem.W.Frag) (M : Hp) : List (Key × V) → List (Key × D) → Prop
  | nil : RepK K M [] []
  | cons {k : Key} {v : V} {d : D} {vs : List (Key × V)} {ds : List (Key × D)} (h : Rep K M v d) (r : RepK K M vs ds) : RepK K M ((k, v) :: vs) ((k, d) :: ds)
inductive RepQ (K : PySem.W.Frag) (M : Hp) : List (List Key × V) → List (List Key × D) → Prop
  | nil : RepQ K M [] []
  | cons {k : List Key} {v : V} {d : D} {vs : List (List Key × V)} {ds : List (List Key × D)} (h : Rep K M v d) (r : RepQ K M vs ds) : RepQ K M ((k, v) :: vs) ((k, d) :: ds)
inductive RepF (K : PySem.W.Frag) (M : Hp) : List (Str × V) → List (Str × D) → Prop
  | nil : RepF K M [] []
  | cons {f : Str} {v : V} {d : D} {vs : List (Str × V)} {ds : List (Str × D)} (h : Rep K M v d) (r : RepF K M vs ds) : RepF K M ((f, v) :: vs) ((f, d) :: ds)
end
section
variable {K : PySem.W.Frag} {M M' : Hp}
theorem same_t {a : Addr} {xs : List V} (e : Same M M') (h : SqT K M a xs) : SqT K M' a xs := by
  rcases h with (h | ⟨o, h⟩) | h
  · exact .inl (.inl (e _ _ h))
  · exact .inl (.inr ⟨o, e _ _ h⟩)
  · exact .inr h
theorem rd_same {a : Addr} {u : HO} (e : Same M M') (h : Rd M a u) : Rd M' a u := by
  rcases h with h | ⟨o, h⟩
  · exact .inl (e _ _ h)
  · exact .inr ⟨o, e _ _ h⟩
mutual
theorem Rep.mono (e : Same M M') : ∀ {v : V} {d : D}, Rep K M v d → Rep K M' v d
  | _, _, .non => .non
  | _, _, .bl b => .bl b
  | _, _, .int i => .int i
  | _, _, .str x => .str x
  | _, _, .ty n => .ty n
  | _, _, .ref a => .ref a
  | _, _, .tup h r => .tup (same_t e h) (Reps.mono e r)
  | _, _, .lst h r => .lst (e.seq h) (Reps.mono e r)
  | _, _, .dct h r => .dct (rd_same e h) (RepK.mono e r)
  | _, _, .exn a c => .exn a c
  | _, _, .ins h r => .ins (e _ _ h) (RepF.mono e r)
  | _, _, .exs a c h r => .exs a c (e _ _ h) (RepF.mono e r)
  | _, _, .dcs h r => .dcs (rd_same e h) (RepQ.mono e r)
theorem Reps.mono (e : Same M M') : ∀ {v : List V} {d : List D}, Reps K M v d → Reps K M' v d
  | _, _, .nil => .nil
  | _, _, .cons h r => .cons (Rep.mono e h) (Reps.mono e r)
theorem RepK.mono (e : Same M M') : ∀ {v : List (Key × V)} {d : List (Key × D)}, RepK K M v d → RepK K M' v d
  | _, _, .nil => .nil
  | _, _, .cons h r => .cons (Rep.mono e h) (RepK.mono e r)
theorem RepQ.mono (e : Same M M') : ∀ {v : List (List Key × V)} {d : List (List Key × D)}, RepQ K M v d → RepQ K M' v d
  | _, _, .nil => .nil
  | _, _, .cons h r => .cons (Rep.mono e h) (RepQ.mono e r)
theorem RepF.mono (e : Same M M') : ∀ {v : List (Str × V)} {d : List (Str × D)}, RepF K M v d → RepF K M' v d
  | _, _, .nil => .nil
  | _, _, .cons h r => .cons (Rep.mono e h) (RepF.mono e r)
end
theorem Reps.length : ∀ {v : List V} {d : List D}, Reps K M v d → v.length = d.length
  | _, _, .nil => rfl
  | _, _, .cons _ r => congrArg Nat.succ (Reps.length r)
theorem Reps.get : ∀ {vs : List V} {ds : List D} {i : Nat} {d : D}, Reps K M vs ds → ds[i]? = some d → ∃ v, vs[i]? = some v ∧ Rep K M v d
  | _, _, _, _, .nil, e => by simp at e
  | _, _, 0, _, .cons h _, e => by simp at e; subst e; exact ⟨_, rfl, h⟩
  | _, _, i + 1, d, .cons _ r, e => by
    obtain ⟨v, h1, h2⟩ := Reps.get (i := i) (d := d) r (by simpa using e)
    exact ⟨v, by simpa using h1, h2⟩
theorem Reps.append : ∀ {vs ws : List V} {ds es : List D}, Reps K M vs ds → Reps K M ws es → Reps K M (vs ++ ws) (ds ++ es)
  | _, _, _, _, .nil, s => s
  | _, _, _, _, .cons h r, s => .cons h (Reps.append r s)
theorem Reps.set {v : V} {d : D} (h : Rep K M v d) : ∀ {vs : List V} {ds : List D} (i : Nat), Reps K M vs ds → Reps K M (vs.set i v) (ds.set i d)
  | _, _, _, .nil => .nil
  | _, _, 0, .cons _ r => .cons h r
  | _, _, i + 1, .cons q r => .cons q (Reps.set h i r)
theorem Reps.drop : ∀ {vs : List V} {ds : List D} (n : Nat), Reps K M vs ds → Reps K M (vs.drop n) (ds.drop n)
  | _, _, 0, r => r
  | _, _, _ + 1, .nil => .nil
  | _, _, n + 1, .cons _ r => Reps.drop n r
theorem Reps.take : ∀ {vs : List V} {ds : List D} (n : Nat), Reps K M vs ds → Reps K M (vs.take n) (ds.take n)
  | _, _, 0, _ => .nil
  | _, _, _ + 1, .nil => .nil
  | _, _, n + 1, .cons h r => .cons h (Reps.take n r)
theorem Reps.dropLast {vs : List V} {ds : List D} (r : Reps K M vs ds) : Reps K M vs.dropLast ds.dropLast := by
  rw [List.dropLast_eq_take, List.dropLast_eq_take, r.length]; exact r.take _
theorem Reps.eraseIdx : ∀ {vs : List V} {ds : List D} (n : Nat), Reps K M vs ds → Reps K M (vs.eraseIdx n) (ds.eraseIdx n)
  | _, _, _, .nil => .nil
  | _, _, 0, .cons _ r => r
  | _, _, n + 1, .cons h r => .cons h (Reps.eraseIdx n r)
theorem Reps.reverse : ∀ {vs : List V} {ds : List D}, Reps K M vs ds → Reps K M vs.reverse ds.reverse
  | _, _, .nil => .nil
  | _, _, .cons h r => by rw [List.reverse_cons, List.reverse_cons]; exact (Reps.reverse r).append (.cons h .nil)
theorem Reps.cut {vs : List V} {ds : List D} (r : Reps K M vs ds) (lo hi : Option Int) : Reps K M (cutV vs lo hi) ((ds.drop (HT.sIx ds.length 0 lo)).take (HT.sIx ds.length ds.length hi - HT.sIx ds.length 0 lo)) := by
  unfold cutV; rw [r.length]; exact (r.drop _).take _
theorem RepF.lookup {f : Str} : ∀ {vs : List (Str × V)} {ds : List (Str × D)}, RepF K M vs ds → (∀ d, ds.lookup f = some d → ∃ v, vs.lookup f = some v ∧ Rep K M v d) ∧ (ds.lookup f = none → vs.lookup f = none)
  | _, _, .nil => ⟨(fun _ e => by simp at e), fun _ => rfl⟩
  | _, _, .cons (f := g) (v := v) (d := d) h r => by
    have ih := RepF.lookup (f := f) r
    by_cases e : f = g
    · subst e
      simp only [List.lookup, beq_self_eq_true]
      exact ⟨fun d' q => by cases q; exact ⟨v, rfl, h⟩, fun q => nomatch q⟩
    · have e' : (f == g) = false := by simpa using e
      simp only [List.lookup, e']
      exact ih
theorem RepF.length : ∀ {vs : List (Str × V)} {ds : List (Str × D)}, RepF K M vs ds → vs.length = ds.length
  | _, _, .nil => rfl
  | _, _, .cons _ r => congrArg Nat.succ (RepF.length r)
def putG {α : Type} (f : Str) (v : α) : List (Str × α) → List (Str × α)
  | [] => [(f, v)]
  | (g, w) :: r => if g = f then (g, v) :: r else (g, w) :: putG f v r
theorem RepF.put {f : Str} {v : V} {d : D} (h : Rep K M v d) : ∀ {vs : List (Str × V)} {ds : List (Str × D)}, RepF K M vs ds → RepF K M (putF f v vs) (putG f d ds)
  | _, _, .nil => .cons h .nil
  | _, _, .cons (f := g) q r => by
    unfold putF putG
    by_cases e : g = f
    · rw [if_pos e, if_pos e]; subst e; exact .cons h r
    · rw [if_neg e, if_neg e]; exact .cons q (RepF.put h r)
end

/-! ### the store over a heap -/
/-- what stays: what is tracked and may not change -/
def mask (F : Hp) (S : Sto) (H : Hp) : Hp := fun a => if (S a).isSome = true ∨ (F a).isSome = true then none else H a
def OOk (K : PySem.W.Frag) (M : Hp) (h : Option HO) : O → Prop
  | .lst ds => ∃ xs, h = some (.lst xs) ∧ Reps K M xs ds
  | .dct kds => ∃ kvs, h = some (.dK kvs) ∧ RepK K M kvs kds
  | .ins C fs => ∃ dx fv, h = some (.ins C dx fv) ∧ RepF K M fv fs
  | .dcs kds => ∃ kvs, h = some (.dT kvs) ∧ RepQ K M kvs kds
/-- F: what lies by the side, seen by none and changed by none -/
structure HSt (K : PySem.W.Frag) (F H : Hp) (S : Sto) : Prop where
  at_ : ∀ a o, S a = some o → OOk K (mask F S H) (H a) o
  side : ∀ a u, F a = some u → H a = some u ∧ S a = none
section
variable {K : PySem.W.Frag} {F H H' : Hp} {S S' : Sto} {a : Addr} {o : O} {u : HO}
theorem some_ne {α : Type} {x : Option α} {y : α} (h : x = some y) : x.isSome = true := by rw [h]; rfl
theorem none_ne {α : Type} {x : Option α} (h : x = none) : ¬ x.isSome = true := by rw [h]; exact Bool.false_ne_true
theorem not_some {α : Type} {x : Option α} (h : ¬ x.isSome = true) : x = none := by
  cases x with
  | none => rfl
  | some _ => exact absurd rfl h
theorem mask_none (h : S a = none) (f : F a = none) : mask F S H a = H a := if_neg fun z => z.elim (none_ne h) (none_ne f)
theorem mask_some (h : S a = some o) : mask F S H a = none := if_pos (.inl (some_ne h))
theorem mask_le : Same (mask F S H) H := fun b u e => by
  unfold mask at e; split at e
  · cases e
  · exact e
theorem mask_free (h : mask F S H a = some u) : S a = none ∧ F a = none ∧ H a = some u := by
  unfold mask at h; split at h
  · cases h
  · next q => exact ⟨not_some fun z => q (.inl z), not_some fun z => q (.inr z), h⟩
theorem OOk.mono {M M' : Hp} {h : Option HO} (e : Same M M') (k : OOk K M h o) : OOk K M' h o := by
  cases o with
  | lst ds => obtain ⟨xs, e1, r⟩ := k; exact ⟨xs, e1, r.mono e⟩
  | dct ds => obtain ⟨xs, e1, r⟩ := k; exact ⟨xs, e1, r.mono e⟩
  | ins C ds => obtain ⟨dx, xs, e1, r⟩ := k; exact ⟨dx, xs, e1, r.mono e⟩
  | dcs ds => obtain ⟨xs, e1, r⟩ := k; exact ⟨xs, e1, r.mono e⟩
theorem OOk.some {M : Hp} {h : Option HO} (k : OOk K M h o) : ∃ u, h = some u ∧ Mut (some u) := by
  cases o with
  | lst ds => obtain ⟨xs, e1, r⟩ := k; exact ⟨_, e1, trivial⟩
  | dct ds => obtain ⟨xs, e1, r⟩ := k; exact ⟨_, e1, trivial⟩
  | ins C ds => obtain ⟨dx, xs, e1, r⟩ := k; exact ⟨_, e1, trivial⟩
  | dcs ds => obtain ⟨xs, e1, r⟩ := k; exact ⟨_, e1, trivial⟩
theorem HSt.free (h : HSt K F H S) (e : H a = none) : S a = none := by
  cases q : S a with
  | none => rfl
  | some o => obtain ⟨u, e1, _⟩ := (h.at_ a o q).some; rw [e] at e1; cases e1
theorem HSt.freeF (h : HSt K F H S) (e : H a = none) : F a = none := by
  cases q : F a with
  | none => rfl
  | some o => obtain ⟨e1, _⟩ := h.side a o q; rw [e] at e1; cases e1
theorem HSt.apart (h : HSt K F H S) (q : S a = some o) : F a = none := by
  cases z : F a with
  | none => rfl
  | some u => obtain ⟨_, e1⟩ := h.side a u z; rw [q] at e1; cases e1
/-- a new thing that stays -/
theorem same_new (h : HSt K F H S) (e : H a = none) : Same (mask F S H) (mask F S (upd H a u)) := fun b v q => by
  obtain ⟨q1, q0, q2⟩ := mask_free q
  rw [mask_none q1 q0, upd_ne (ne_of_none q2 e)]; exact q2
theorem hst_new (h : HSt K F H S) (e : H a = none) : HSt K F (upd H a u) S := ⟨fun b o q => by
  have hb : b ≠ a := fun z => by subst z; rw [h.free e] at q; cases q
  rw [upd_ne hb]; exact (h.at_ b o q).mono (same_new h e), fun b v q => by
  have hb : b ≠ a := fun z => by subst z; rw [h.freeF e] at q; cases q
  rw [upd_ne hb]; exact h.side b v q⟩
theorem mask_new (h : HSt K F H S) (e : H a = none) : mask F S (upd H a u) a = some u := by rw [mask_none (h.free e) (h.freeF e), upd_same]
/-- a new thing that may change -/
theorem same_newM (h : HSt K F H S) (e : H a = none) : Same (mask F S H) (mask F (put S a o) (upd H a u)) := fun b v q => by
  obtain ⟨q1, q0, q2⟩ := mask_free q
  have hb := ne_of_none q2 e
  rw [mask_none (by rw [put_ne hb]; exact q1) q0, upd_ne hb]; exact q2
theorem hst_newM (h : HSt K F H S) (e : H a = none) (k : OOk K (mask F S H) (some u) o) : HSt K F (upd H a u) (put S a o) := ⟨fun b v q => by
  by_cases hb : b = a
  · subst hb
    rw [put_same] at q; cases q
    rw [upd_same]; exact k.mono (same_newM h e)
  · rw [put_ne hb] at q
    rw [upd_ne hb]; exact (h.at_ b v q).mono (same_newM h e), fun b v q => by
  have hb : b ≠ a := fun z => by subst z; rw [h.freeF e] at q; cases q
  rw [upd_ne hb, put_ne hb]; exact h.side b v q⟩
/-- a change -/
theorem mask_chg {o' : O} (q : S a = some o) : mask F (put S a o') (upd H a u) = mask F S H := by
  funext b
  by_cases hb : b = a
  · subst hb; rw [mask_some put_same, mask_some q]
  · unfold mask; rw [put_ne hb, upd_ne hb]
theorem hst_chg {o' : O} (h : HSt K F H S) (q : S a = some o) (k : OOk K (mask F S H) (some u) o') : HSt K F (upd H a u) (put S a o') := ⟨fun b v e => by
  rw [mask_chg q]
  by_cases hb : b = a
  · subst hb
    rw [put_same] at e; cases e
    rw [upd_same]; exact k
  · rw [put_ne hb] at e
    rw [upd_ne hb]; exact h.at_ b v e, fun b v e => by
  have hb : b ≠ a := fun z => by subst z; rw [h.apart q] at e; cases e
  rw [upd_ne hb, put_ne hb]; exact h.side b v e⟩
/-- forgetting -/
theorem same_sub (e : Sub S' S) : Same (mask F S H) (mask F S' H) := fun b v q => by
  obtain ⟨q1, q0, q2⟩ := mask_free q
  have z : S' b = none := by
    rcases e b with z | z
    · exact z
    · rw [z]; exact q1
  rw [mask_none z q0]; exact q2
theorem hst_sub (h : HSt K F H S) (e : Sub S' S) : HSt K F H S' := ⟨fun b v q => by
  have z : S b = some v := by
    rcases e b with z | z
    · rw [q] at z; cases z
    · rw [← z]; exact q
  exact (h.at_ b v z).mono (same_sub e), fun b v q => by
  obtain ⟨q1, q2⟩ := h.side b v q
  refine ⟨q1, ?_⟩
  rcases e b with z | z
  · exact z
  · rw [z]; exact q2⟩
/-- something new put aside -/
theorem mask_aside (e : F a = none) (e2 : S a = none) (k : H a = some u) : Same (mask (upd F a u) S H) (mask F S H) := fun b v q => by
  obtain ⟨q1, q0, q2⟩ := mask_free q
  have hb : b ≠ a := fun z => by subst z; rw [upd_same] at q0; cases q0
  rw [upd_ne hb] at q0
  rw [mask_none q1 q0]; exact q2
theorem mask_beside (h : HSt K F H S) (e : H a = none) : Same (mask F S H) (mask (upd F a u) S (upd H a u)) := fun b v q => by
  obtain ⟨q1, q0, q2⟩ := mask_free q
  have hb := ne_of_none q2 e
  rw [mask_none q1 (by rw [upd_ne hb]; exact q0), upd_ne hb]; exact q2
theorem hst_beside (h : HSt K F H S) (e : H a = none) : HSt K (upd F a u) (upd H a u) S := ⟨fun b o q => by
  have hb : b ≠ a := fun z => by subst z; rw [h.free e] at q; cases q
  rw [upd_ne hb]; exact (h.at_ b o q).mono (mask_beside h e), fun b v q => by
  by_cases hb : b = a
  · subst hb
    rw [upd_same] at q ⊢
    exact ⟨q, h.free e⟩
  · rw [upd_ne hb] at q ⊢
    exact h.side b v q⟩
end

/-! ### the slots -/
abbrev Sd := List (Option D)
structure ER (K : PySem.W.Frag) (M : Hp) (σV : L2.St) (σ : Sd) : Prop where
  len : σV.length = σ.length
  at_ : ∀ (i : Nat) (d : D), σ[i]? = some (some d) → ∃ v, σV[i]? = some (some v) ∧ Rep K M v d
section
variable {K : PySem.W.Frag} {M M' : Hp} {σV : L2.St} {σ : Sd}
theorem ER.mono (h : ER K M σV σ) (e : Same M M') : ER K M' σV σ := ⟨h.len, fun i d q => let ⟨v, a, b⟩ := h.at_ i d q; ⟨v, a, b.mono e⟩⟩
theorem ER.set {i : Nat} {v : V} {d : D} (h : ER K M σV σ) (r : Rep K M v d) : ER K M (σV.set i (some v)) (σ.set i (some d)) := by
  refine ⟨by rw [List.length_set, List.length_set]; exact h.len, fun j e q => ?_⟩
  by_cases hj : i = j
  · subst hj
    have hi : i < σ.length := by
      have := (List.getElem?_eq_some_iff.mp q).1
      rwa [List.length_set] at this
    rw [List.getElem?_set_self hi] at q
    cases q
    exact ⟨v, List.getElem?_set_self (by rw [h.len]; exact hi), r⟩
  · rw [List.getElem?_set_ne hj] at q
    obtain ⟨w, a, b⟩ := h.at_ j e q
    exact ⟨w, by rw [List.getElem?_set_ne hj]; exact a, b⟩
theorem ER.setNone {i : Nat} {x : Option V} (h : ER K M σV σ) : ER K M (σV.set i x) (σ.set i none) := by
  refine ⟨by rw [List.length_set, List.length_set]; exact h.len, fun j e q => ?_⟩
  by_cases hj : i = j
  · subst hj
    have hi : i < σ.length := by
      have := (List.getElem?_eq_some_iff.mp q).1
      rwa [List.length_set] at this
    rw [List.getElem?_set_self hi] at q
    cases q
  · rw [List.getElem?_set_ne hj] at q
    obtain ⟨w, a, b⟩ := h.at_ j e q
    exact ⟨w, by rw [List.getElem?_set_ne hj]; exact a, b⟩
/-- a slot seen otherwise -/
theorem ER.see {i : Nat} {d : D} (h : ER K M σV σ) (r : ∀ v, σV[i]? = some (some v) → Rep K M v d) (hi : ∃ e, σ[i]? = some (some e)) : ER K M σV (σ.set i (some d)) := by
  refine ⟨by rw [List.length_set]; exact h.len, fun j e q => ?_⟩
  by_cases hj : i = j
  · subst hj
    have hi2 : i < σ.length := by
      have := (List.getElem?_eq_some_iff.mp q).1
      rwa [List.length_set] at this
    rw [List.getElem?_set_self hi2] at q
    cases q
    obtain ⟨e, he⟩ := hi
    obtain ⟨w, a, b⟩ := h.at_ i e he
    exact ⟨w, a, r w a⟩
  · rw [List.getElem?_set_ne hj] at q
    exact h.at_ j e q
end
end VL

/-! VL: the judgements over data, and the rules of expressions. -/
namespace VL
open PySem PySem.Spec PyProof.Rows L2

abbrev QD := D → Sto → Prop
abbrev XD := Value → List (Str × D) → Sto → Prop
abbrev TEd := Sd → Sto → QD → XD → Prop
abbrev TTd := Sd → Sto → (Bool → Sto → Prop) → XD → Prop
abbrev TAd := Sd → Sto → (List D → Sto → Prop) → XD → Prop

/-- from (H, S) on to (H', S') -/
structure Good (K : PySem.W.Frag) (F H : Hp) (S : Sto) (H' : Hp) (S' : Sto) : Prop where
  hst : HSt K F H' S'
  same : Same (mask F S H) (mask F S' H')
theorem Good.refl {K : PySem.W.Frag} {F H : Hp} {S : Sto} (h : HSt K F H S) : Good K F H S H S := ⟨h, Same.refl _⟩
theorem Good.trans {K : PySem.W.Frag} {F H H1 H2 : Hp} {S S1 S2 : Sto} (a : Good K F H S H1 S1) (b : Good K F H1 S1 H2 S2) : Good K F H S H2 S2 := ⟨b.hst, a.same.trans b.same⟩
def XRep (K : PySem.W.Frag) (M : Hp) : Option Addr → List (Str × D) → Prop
  | none, fs => fs = []
  | some dd, fs => ∃ fv, M dd = some (.xd fv) ∧ RepF K M fv fs
def LQ (K : PySem.W.Frag) (F H : Hp) (S : Sto) (Qd : QD) (Q : VK) : Prop := ∀ v H' d S', Good K F H S H' S' → Rep K (mask F S' H') v d → Qd d S' → Q v H'
def LX (K : PySem.W.Frag) (F : Hp) (W : WX) (σV : L2.St) (H : Hp) (S : Sto) (E : XD) : Prop := ∀ cls a H' fs S', Good K F H S H' S' → XRep K (mask F S' H') a fs → E cls fs S' → W cls a σV H'
theorem LQ.next {K : PySem.W.Frag} {F H H1 : Hp} {S S1 : Sto} {Qd : QD} {Q : VK} (h : LQ K F H S Qd Q) (g : Good K F H S H1 S1) : LQ K F H1 S1 Qd Q := fun v H' d S' g' => h v H' d S' (g.trans g')
theorem LX.next {K : PySem.W.Frag} {W : WX} {σV : L2.St} {F H H1 : Hp} {S S1 : Sto} {E : XD} (h : LX K F W σV H S E) (g : Good K F H S H1 S1) : LX K F W σV H1 S1 E := fun c a H' f S' g' => h c a H' f S' (g.trans g')

def Snd (K : PySem.W.Frag) (W : WX) (t : TE) (td : TEd) : Prop := ∀ {σV : L2.St} {F H : Hp} {σ : Sd} {S : Sto} {Qd : QD} {E : XD} {Q : VK},
  HSt K F H S → ER K (mask F S H) σV σ → td σ S Qd E → LQ K F H S Qd Q → LX K F W σV H S E → t σV H Q
def SndT (K : PySem.W.Frag) (W : WX) (t : TT) (td : TTd) : Prop := ∀ {σV : L2.St} {F H : Hp} {σ : Sd} {S : Sto} {Qd : Bool → Sto → Prop} {E : XD} {Q : Bool → Hp → Prop},
  HSt K F H S → ER K (mask F S H) σV σ → td σ S Qd E → (∀ b H' S', Good K F H S H' S' → Qd b S' → Q b H') → LX K F W σV H S E → t σV H Q
def SndA (K : PySem.W.Frag) (W : WX) (t : TA) (td : TAd) : Prop := ∀ {σV : L2.St} {F H : Hp} {σ : Sd} {S : Sto} {Qd : List D → Sto → Prop} {E : XD} {Q : List V → Hp → Prop},
  HSt K F H S → ER K (mask F S H) σV σ → td σ S Qd E → (∀ vs H' ds S', Good K F H S H' S' → Reps K (mask F S' H') vs ds → Qd ds S' → Q vs H') → LX K F W σV H S E → t σV H Q

structure VE (X : Cx) (W : WX) (e : Expr) (t : TE) (td : TEd) : Prop where
  run : PE X e t
  snd : Snd X.K W t td
structure VT (X : Cx) (W : WX) (e : Expr) (t : TT) (td : TTd) : Prop where
  run : PT X e t
  snd : SndT X.K W t td
structure VW (X : Cx) (W : WX) (e : Expr) (t : TT) (td : TTd) : Prop where
  run : PW X e t
  snd : SndT X.K W t td
structure VA (X : Cx) (W : WX) (es : List Expr) (t : TA) (td : TAd) : Prop where
  run : PA X es t
  snd : SndA X.K W t td

/-! ### seeing a thing -/
/-- a thing as it stands now -/
def vw (S : Sto) : D → D
  | .ref a => match S a with
    | some (.lst ds) => .lst ds
    | some (.dct k) => .dct k
    | _ => .ref a
  | d => d
section
variable {S : Sto}
@[simp] theorem vw_non : vw S .non = .non := rfl
@[simp] theorem vw_bl {b : Bool} : vw S (.bl b) = .bl b := rfl
@[simp] theorem vw_int {i : Int} : vw S (.int i) = .int i := rfl
@[simp] theorem vw_str {x : Str} : vw S (.str x) = .str x := rfl
@[simp] theorem vw_ty {x : String} : vw S (.ty x) = .ty x := rfl
@[simp] theorem vw_tup {ds : List D} : vw S (.tup ds) = .tup ds := rfl
@[simp] theorem vw_lst {ds : List D} : vw S (.lst ds) = .lst ds := rfl
@[simp] theorem vw_dct {ds : List (Key × D)} : vw S (.dct ds) = .dct ds := rfl
theorem vw_ref_lst {a : Addr} {ds : List D} (h : S a = some (.lst ds)) : vw S (.ref a) = .lst ds := by
  show (match S a with | some (.lst ds) => D.lst ds | some (.dct k) => .dct k | _ => .ref a) = _
  rw [h]
theorem vw_ref_dct {a : Addr} {ds : List (Key × D)} (h : S a = some (.dct ds)) : vw S (.ref a) = .dct ds := by
  show (match S a with | some (.lst ds) => D.lst ds | some (.dct k) => .dct k | _ => .ref a) = _
  rw [h]
theorem vw_ref {a : Addr} : (∃ ds, S a = some (.lst ds) ∧ vw S (.ref a) = .lst ds) ∨ (∃ ds, S a = some (.dct ds) ∧ vw S (.ref a) = .dct ds) ∨ vw S (.ref a) = .ref a := by
  cases e : S a with
  | none => exact .inr (.inr (by show (match S a with | some (.lst ds) => D.lst ds | some (.dct k) => .dct k | _ => .ref a) = _; rw [e]))
  | some o =>
    cases o with
    | lst ds => exact .inl ⟨ds, rfl, vw_ref_lst e⟩
    | dct ds => exact .inr (.inl ⟨ds, rfl, vw_ref_dct e⟩)
    | ins C fs => exact .inr (.inr (by show (match S a with | some (.lst ds) => D.lst ds | some (.dct k) => .dct k | _ => .ref a) = _; rw [e]))
    | dcs k => exact .inr (.inr (by show (match S a with | some (.lst ds) => D.lst ds | some (.dct k) => .dct k | _ => .ref a) = _; rw [e]))
end
section
variable {K : PySem.W.Frag} {F H : Hp} {S : Sto} {v : V} {d : D}
theorem sq_up {a : Addr} {xs : List V} (h : SqL K (mask F S H) a xs) : SqL K H a xs := mask_le.seq h
theorem st_up {a : Addr} {xs : List V} (h : SqT K (mask F S H) a xs) : SqT K H a xs := same_t mask_le h
theorem see_lst (hs : HSt K F H S) (r : Rep K (mask F S H) v d) {ds : List D} (e : vw S d = .lst ds) : ∃ a xs, v = .ref a ∧ SqL K H a xs ∧ Reps K (mask F S H) xs ds := by
  cases d with
  | ref a =>
    cases r
    rcases vw_ref (S := S) (a := a) with ⟨es, h1, h2⟩ | ⟨es, h1, h2⟩ | h2
    · rw [h2] at e; cases e
      obtain ⟨xs, e1, r⟩ := hs.at_ a _ h1
      exact ⟨a, xs, rfl, SqL.of e1, r⟩
    · rw [h2] at e; cases e
    · rw [h2] at e; cases e
  | lst es =>
    cases e
    cases r with
    | lst h r => exact ⟨_, _, rfl, sq_up h, r⟩
  | _ => cases e
theorem see_tup (r : Rep K (mask F S H) v d) {ds : List D} (e : vw S d = .tup ds) : d = .tup ds ∧ ∃ a xs, v = .ref a ∧ SqT K H a xs ∧ SqT K (mask F S H) a xs ∧ Reps K (mask F S H) xs ds := by
  cases d with
  | ref a =>
    cases r
    rcases vw_ref (S := S) (a := a) with ⟨es, h1, h2⟩ | ⟨es, h1, h2⟩ | h2 <;> (rw [h2] at e; cases e)
  | tup es =>
    cases e
    cases r with
    | tup h r => exact ⟨rfl, _, _, rfl, st_up h, h, r⟩
  | _ => cases e
theorem see_dct (hs : HSt K F H S) (r : Rep K (mask F S H) v d) {ds : List (Key × D)} (e : vw S d = .dct ds) : ∃ a xs, v = .ref a ∧ Rd H a (.dK xs) ∧ RepK K (mask F S H) xs ds := by
  cases d with
  | ref a =>
    cases r
    rcases vw_ref (S := S) (a := a) with ⟨es, h1, h2⟩ | ⟨es, h1, h2⟩ | h2
    · rw [h2] at e; cases e
    · rw [h2] at e; cases e
      obtain ⟨xs, e1, r⟩ := hs.at_ a _ h1
      exact ⟨a, xs, rfl, .inl e1, r⟩
    · rw [h2] at e; cases e
  | dct es =>
    cases e
    cases r with
    | dct h r => exact ⟨_, _, rfl, rd_same mask_le h, r⟩
  | _ => cases e
theorem see_int (r : Rep K (mask F S H) v d) {i : Int} (e : vw S d = .int i) : v = .int i := by
  cases d with
  | ref a => rcases vw_ref (S := S) (a := a) with ⟨es, h1, h2⟩ | ⟨es, h1, h2⟩ | h2 <;> (rw [h2] at e; cases e)
  | int j => cases e; cases r; rfl
  | _ => cases e
theorem see_str (r : Rep K (mask F S H) v d) {i : Str} (e : vw S d = .str i) : v = .str i := by
  cases d with
  | ref a => rcases vw_ref (S := S) (a := a) with ⟨es, h1, h2⟩ | ⟨es, h1, h2⟩ | h2 <;> (rw [h2] at e; cases e)
  | str j => cases e; cases r; rfl
  | _ => cases e
theorem see_bl (r : Rep K (mask F S H) v d) {i : Bool} (e : vw S d = .bl i) : v = .bl i := by
  cases d with
  | ref a => rcases vw_ref (S := S) (a := a) with ⟨es, h1, h2⟩ | ⟨es, h1, h2⟩ | h2 <;> (rw [h2] at e; cases e)
  | bl j => cases e; cases r; rfl
  | _ => cases e
theorem see_non (r : Rep K (mask F S H) v d) (e : vw S d = .non) : v = .non := by
  cases d with
  | ref a => rcases vw_ref (S := S) (a := a) with ⟨es, h1, h2⟩ | ⟨es, h1, h2⟩ | h2 <;> (rw [h2] at e; cases e)
  | non => cases r; rfl
  | _ => cases e
/-- the thing itself, as it stands now, where it is no object that may change -/
theorem rep_int {i : Int} : Rep K (mask F S H) (.int i) (.int i) := .int i
end

/-! ### names and constants -/
section
variable {X : Cx} {W : WX}
def dVar (i : Nat) : TEd := fun σ S Q _ => match σ[i]? with
  | some (some d) => Q d S
  | _ => False
theorem ve_var {i : Nat} {e : Expr} (h : PE X e (tVar i)) : VE X W e (tVar i) (dVar i) := by
  refine ⟨h, fun {σV F H σ S Qd E Q} hs er h hq hx => ?_⟩
  unfold dVar at h
  split at h
  · next d e => obtain ⟨v, e1, r⟩ := er.at_ i d e; exact ⟨v, e1, hq v H d S (.refl hs) r h⟩
  · cases h
def dC (d : D) : TEd := fun _ S Q _ => Q d S
theorem snd_c {v : V} {d : D} (r : ∀ M : Hp, Rep X.K M v d) : Snd X.K W (tC v) (dC d) := fun {σV F H σ S Qd E Q} hs er h hq hx => hq v H d S (.refl hs) (r _) h
theorem ve_int {i j pos} : VE X W (.Constant (.int i) j pos) (tC (.int i)) (dC (.int i)) := ⟨pe_int, snd_c fun _ => .int i⟩
theorem ve_bl {i j pos} : VE X W (.Constant (.bool i) j pos) (tC (.bl i)) (dC (.bl i)) := ⟨pe_bl, snd_c fun _ => .bl i⟩
theorem ve_non {j pos} : VE X W (.Constant .none j pos) (tC .non) (dC .non) := ⟨pe_non, snd_c fun _ => .non⟩
theorem ve_str {i j pos} : VE X W (.Constant (.str i) j pos) (tC (.str i)) (dC (.str i)) := ⟨pe_str, snd_c fun _ => .str i⟩
/-- a name of the module, of a builtin -/
theorem ve_c {e : Expr} {v : V} {d : D} (h : PE X e (tC v)) (r : ∀ M : Hp, Rep X.K M v d) : VE X W e (tC v) (dC d) := ⟨h, snd_c r⟩

/-! ### operators -/
abbrev R2d := D → D → Sto → QD → Prop
def Snd2 (K : PySem.W.Frag) (r : R2) (rd : R2d) : Prop := ∀ {x y : V} {dx dy : D} {F H : Hp} {S : Sto} {Qd : QD} {Q : VK},
  HSt K F H S → Rep K (mask F S H) x dx → Rep K (mask F S H) y dy → rd dx dy S Qd → LQ K F H S Qd Q → r x y H Q
def dOp (rd : R2d) (ta tb : TEd) : TEd := fun σ S Q E => ta σ S (fun x S1 => tb σ S1 (fun y S2 => rd x y S2 Q) E) E
variable {a b c : Expr} {ta tb tc : TE} {da db dc : TEd} {pos : Pos}
theorem snd_op {r : R2} {rd : R2d} (hr : Snd2 X.K r rd) (ha : Snd X.K W ta da) (hb : Snd X.K W tb db)
    (keep : True := trivial) : ∀ {σV : L2.St} {F H : Hp} {σ : Sd} {S : Sto} {Qd : QD} {E : XD} {Q : VK}, HSt X.K F H S → ER X.K (mask F S H) σV σ → dOp rd da db σ S Qd E → LQ X.K F H S Qd Q → LX X.K F W σV H S E → tOp r ta tb σV H Q :=
  fun {σV F H σ S Qd E Q} hs er h hq hx => ha (Q := fun x H1 => tb σV H1 fun y H2 => r x y H2 Q) hs er h (fun x H1 dx S1 g1 r1 h1 =>
    hb (Q := fun y H2 => r x y H2 Q) g1.hst (er.mono g1.same) h1 (fun y H2 dy S2 g2 r2 h2 => hr g2.hst (r1.mono g2.same) r2 h2 ((hq.next g1).next g2)) (hx.next g1)) hx
theorem ve_op {op : Operator} {r : R2} {rd : R2d} (ho : OpR X (binaryOp op) r) (hr : Snd2 X.K r rd) (ha : VE X W a ta da) (hb : VE X W b tb db) : VE X W (.BinOp a op b pos) (tOp r ta tb) (dOp rd da db) :=
  ⟨pe_op ho ha.run hb.run, snd_op hr ha.snd hb.snd⟩
theorem ve_cmp {op : CmpOp} {r : R2} {rd : R2d} (ho : OpR X (compareOp op) r) (hr : Snd2 X.K r rd) (ha : VE X W a ta da) (hb : VE X W b tb db) (hm : behindInMarks op b = false) : VE X W (.Compare a [op] [b] pos) (tOp r ta tb) (dOp rd da db) :=
  ⟨pe_cmpR ho ha.run hb.run hm, snd_op hr ha.snd hb.snd⟩
theorem ve_ix {r : R2} {rd : R2d} (ho : IxR X r) (hr : Snd2 X.K r rd) (ha : VE X W a ta da) (hb : VE X W b tb db) (hp : PlainIx b) : VE X W (.Subscript a b pos) (tOp r ta tb) (dOp rd da db) :=
  ⟨pe_ix ho ha.run hb.run hp, snd_op hr ha.snd hb.snd⟩

/-! one of two -/
def o2 (r s : R2) : R2 := fun x y H Q => r x y H Q ∨ s x y H Q
theorem OpR.o2 {f : Value → Value → Sem Value} {r r' : R2} (h : OpR X f r) (h' : OpR X f r') : OpR X f (o2 r r') := OpR.or h h'
theorem IxR.o2 {r r' : R2} (h : IxR X r) (h' : IxR X r') : IxR X (o2 r r') := IxR.or h h'

/-! a + b -/
def dAdd : R2d := fun x y S Q => match vw S x, vw S y with
  | .int i, .int j => Q (.int (i + j)) S
  | .str i, .str j => i.length + j.length ≤ sizeLine ∧ Q (.str (i ++ j)) S
  | .lst i, .lst j => i.length ≤ sizeLine ∧ j.length ≤ sizeLine ∧ i.length + j.length ≤ sizeLine ∧ Q (.lst (i ++ j)) S
  | _, _ => False
def rAddS : R2 := fun x y H Q => ∃ i j, x = .str i ∧ y = .str j ∧ i.length + j.length ≤ sizeLine ∧ Q (.str (i ++ j)) H
end
/-! an instance, whether it may change or not -/
def insV (S : Sto) : D → Option (Addr × List (Str × D))
  | .ref a => match S a with
    | some (.ins C fs) => some (C, fs)
    | _ => none
  | .ins C fs => some (C, fs)
  | _ => none
@[simp] theorem insV_ref {S : Sto} {a : Addr} : insV S (.ref a) = (match S a with
    | some (.ins C fs) => some (C, fs)
    | _ => none) := rfl
@[simp] theorem insV_ins {S : Sto} {C : Addr} {fs : List (Str × D)} : insV S (.ins C fs) = some (C, fs) := rfl
theorem insV_at {S : Sto} {a C : Addr} {fs : List (Str × D)} (h : S a = some (.ins C fs)) : insV S (.ref a) = some (C, fs) := by rw [insV_ref, h]
theorem see_ins {K : PySem.W.Frag} {F H : Hp} {S : Sto} {v : V} {d : D} {C : Addr} {fs : List (Str × D)} (hs : HSt K F H S) (r : Rep K (mask F S H) v d) (e : insV S d = some (C, fs)) :
    ∃ a dx fv, v = .ref a ∧ H a = some (.ins C dx fv) ∧ RepF K (mask F S H) fv fs := by
  cases d with
  | ref a =>
    cases r
    rw [insV_ref] at e
    split at e
    · next C' fs' es =>
      cases e
      obtain ⟨dx, fv, e1, rf⟩ := hs.at_ a _ es
      exact ⟨a, dx, fv, rfl, e1, rf⟩
    · cases e
  | ins C' fs' =>
    cases e
    cases r with
    | ins h rf => exact ⟨_, _, _, rfl, mask_le _ _ h, rf⟩
  | _ => cases e
/-! a dict whose keys are tuples -/
/-- such a dict as it stands -/
def vwT (S : Sto) : D → Option (List (List Key × D))
  | .ref a => match S a with
    | some (.dcs k) => some k
    | _ => none
  | .dcs k => some k
  | _ => none
theorem vwT_ref {S : Sto} {a : Addr} {k : List (List Key × D)} (h : S a = some (.dcs k)) : vwT S (.ref a) = some k := by
  show (match S a with | some (.dcs k) => some k | _ => none) = _
  rw [h]
@[simp] theorem vwT_dcs {S : Sto} {k : List (List Key × D)} : vwT S (.dcs k) = some k := rfl
theorem see_dcs {K : PySem.W.Frag} {F H : Hp} {S : Sto} {v : V} {d : D} (hs : HSt K F H S) (r : Rep K (mask F S H) v d) {ds : List (List Key × D)} (e : vwT S d = some ds) : ∃ a xs, v = .ref a ∧ Rd H a (.dT xs) ∧ RepQ K (mask F S H) xs ds := by
  cases d with
  | ref a =>
    cases r
    have e' : (match S a with | some (.dcs k) => some k | _ => none) = some ds := e
    split at e'
    · next k es =>
      cases e'
      obtain ⟨xs, e1, r⟩ := hs.at_ a _ es
      exact ⟨a, xs, rfl, .inl e1, r⟩
    · cases e'
  | dcs es =>
    cases e
    cases r with
    | dcs h r => exact ⟨_, _, rfl, rd_same mask_le h, r⟩
  | _ => cases e
/-- a thing as it stands now, such a dict, too -/
def vwA (S : Sto) (d : D) : D := match vwT S d with
  | some k => .dcs k
  | none => vw S d
theorem vwA_of {S : Sto} {d : D} (h : vwT S d = none) : vwA S d = vw S d := by unfold vwA; rw [h]
theorem vwT_no {S : Sto} {a : Addr} (h : ∀ k, S a ≠ some (.dcs k)) : vwT S (.ref a) = none := by
  show (match S a with | some (.dcs k) => some k | _ => none) = none
  split
  · next k e => exact absurd e (h k)
  · rfl
theorem vwA_lst {S : Sto} {a : Addr} {ds : List D} (h : S a = some (.lst ds)) : vwA S (.ref a) = .lst ds := by rw [vwA_of (vwT_no fun k e => by rw [h] at e; cases e), vw_ref_lst h]
theorem vwA_dct {S : Sto} {a : Addr} {ds : List (Key × D)} (h : S a = some (.dct ds)) : vwA S (.ref a) = .dct ds := by rw [vwA_of (vwT_no fun k e => by rw [h] at e; cases e), vw_ref_dct h]
theorem vwA_dcs {S : Sto} {a : Addr} {ds : List (List Key × D)} (h : S a = some (.dcs ds)) : vwA S (.ref a) = .dcs ds := by unfold vwA; rw [vwT_ref h]
end VL

/-! VL: operators, comparisons, displays, tests. -/
namespace VL
open PySem PySem.Spec PyProof.Rows L2
section
variable {X : Cx} {W : WX} {a b c : Expr} {ta tb tc : TE} {da db dc : TEd} {pos : Pos}

/-! ### numbers -/
def iOp (C : Int → Int → Prop) (g : Int → Int → Int) : R2d := fun x y S Q => match vw S x, vw S y with
  | .int i, .int j => C i j ∧ Q (.int (g i j)) S
  | _, _ => False
theorem snd_iOp {C : Int → Int → Prop} {g : Int → Int → Int} : Snd2 X.K (rI C fun i j => .int (g i j)) (iOp C g) := fun {x y dx dy F H S Qd Q} hs rx ry h hq => by
  unfold iOp at h; split at h
  · next i j ei ej => exact ⟨i, j, see_int rx ei, see_int ry ej, h.1, hq _ H _ S (.refl hs) (.int _) h.2⟩
  · cases h
def iCmp (g : Int → Int → Bool) : R2d := fun x y S Q => match vw S x, vw S y with
  | .int i, .int j => Q (.bl (g i j)) S
  | _, _ => False
theorem snd_iCmp {g : Int → Int → Bool} : Snd2 X.K (rI0 fun i j => .bl (g i j)) (iCmp g) := fun {x y dx dy F H S Qd Q} hs rx ry h hq => by
  unfold iCmp at h; split at h
  · next i j ei ej => exact ⟨i, j, see_int rx ei, see_int ry ej, hq _ H _ S (.refl hs) (.bl _) h⟩
  · cases h
abbrev dLt : R2d := iCmp fun i j => decide (i < j)
abbrev dLe : R2d := iCmp fun i j => decide (i ≤ j)
abbrev dGt : R2d := iCmp fun i j => decide (j < i)
abbrev dGe : R2d := iCmp fun i j => decide (j ≤ i)
abbrev dMod : R2d := iOp (fun _ j => 0 < j) fun i j => i % j
abbrev dFdiv : R2d := iOp CDivW fun i j => i / j
abbrev dMulI : R2d := iOp CMulW fun i j => i * j
abbrev dPow : R2d := iOp CPow fun i j => i ^ j.toNat
abbrev dSub : R2d := iOp (fun _ _ => True) fun i j => i - j
theorem op_subT : OpR X (binaryOp .Sub) (rI (fun _ _ => True) fun i j => .int (i - j)) := fun pins s σ H x y v u Q I rx ry h => by
  obtain ⟨i, j, e1, e2, _, q⟩ := h
  exact op_sub pins s σ H x y v u Q I rx ry ⟨i, j, e1, e2, q⟩
theorem ve_sub (ha : VE X W a ta da) (hb : VE X W b tb db) : VE X W (.BinOp a .Sub b pos) (tOp (rI (fun _ _ => True) fun i j => .int (i - j)) ta tb) (dOp dSub da db) := ve_op op_subT snd_iOp ha hb
theorem ve_mul (ha : VE X W a ta da) (hb : VE X W b tb db) : VE X W (.BinOp a .Mult b pos) (tOp (rI CMulW fun i j => .int (i * j)) ta tb) (dOp dMulI da db) := ve_op op_mulW snd_iOp ha hb
theorem ve_mod (ha : VE X W a ta da) (hb : VE X W b tb db) : VE X W (.BinOp a .Mod b pos) (tOp (rI (fun _ j => 0 < j) fun i j => .int (i % j)) ta tb) (dOp dMod da db) := ve_op op_mod snd_iOp ha hb
theorem ve_fdiv (ha : VE X W a ta da) (hb : VE X W b tb db) : VE X W (.BinOp a .FloorDiv b pos) (tOp (rI CDivW fun i j => .int (i / j)) ta tb) (dOp dFdiv da db) := ve_op op_fdivW snd_iOp ha hb
theorem ve_pow (ha : VE X W a ta da) (hb : VE X W b tb db) : VE X W (.BinOp a .Pow b pos) (tOp (rI CPow fun i j => .int (i ^ j.toNat)) ta tb) (dOp dPow da db) := ve_op op_pow snd_iOp ha hb

/-! a + b -/
theorem op_cat2 : OpR X (binaryOp .Add) (fun x y H Q => ∃ l b xs zs, x = .ref l ∧ y = .ref b ∧ SqL X.K H l xs ∧ SqL X.K H b zs ∧ xs.length + zs.length ≤ sizeLine ∧ ∀ p, H p = none → Q (.ref p) (upd H p (.lst (xs ++ zs)))) := by
  intro pins s σ H x y v u Q I rx ry h
  obtain ⟨l, b, xs, zs, rfl, rfl, hH, hB, hz, q⟩ := h
  cases rx
  cases ry
  obtain ⟨its, r, pl, hl⟩ := I.list hH
  obtain ⟨its2, r2, pl2, hl2⟩ := I.list hB
  obtain ⟨⟨oc, od, dt, sl⟩, n, ho, h1, h2, h3⟩ := pl
  obtain ⟨⟨oc2, od2, dt2, sl2⟩, n2, ho2, h4, h5, h6⟩ := pl2
  simp only at h1 h2 h3 h4 h5 h6
  subst h1 h2 h3 h4 h5 h6
  refine concat_meets ⟨_, ho, rfl⟩ ⟨_, ho2, rfl⟩ noFill_list_add seq_list_add PySem.F.slot_list_add PySem.F.entry_list_add (PySem.F.args_list_add_2 _ _)
    (PyProof.Rows.list_addW l b its.toArray its2.toArray n n2 none none sl sl2 (by simp only [List.size_toArray, ← r.length, ← r2.length]; exact hz)) ⟨ho, ho2, ?_⟩
  have ea : its.toArray ++ its2.toArray = (its ++ its2).toArray := by simp
  rw [ea]
  exact ⟨.ref _, _, I.lnew (t' := s.toks) (r.append r2) (by rw [List.length_append]; exact hz), rfl, q _ I.fresh⟩
def rAddI : R2 := rI0 fun i j => .int (i + j)
def rAddL (K : PySem.W.Frag) : R2 := fun x y H Q => ∃ l b xs zs, x = .ref l ∧ y = .ref b ∧ SqL K H l xs ∧ SqL K H b zs ∧ xs.length + zs.length ≤ sizeLine ∧ ∀ p, H p = none → Q (.ref p) (upd H p (.lst (xs ++ zs)))
def rAddAll (K : PySem.W.Frag) : R2 := o2 rAddI (o2 rAddS (rAddL K))
theorem op_addAll : OpR X (binaryOp .Add) (rAddAll X.K) := OpR.o2 op_add (OpR.o2 op_add_str op_cat2)
theorem good_new {K : PySem.W.Frag} {F H : Hp} {S : Sto} {p : Addr} {u : HO} (hs : HSt K F H S) (hp : H p = none) : Good K F H S (upd H p u) S := ⟨hst_new hs hp, same_new hs hp⟩
theorem new_lst {K : PySem.W.Frag} {F H : Hp} {S : Sto} {p : Addr} {xs : List V} {ds : List D} (hs : HSt K F H S) (hp : H p = none) (r : Reps K (mask F S H) xs ds) : Rep K (mask F S (upd H p (.lst xs))) (.ref p) (.lst ds) :=
  .lst (SqL.of (mask_new hs hp)) (r.mono (same_new hs hp))
theorem new_tup {K : PySem.W.Frag} {F H : Hp} {S : Sto} {p : Addr} {xs : List V} {ds : List D} (hs : HSt K F H S) (hp : H p = none) (r : Reps K (mask F S H) xs ds) : Rep K (mask F S (upd H p (.tup xs))) (.ref p) (.tup ds) :=
  .tup (SqT.of (mask_new hs hp)) (r.mono (same_new hs hp))
theorem new_dct {K : PySem.W.Frag} {F H : Hp} {S : Sto} {p : Addr} {xs : List (Key × V)} {ds : List (Key × D)} (hs : HSt K F H S) (hp : H p = none) (r : RepK K (mask F S H) xs ds) : Rep K (mask F S (upd H p (.dK xs))) (.ref p) (.dct ds) :=
  .dct (.inl (mask_new hs hp)) (r.mono (same_new hs hp))
theorem snd_addAll : Snd2 X.K (rAddAll X.K) dAdd := fun {x y dx dy F H S Qd Q} hs rx ry h hq => by
  unfold dAdd at h; split at h
  · next i j ei ej => exact .inl ⟨i, j, see_int rx ei, see_int ry ej, hq _ H _ S (.refl hs) (.int _) h⟩
  · next i j ei ej => exact .inr (.inl ⟨i, j, see_str rx ei, see_str ry ej, h.1, hq _ H _ S (.refl hs) (.str _) h.2⟩)
  · next i j ei ej =>
    obtain ⟨a1, xs, rfl, h1, r1⟩ := see_lst hs rx ei
    obtain ⟨b1, ys, rfl, h2, r2⟩ := see_lst hs ry ej
    exact .inr (.inr ⟨a1, b1, xs, ys, rfl, rfl, h1, h2, by rw [r1.length, r2.length]; exact h.2.2.1, fun p hp => hq _ _ _ S (good_new hs hp) (new_lst hs hp (r1.append r2)) h.2.2.2⟩)
  · cases h
theorem ve_add (ha : VE X W a ta da) (hb : VE X W b tb db) : VE X W (.BinOp a .Add b pos) (tOp (rAddAll X.K) ta tb) (dOp dAdd da db) := ve_op op_addAll snd_addAll ha hb

/-! ### comparisons -/
theorem ve_lt (ha : VE X W a ta da) (hb : VE X W b tb db) : VE X W (.Compare a [.Lt] [b] pos) (tOp (rI0 fun i j => .bl (decide (i < j))) ta tb) (dOp dLt da db) := ve_cmp op_lt snd_iCmp ha hb (nomark _)
theorem ve_le (ha : VE X W a ta da) (hb : VE X W b tb db) : VE X W (.Compare a [.LtE] [b] pos) (tOp (rI0 fun i j => .bl (decide (i ≤ j))) ta tb) (dOp dLe da db) := ve_cmp op_le snd_iCmp ha hb (nomark _)
theorem ve_gt (ha : VE X W a ta da) (hb : VE X W b tb db) : VE X W (.Compare a [.Gt] [b] pos) (tOp (rI0 fun i j => .bl (decide (j < i))) ta tb) (dOp dGt da db) := ve_cmp op_gt snd_iCmp ha hb (nomark _)
theorem ve_ge (ha : VE X W a ta da) (hb : VE X W b tb db) : VE X W (.Compare a [.GtE] [b] pos) (tOp (rI0 fun i j => .bl (decide (j ≤ i))) ta tb) (dOp dGe da db) := ve_cmp op_ge snd_iCmp ha hb (nomark _)

/-! data as a whole -/
mutual
def toP : D → Option PyData
  | .non => some .none
  | .bl b => some (.bool b)
  | .int i => some (.int i)
  | .str x => some (.str x)
  | .tup ds => (toPs ds).map .tuple
  | .lst ds => (toPs ds).map .list
  | .ty _ => none
  | .ref _ => none
  | .dct _ => none
  | .exc _ _ _ _ => none
  | .ins _ _ => none
  | .dcs _ => none
def toPs : List D → Option (List PyData)
  | [] => some []
  | d :: ds => match toP d, toPs ds with
    | some p, some ps => some (p :: ps)
    | _, _ => none
end
section
variable {K : PySem.W.Frag} {F H : Hp} {S : Sto}
mutual
theorem dp_of : ∀ {v : V} {d : D} {p : PyData}, Rep K (mask F S H) v d → toP d = some p → Dp K H v p
  | _, .non, p, r, e => by cases r; rw [toP] at e; cases e; exact .non
  | _, .bl b, p, r, e => by cases r; rw [toP] at e; cases e; exact .bl b
  | _, .int i, p, r, e => by cases r; rw [toP] at e; cases e; exact .int i
  | _, .str x, p, r, e => by cases r; rw [toP] at e; cases e; exact .str x
  | _, .tup ds, p, r, e => by
    cases r with
    | tup h r =>
      rw [toP] at e
      obtain ⟨ps, e1, e2⟩ := Option.map_eq_some_iff.mp e
      subst e2
      exact .tup (st_up h) (dps_of r e1)
  | _, .lst ds, p, r, e => by
    cases r with
    | lst h r =>
      rw [toP] at e
      obtain ⟨ps, e1, e2⟩ := Option.map_eq_some_iff.mp e
      subst e2
      exact .lst (sq_up h) (dps_of r e1)
  | _, .ty n, p, r, e => by rw [toP] at e; cases e
  | _, .ref n, p, r, e => by rw [toP] at e; cases e
  | _, .dct n, p, r, e => by rw [toP] at e; cases e
  | _, .exc _ _ _ _, p, r, e => by rw [toP] at e; cases e
  | _, .ins _ _, p, r, e => by rw [toP] at e; cases e
  | _, .dcs _, p, r, e => by rw [toP] at e; cases e
theorem dps_of : ∀ {vs : List V} {ds : List D} {ps : List PyData}, Reps K (mask F S H) vs ds → toPs ds = some ps → DpAll K H vs ps
  | _, [], ps, r, e => by cases r; rw [toPs] at e; cases e; exact .nil
  | _, d :: ds, ps, r, e => by
    cases r with
    | cons h r =>
      rw [toPs] at e
      split at e
      · next p ps' e1 e2 => cases e; exact .cons (dp_of h e1) (dps_of r e2)
      · cases e
end
theorem dp_vw {v : V} {d : D} {p : PyData} (hs : HSt K F H S) (r : Rep K (mask F S H) v d) (e : toP (vw S d) = some p) : Dp K H v p := by
  cases d with
  | ref a =>
    cases r
    rcases vw_ref (S := S) (a := a) with ⟨es, h1, h2⟩ | ⟨es, h1, h2⟩ | h2
    · rw [h2] at e
      obtain ⟨xs, e1, r⟩ := hs.at_ a _ h1
      rw [toP] at e
      obtain ⟨ps, e2, e3⟩ := Option.map_eq_some_iff.mp e
      subst e3
      exact .lst (SqL.of e1) (dps_of r e2)
    · rw [h2, toP] at e; cases e
    · rw [h2, toP] at e; cases e
  | _ => exact dp_of r e
end
def dEqG (g : Bool → Bool) : R2d := fun x y S Q => match vw S x, vw S y with
  | .int i, .int j => Q (.bl (g (decide (i = j)))) S
  | .str i, .str j => Q (.bl (g (decide (i = j)))) S
  | .bl i, .bl j => Q (.bl (g (decide (i = j)))) S
  | dx, dy => match toP dx, toP dy with
    | some p, some q => SeqAt.shaped p = true ∧ SeqAt.shaped q = true ∧ Q (.bl (g (PyData.eqv p q))) S
    | _, _ => False
abbrev dEq : R2d := dEqG id
abbrev dNe : R2d := dEqG (!·)
theorem op_eqAll (hu : X.A.units + 64 < cLine) : OpR X (compareOp .Eq) (o2 rEq (rEqD X.K)) := OpR.o2 op_eq (op_eqD hu)
theorem op_neAll (hu : X.A.units + 64 < cLine) : OpR X (compareOp .NotEq) (o2 rNe (rNeD X.K)) := OpR.o2 op_ne (op_neD hu)
theorem snd_eqAll : Snd2 X.K (o2 rEq (rEqD X.K)) dEq := fun {x y dx dy F H S Qd Q} hs rx ry h hq => by
  unfold dEq dEqG at h; split at h
  · next i j ei ej =>
    obtain rfl := see_int rx ei; obtain rfl := see_int ry ej
    exact .inl ⟨rfl, hq _ H _ S (.refl hs) (by have e : decide (V.int i = V.int j) = decide (i = j) := by simp
                                               rw [e]; exact .bl _) h⟩
  · next i j ei ej =>
    obtain rfl := see_str rx ei; obtain rfl := see_str ry ej
    exact .inl ⟨rfl, hq _ H _ S (.refl hs) (by have e : decide (V.str i = V.str j) = decide (i = j) := by simp
                                               rw [e]; exact .bl _) h⟩
  · next i j ei ej =>
    obtain rfl := see_bl rx ei; obtain rfl := see_bl ry ej
    exact .inl ⟨rfl, hq _ H _ S (.refl hs) (by have e : decide (V.bl i = V.bl j) = decide (i = j) := by simp
                                               rw [e]; exact .bl _) h⟩
  · split at h
    · next p q e1 e2 => exact .inr ⟨p, q, dp_vw hs rx e1, dp_vw hs ry e2, h.1, h.2.1, hq _ H _ S (.refl hs) (.bl _) h.2.2⟩
    · cases h
theorem snd_neAll : Snd2 X.K (o2 rNe (rNeD X.K)) dNe := fun {x y dx dy F H S Qd Q} hs rx ry h hq => by
  unfold dNe dEqG at h; split at h
  · next i j ei ej =>
    obtain rfl := see_int rx ei; obtain rfl := see_int ry ej
    exact .inl ⟨rfl, hq _ H _ S (.refl hs) (by have e : decide (V.int i = V.int j) = decide (i = j) := by simp
                                               rw [e]; exact .bl _) h⟩
  · next i j ei ej =>
    obtain rfl := see_str rx ei; obtain rfl := see_str ry ej
    exact .inl ⟨rfl, hq _ H _ S (.refl hs) (by have e : decide (V.str i = V.str j) = decide (i = j) := by simp
                                               rw [e]; exact .bl _) h⟩
  · next i j ei ej =>
    obtain rfl := see_bl rx ei; obtain rfl := see_bl ry ej
    exact .inl ⟨rfl, hq _ H _ S (.refl hs) (by have e : decide (V.bl i = V.bl j) = decide (i = j) := by simp
                                               rw [e]; exact .bl _) h⟩
  · split at h
    · next p q e1 e2 => exact .inr ⟨p, q, dp_vw hs rx e1, dp_vw hs ry e2, h.1, h.2.1, hq _ H _ S (.refl hs) (.bl _) h.2.2⟩
    · cases h
theorem ve_eq (hu : X.A.units + 64 < cLine) (ha : VE X W a ta da) (hb : VE X W b tb db) : VE X W (.Compare a [.Eq] [b] pos) (tOp (o2 rEq (rEqD X.K)) ta tb) (dOp dEq da db) := ve_cmp (op_eqAll hu) snd_eqAll ha hb (nomark _)
theorem ve_ne (hu : X.A.units + 64 < cLine) (ha : VE X W a ta da) (hb : VE X W b tb db) : VE X W (.Compare a [.NotEq] [b] pos) (tOp (o2 rNe (rNeD X.K)) ta tb) (dOp dNe da db) := ve_cmp (op_neAll hu) snd_neAll ha hb (nomark _)

/-! is None, is True -/
def isNon : D → Bool
  | .non => true
  | _ => false
theorem non_iff {K : PySem.W.Frag} {M : Hp} {v : V} {d : D} (r : Rep K M v d) : decide (v = .non) = isNon d := by
  cases r <;> simp [isNon]
def dIsG (g : Bool → Bool) : R2d := fun x y S Q => match x, y with
  | d, .non => Q (.bl (g (isNon d))) S
  | .bl i, .bl j => Q (.bl (g (decide (i = j)))) S
  | _, _ => False
def rIsN : R2 := fun x y H Q => y = .non ∧ Q (.bl (decide (x = .non))) H
def rNotN : R2 := fun x y H Q => y = .non ∧ Q (.bl (!decide (x = .non))) H
def rIsB : R2 := fun x y H Q => ∃ a b, x = .bl a ∧ y = .bl b ∧ Q (.bl (decide (a = b))) H
def rNotB : R2 := fun x y H Q => ∃ a b, x = .bl a ∧ y = .bl b ∧ Q (.bl (!decide (a = b))) H
theorem snd_is : Snd2 X.K (o2 rIsN rIsB) (dIsG id) := fun {x y dx dy F H S Qd Q} hs rx ry h hq => by
  unfold dIsG at h; split at h
  · cases ry; exact .inl ⟨rfl, hq _ H _ S (.refl hs) (by rw [non_iff rx]; exact .bl _) h⟩
  · cases rx; cases ry; exact .inr ⟨_, _, rfl, rfl, hq _ H _ S (.refl hs) (.bl _) h⟩
  · cases h
theorem snd_isNot : Snd2 X.K (o2 rNotN rNotB) (dIsG (!·)) := fun {x y dx dy F H S Qd Q} hs rx ry h hq => by
  unfold dIsG at h; split at h
  · cases ry; exact .inl ⟨rfl, hq _ H _ S (.refl hs) (by rw [non_iff rx]; exact .bl _) h⟩
  · cases rx; cases ry; exact .inr ⟨_, _, rfl, rfl, hq _ H _ S (.refl hs) (.bl _) h⟩
  · cases h
theorem ve_is (ha : VE X W a ta da) (hb : VE X W b tb db) : VE X W (.Compare a [.Is] [b] pos) (tOp (o2 rIsN rIsB) ta tb) (dOp (dIsG id) da db) := ve_cmp (OpR.o2 op_isN op_is_bl) snd_is ha hb (nomark _)
theorem ve_isnot (ha : VE X W a ta da) (hb : VE X W b tb db) : VE X W (.Compare a [.IsNot] [b] pos) (tOp (o2 rNotN rNotB) ta tb) (dOp (dIsG (!·)) da db) := ve_cmp (OpR.o2 op_notN op_isnot_bl) snd_isNot ha hb (nomark _)
end
end VL

/-! VL: in, subscripts, displays, builtins, tests. -/
namespace VL
open PySem PySem.Spec PyProof.Rows L2

/-! ### flat things -/
def flatD : D → Bool
  | .non => true
  | .bl _ => true
  | .int _ => true
  | .str _ => true
  | _ => false
def eqF : D → D → Bool
  | .non, .non => true
  | .bl a, .bl b => a == b
  | .bl a, .int b => (if a then 1 else 0) == b
  | .int a, .bl b => a == (if b then 1 else 0)
  | .int a, .int b => a == b
  | .str a, .str b => a == b
  | _, _ => false
def inD (x : D) (ds : List D) : Bool := ds.any fun y => eqF y x
/-- the one sign of a text of one -/
def sign1 (x : Str) : Option Nat := match x.cps.toList with
  | [c] => some c
  | _ => none
def signD : D → Option Nat
  | .str x => sign1 x
  | _ => none
theorem sign1_of {x : Str} {c : Nat} (h : sign1 x = some c) : x = ⟨#[c]⟩ := by
  unfold sign1 at h
  split at h
  · next d e =>
    cases h
    obtain ⟨⟨l⟩⟩ := x
    have e' : l = [c] := e
    subst e'
    rfl
  · cases h
theorem sign_rep {K : PySem.W.Frag} {M : Hp} {v : V} {d : D} {c : Nat} (r : Rep K M v d) (h : signD d = some c) : v = .str ⟨#[c]⟩ := by
  cases r <;> first | (simp [signD] at h; done) | skip
  rename_i x
  exact congrArg V.str (sign1_of h)
def keyD : D → Option Key
  | .int i => some (.inl i)
  | .str x => some (.inr x)
  | _ => none
section
variable {K : PySem.W.Frag} {M : Hp}
theorem flat_of {v : V} {d : D} (r : Rep K M v d) (h : flatD d = true) : flatV v = true := by
  cases r <;> first | rfl | (simp [flatD] at h)
theorem eqF_of {v w : V} {d e : D} (r : Rep K M v d) (q : Rep K M w e) (h : flatD d = true) (h2 : flatD e = true) : eqV v w = eqF d e := by
  cases r <;> first | (simp [flatD] at h; done) | (cases q <;> first | rfl | (simp [flatD] at h2; done))
theorem flats_of : ∀ {vs : List V} {ds : List D}, Reps K M vs ds → ds.all flatD = true → vs.all flatV = true
  | _, _, .nil, _ => rfl
  | _, _, .cons r t, h => by
    rw [List.all_cons, Bool.and_eq_true] at h ⊢
    exact ⟨flat_of r h.1, flats_of t h.2⟩
theorem inV_of {v : V} {d : D} (r : Rep K M v d) (h : flatD d = true) : ∀ {vs : List V} {ds : List D}, Reps K M vs ds → ds.all flatD = true → inV v vs = inD d ds
  | _, _, .nil, _ => rfl
  | _, _, .cons (v := w) (d := e) (vs := vs) (ds := ds) q t, hh => by
    rw [List.all_cons, Bool.and_eq_true] at hh
    have ih := inV_of r h t hh.2
    unfold inV inD at ih ⊢
    rw [List.any_cons, List.any_cons, eqF_of q r hh.1 h, ih]
theorem key_of {v : V} {d : D} {k : Key} (r : Rep K M v d) (e : keyD d = some k) : v = kV k := by
  cases r <;> simp [keyD] at e <;> (subst e; rfl)
theorem repK_valV {k : Key} : ∀ {kvs : List (Key × V)} {kds : List (Key × D)}, RepK K M kvs kds →
    (∀ d, (kds.find? fun kv => decide (kv.1 = k)).map (·.2) = some d → ∃ v, valV kvs k = some v ∧ Rep K M v d) ∧ ((kds.find? fun kv => decide (kv.1 = k)).map (·.2) = none → valV kvs k = none)
  | _, _, .nil => ⟨(fun _ e => by simp at e), fun _ => rfl⟩
  | _, _, .cons (k := k') (v := v) (d := d) h r => by
    have ih := repK_valV (k := k) r
    by_cases e : k' = k
    · simp only [List.find?_cons, e, decide_true, Option.map_some, Option.some.injEq]
      refine ⟨fun d' q => ⟨v, valV_pos rfl, by subst q; exact h⟩, fun q => ?_⟩
      cases q
    · simp only [List.find?_cons, e, decide_false]
      rw [valV_neg e]
      exact ih
theorem repK_len : ∀ {kvs : List (Key × V)} {kds : List (Key × D)}, RepK K M kvs kds → kvs.length = kds.length
  | _, _, .nil => rfl
  | _, _, .cons _ r => congrArg Nat.succ (repK_len r)
end
def getK (kds : List (Key × D)) (k : Key) : Option D := (kds.find? fun kv => decide (kv.1 = k)).map (·.2)

section
variable {X : Cx} {W : WX} {a b c : Expr} {ta tb tc : TE} {da db dc : TEd} {pos : Pos}
/-! ### in -/
def dInG (g : Bool → Bool) : R2d := fun x y S Q => match vw S y with
  | .lst ds => flatD x = true ∧ ds.all flatD = true ∧ Q (.bl (g (inD x ds))) S
  | .tup ds => flatD x = true ∧ ds.all flatD = true ∧ Q (.bl (g (inD x ds))) S
  | .dct kds => match keyD x with
    | some k => Q (.bl (g (getK kds k).isSome)) S
    | none => False
  | .str z => match signD x with
    | some c => Q (.bl (g (decide (c ∈ z.cps.toList)))) S
    | none => False
  | _ => False
def rInSign : R2 := fun x y H Q => ∃ (c : Nat) (z : Str), x = .str ⟨#[c]⟩ ∧ y = .str z ∧ Q (.bl (decide (c ∈ z.cps.toList))) H
def rNotInSign : R2 := fun x y H Q => ∃ (c : Nat) (z : Str), x = .str ⟨#[c]⟩ ∧ y = .str z ∧ Q (.bl (!decide (c ∈ z.cps.toList))) H
def rInD : R2 := fun x y H Q => ∃ a o, y = .ref a ∧ DGet H a x o ∧ Q (.bl o.isSome) H
def rNotInD : R2 := fun x y H Q => ∃ a o, y = .ref a ∧ DGet H a x o ∧ Q (.bl (!o.isSome)) H
theorem op_inD (hu : X.A.units + 1 < cLine) : OpR X (compareOp .In) rInD := fun pins s σ H x y v u Q I rx ry h => by
  obtain ⟨a, o, rfl, g, q⟩ := h
  obtain rfl : u = Value.ref a := ry
  exact d_in hu I g rx fun s' I' => ⟨.bl _, H, I', rfl, q⟩
theorem op_notInD (hu : X.A.units + 1 < cLine) : OpR X (compareOp .NotIn) rNotInD := fun pins s σ H x y v u Q I rx ry h => by
  obtain ⟨a, o, rfl, g, q⟩ := h
  obtain rfl : u = Value.ref a := ry
  exact d_notIn hu I g rx fun s' I' => ⟨.bl _, H, I', rfl, q⟩
def rInAll (K : PySem.W.Frag) : R2 := o2 (rIn K false) (o2 rInSign rInD)
def rNotInAll (K : PySem.W.Frag) : R2 := o2 (rIn K true) (o2 rNotInSign rNotInD)
theorem op_inAll (hu : X.A.units + 1 < cLine) : OpR X (compareOp .In) (rInAll X.K) := OpR.o2 op_in_seq (OpR.o2 op_in_sign (op_inD hu))
theorem op_notInAll (hu : X.A.units + 1 < cLine) : OpR X (compareOp .NotIn) (rNotInAll X.K) := OpR.o2 op_notIn_seq (OpR.o2 op_notIn_sign (op_notInD hu))
theorem dget_of {K : PySem.W.Frag} {F H : Hp} {S : Sto} {a : Addr} {xs : List (Key × V)} {ds : List (Key × D)} {x : V} {k : Key} (e : Rd H a (.dK xs)) (r : RepK K (mask F S H) xs ds) (ek : x = kV k) :
    ∃ o, DGet H a x o ∧ o.isSome = (getK ds k).isSome ∧ ∀ d, getK ds k = some d → ∃ v, o = some v ∧ Rep K (mask F S H) v d := by
  subst ek
  refine ⟨valV xs k, .inl ⟨xs, k, e, rfl, rfl⟩, ?_, fun d hd => (repK_valV r).1 d hd⟩
  cases q : getK ds k with
  | some d => obtain ⟨v, e1, _⟩ := (repK_valV r).1 d q; rw [e1]; rfl
  | none => rw [(repK_valV r).2 q]; rfl
theorem snd_inAll : Snd2 X.K (rInAll X.K) (dInG id) := fun {x y dx dy F H S Qd Q} hs rx ry h hq => by
  unfold dInG at h; split at h
  · next ds e =>
    obtain ⟨a1, xs, rfl, h1, r1⟩ := see_lst hs ry e
    exact .inl ⟨a1, xs, rfl, .inl h1, flat_of rx h.1, flats_of r1 h.2.1, hq _ H _ S (.refl hs) (by rw [inV_of rx h.1 r1 h.2.1]; exact .bl _) h.2.2⟩
  · next ds e =>
    obtain ⟨_, a1, xs, rfl, h1, _, r1⟩ := see_tup ry e
    exact .inl ⟨a1, xs, rfl, .inr h1, flat_of rx h.1, flats_of r1 h.2.1, hq _ H _ S (.refl hs) (by rw [inV_of rx h.1 r1 h.2.1]; exact .bl _) h.2.2⟩
  · next kds e =>
    obtain ⟨a1, xs, rfl, h1, r1⟩ := see_dct hs ry e
    split at h
    · next k ek =>
      obtain ⟨o, g, ei, _⟩ := dget_of h1 r1 (key_of rx ek)
      exact .inr (.inr ⟨a1, o, rfl, g, hq _ H _ S (.refl hs) (by rw [ei]; exact .bl _) h⟩)
    · cases h
  · next z e =>
    obtain rfl := see_str ry e
    split at h
    · next c ec => exact .inr (.inl ⟨c, z, sign_rep rx ec, rfl, hq _ H _ S (.refl hs) (.bl _) h⟩)
    · cases h
  · cases h
theorem snd_notInAll : Snd2 X.K (rNotInAll X.K) (dInG (!·)) := fun {x y dx dy F H S Qd Q} hs rx ry h hq => by
  unfold dInG at h; split at h
  · next ds e =>
    obtain ⟨a1, xs, rfl, h1, r1⟩ := see_lst hs ry e
    exact .inl ⟨a1, xs, rfl, .inl h1, flat_of rx h.1, flats_of r1 h.2.1, hq _ H _ S (.refl hs) (by rw [inV_of rx h.1 r1 h.2.1]; exact .bl _) h.2.2⟩
  · next ds e =>
    obtain ⟨_, a1, xs, rfl, h1, _, r1⟩ := see_tup ry e
    exact .inl ⟨a1, xs, rfl, .inr h1, flat_of rx h.1, flats_of r1 h.2.1, hq _ H _ S (.refl hs) (by rw [inV_of rx h.1 r1 h.2.1]; exact .bl _) h.2.2⟩
  · next kds e =>
    obtain ⟨a1, xs, rfl, h1, r1⟩ := see_dct hs ry e
    split at h
    · next k ek =>
      obtain ⟨o, g, ei, _⟩ := dget_of h1 r1 (key_of rx ek)
      exact .inr (.inr ⟨a1, o, rfl, g, hq _ H _ S (.refl hs) (by rw [ei]; exact .bl _) h⟩)
    · cases h
  · next z e =>
    obtain rfl := see_str ry e
    split at h
    · next c ec => exact .inr (.inl ⟨c, z, sign_rep rx ec, rfl, hq _ H _ S (.refl hs) (.bl _) h⟩)
    · cases h
  · cases h
theorem ve_in (hu : X.A.units + 1 < cLine) (ha : VE X W a ta da) (hb : VE X W b tb db) (hm : behindInMarks .In b = false := by rfl) : VE X W (.Compare a [.In] [b] pos) (tOp (rInAll X.K) ta tb) (dOp (dInG id) da db) := ve_cmp (op_inAll hu) snd_inAll ha hb hm
theorem ve_notin (hu : X.A.units + 1 < cLine) (ha : VE X W a ta da) (hb : VE X W b tb db) (hm : behindInMarks .NotIn b = false := by rfl) : VE X W (.Compare a [.NotIn] [b] pos) (tOp (rNotInAll X.K) ta tb) (dOp (dInG (!·)) da db) := ve_cmp (op_notInAll hu) snd_notInAll ha hb hm

/-! ### subscripts -/
def dIx : R2d := fun x y S Q => match vw S x with
  | .lst ds => match y with
    | .int i => match atI ds i with
      | some d => Q d S
      | none => False
    | _ => False
  | .tup ds => match y with
    | .int i => match atI ds i with
      | some d => Q d S
      | none => False
    | _ => False
  | .str z => match y with
    | .int i => z.length ≤ sizeLine ∧ match atI z.cps.toList i with
      | some c => Q (.str ⟨#[c]⟩) S
      | none => False
    | _ => False
  | .dct kds => match keyD y with
    | some k => match getK kds k with
      | some d => Q d S
      | none => False
    | none => False
  | _ => False
def rIxD : R2 := fun x y H Q => ∃ a w, x = .ref a ∧ DGet H a y (some w) ∧ Q w H
theorem tail_slot {prog : Program} {w : World} {A : Around} {E : Value → Shared → Prop} {s : Shared} {value slice : Expr} {o i : Value} {T id : String} {Q : Value → Shared → Prop} (hT : s.TypeIs o T)
    (hl : typeLookup (.type T) "__getitem__" = pure (some (.builtin id))) (h : wpAny (model prog w) A (getItem o i) Q E s) (hs : subscripted slice false o i = operate [o, i] (getItem o i)) :
    wpAny (model prog w) A (subscriptTail value slice o i) Q E s := by
  have z : wpAny (model prog w) A (subscripted slice false o i) (fun r s1 => wpAny (model prog w) A (do letTemporaryGo value o r; pure r) Q E s1) E s := by
    rw [hs]; exact wpAny_operating (wpAny_mono h (fun _ _ h1 => wpAny_bind (wpAny_letTemporaryGo (wpAny_pure h1))) fun _ _ e => e)
  unfold subscriptTail
  apply wpAny_bind
  rw [getitemInPython_of_ne hT.not_modules]
  apply wpAny_bind (wpAny_specialOf hT hl ?_)
  first | exact wpAny_pure (wpAny_bind z) | exact wpAny_bind (wpAny_pure (wpAny_bind z)) | exact wpAny_bind z
theorem ix_dct (hu : X.A.units + 1 < cLine) : IxR X rIxD := fun value slice pins s σ H x y v u Q I rx ry h hs => by
  obtain ⟨a, w, rfl, g, q⟩ := h
  obtain rfl : v = Value.ref a := rx
  exact tail_slot (dict_typeIs I g) PySem.F.slot_dict_getitem.lookup (d_getItem hu I g ry fun w' s3 I3 rw' => ⟨w, H, I3, rw', q⟩) hs
def rIxAll (K : PySem.W.Frag) : R2 := o2 (rIx K) rIxD
theorem ix_all (hu : X.A.units + 1 < cLine) : IxR X (rIxAll X.K) := IxR.o2 ix_seq (ix_dct hu)
theorem rep_at {K : PySem.W.Frag} {M : Hp} {xs : List V} {ds : List D} (r : Reps K M xs ds) {i : Int} {d : D} (e : atI ds i = some d) : ∃ v, atI xs i = some v ∧ Rep K M v d := by
  unfold atI at e ⊢
  rw [r.length]
  cases q : ixN ds.length i with
  | none => rw [q] at e; cases e
  | some j => rw [q] at e; exact r.get e
theorem snd_ixAll : Snd2 X.K (rIxAll X.K) dIx := fun {x y dx dy F H S Qd Q} hs rx ry h hq => by
  unfold dIx at h; split at h
  · next ds e =>
    obtain ⟨a1, xs, rfl, h1, r1⟩ := see_lst hs rx e
    split at h
    · split at h
      · next i _ d ed =>
        cases ry
        obtain ⟨v, e1, r2⟩ := rep_at r1 ed
        exact .inl (.inl ⟨a1, xs, _, v, rfl, rfl, h1, e1, hq _ H _ S (.refl hs) r2 h⟩)
      · cases h
    · cases h
  · next ds e =>
    obtain ⟨_, a1, xs, rfl, h1, _, r1⟩ := see_tup rx e
    split at h
    · split at h
      · next i _ d ed =>
        cases ry
        obtain ⟨v, e1, r2⟩ := rep_at r1 ed
        exact .inl (.inr (.inl ⟨a1, xs, _, v, rfl, rfl, h1, e1, hq _ H _ S (.refl hs) r2 h⟩))
      · cases h
    · cases h
  · next z e =>
    obtain rfl := see_str rx e
    split at h
    · obtain ⟨hz, h⟩ := h
      split at h
      · next i _ c ec =>
        cases ry
        exact .inl (.inr (.inr ⟨z, _, c, rfl, rfl, hz, ec, hq _ H _ S (.refl hs) (.str _) h⟩))
      · cases h
    · cases h
  · next kds e =>
    obtain ⟨a1, xs, rfl, h1, r1⟩ := see_dct hs rx e
    split at h
    · next k ek =>
      split at h
      · next d ed =>
        obtain ⟨o, g, _, gv⟩ := dget_of h1 r1 (key_of ry ek)
        obtain ⟨v, e2, r2⟩ := gv d ed
        subst e2
        exact .inr ⟨a1, v, rfl, g, hq _ H _ S (.refl hs) r2 h⟩
      · cases h
    · cases h
  · cases h
theorem ve_item (hu : X.A.units + 1 < cLine) (ha : VE X W a ta da) (hb : VE X W b tb db) (hp : PlainIx b := by exact fun _ _ => rfl) : VE X W (.Subscript a b pos) (tOp (rIxAll X.K) ta tb) (dOp dIx da db) := ve_ix (ix_all hu) snd_ixAll ha hb hp

/-! ### slices -/
abbrev TOd := Sd → Sto → (Option Int → Sto → Prop) → XD → Prop
def SndO (K : PySem.W.Frag) (W : WX) (t : TO) (td : TOd) : Prop := ∀ {σV : L2.St} {F H : Hp} {σ : Sd} {S : Sto} {Qd : Option Int → Sto → Prop} {E : XD} {Q : Option Int → Hp → Prop},
  HSt K F H S → ER K (mask F S H) σV σ → td σ S Qd E → (∀ b H' S', Good K F H S H' S' → Qd b S' → Q b H') → LX K F W σV H S E → t σV H Q
structure VO (X : Cx) (W : WX) (e : Option Expr) (t : TO) (td : TOd) : Prop where
  run : PO X e t
  snd : SndO X.K W t td
def dNoPart : TOd := fun _ S Q _ => Q none S
def dPart (td : TEd) : TOd := fun σ S Q E => td σ S (fun d S1 => match d with
  | .int i => Q (some i) S1
  | _ => False) E
theorem vo_none : VO X W none tNoPart dNoPart := ⟨po_none, fun {σV F H σ S Qd E Q} hs er h hq hx => hq none H S (.refl hs) h⟩
theorem vo_some {e : Expr} {te : TE} {de : TEd} (he : VE X W e te de) : VO X W (some e) (tPart te) (dPart de) := ⟨po_some he.run, fun {σV F H σ S Qd E Q} hs er h hq hx =>
  he.snd hs er h (fun v H' d S' g r hd => by
    split at hd
    · cases r; exact ⟨_, rfl, hq _ H' S' g hd⟩
    · cases hd) hx⟩
def cutD (ds : List D) (lo hi : Option Int) : List D := (ds.drop (HT.sIx ds.length 0 lo)).take (HT.sIx ds.length ds.length hi - HT.sIx ds.length 0 lo)
def dSlice (de : TEd) (dl dh : TOd) : TEd := fun σ S Q E => de σ S (fun x S1 => dl σ S1 (fun lo S2 => dh σ S2 (fun hi S3 => match vw S3 x with
  | .lst ds => Q (.lst (cutD ds lo hi)) S3
  | .tup ds => ¬ (HT.sIx ds.length 0 lo = 0 ∧ HT.sIx ds.length ds.length hi = ds.length) ∧ Q (.tup (cutD ds lo hi)) S3
  | .str z => z.length ≤ sizeLine ∧ Q (.str (cutS z lo hi)) S3
  | _ => False) E) E) E
def rSlAll (K : PySem.W.Frag) : V → Option Int → Option Int → Hp → VK → Prop := fun x lo hi H Q => rSlL K x lo hi H Q ∨ rSlT K x lo hi H Q ∨ rSlS x lo hi H Q
theorem sl_all : SlR X (rSlAll X.K) := SlR.or sl_list (SlR.or sl_tup sl_str)
theorem ve_slice {e : Expr} {lo hi : Option Expr} {te : TE} {tl th : TO} {de : TEd} {dl dh : TOd} {p2 : Pos} (he : VE X W e te de) (hl : VO X W lo tl dl) (hh : VO X W hi th dh) :
    VE X W (.Subscript e (.Slice lo hi none p2) pos) (tSl (rSlAll X.K) te tl th) (dSlice de dl dh) := by
  refine ⟨pe_slice sl_all he.run hl.run hh.run, fun {σV F H σ S Qd E Q} hs er h hq hx => ?_⟩
  refine he.snd (Q := fun x H1 => tl σV H1 fun l H2 => th σV H2 fun u H3 => rSlAll X.K x l u H3 Q) hs er h (fun x H1 dx S1 g1 r1 h1 => ?_) hx
  refine hl.snd (Q := fun l H2 => th σV H2 fun u H3 => rSlAll X.K x l u H3 Q) g1.hst (er.mono g1.same) h1 (fun l H2 S2 g2 h2 => ?_) (hx.next g1)
  have g12 := g1.trans g2
  refine hh.snd (Q := fun u H3 => rSlAll X.K x l u H3 Q) g2.hst (er.mono g12.same) h2 (fun u H3 S3 g3 h3 => ?_) (hx.next g12)
  have g := g12.trans g3
  have r3 := (r1.mono g2.same).mono g3.same
  split at h3
  · next ds e =>
    obtain ⟨a1, xs, rfl, k1, q1⟩ := see_lst g.hst r3 e
    exact .inl ⟨a1, xs, rfl, k1, fun p hp => hq _ _ _ S3 (g.trans (good_new g.hst hp)) (new_lst g.hst hp (q1.cut l u)) h3⟩
  · next ds e =>
    obtain ⟨_, a1, xs, rfl, k1, _, q1⟩ := see_tup r3 e
    exact .inr (.inl ⟨a1, xs, rfl, k1, by rw [q1.length]; exact h3.1, fun p hp => hq _ _ _ S3 (g.trans (good_new g.hst hp)) (new_tup g.hst hp (q1.cut l u)) h3.2⟩)
  · next z e =>
    obtain rfl := see_str r3 e
    exact .inr (.inr ⟨z, rfl, h3.1, hq _ _ _ S3 g (.str _) h3.2⟩)
  · cases h3

/-! ### argument lists, displays -/
def dNil : TAd := fun _ S Q _ => Q [] S
def dCons (de : TEd) (dr : TAd) : TAd := fun σ S Q E => de σ S (fun d S1 => dr σ S1 (fun ds S2 => Q (d :: ds) S2) E) E
theorem va_nil : VA X W [] tNil dNil := ⟨pa_nil, fun {σV F H σ S Qd E Q} hs er h hq hx => hq [] H [] S (.refl hs) .nil h⟩
theorem va_cons {e : Expr} {es : List Expr} {te : TE} {t : TA} {de : TEd} {dr : TAd} (ha : VE X W e te de) (hr : VA X W es t dr) (hs : starEach (e :: es) X.env = (false, eval e X.env) :: starEach es X.env := by rfl) :
    VA X W (e :: es) (tCons te t) (dCons de dr) := ⟨pa_cons ha.run hr.run hs, fun {σV F H σ S Qd E Q} hs er h hq hx =>
  ha.snd (Q := fun x H1 => t σV H1 fun xs H2 => Q (x :: xs) H2) hs er h (fun x H1 dx S1 g1 r1 h1 => hr.snd (Q := fun xs H2 => Q (x :: xs) H2) g1.hst (er.mono g1.same) h1 (fun xs H2 ds S2 g2 r2 h2 =>
    hq (x :: xs) H2 (dx :: ds) S2 (g1.trans g2) (.cons (r1.mono g2.same) r2) h2) (hx.next g1)) hx⟩
def dTup (da : TAd) : TEd := fun σ S Q E => da σ S (fun ds S1 => ds.length ≤ sizeLine ∧ Q (.tup ds) S1) E
def dLst (da : TAd) : TEd := fun σ S Q E => da σ S (fun ds S1 => ds.length ≤ sizeLine ∧ Q (.lst ds) S1) E
/-- .. a list that may change -/
def dLstM (da : TAd) : TEd := fun σ S Q E => da σ S (fun ds S1 => ds.length ≤ sizeLine ∧ ∀ p, S1 p = none → Q (.ref p) (put S1 p (.lst ds))) E
theorem ve_tup {es : List Expr} {x1} {t : TA} {da : TAd} (h : VA X W es t da) : VE X W (.Tuple es x1 pos) (tTup t) (dTup da) := ⟨pe_tup h.run, fun {σV F H σ S Qd E Q} hs er hh hq hx =>
  h.snd (Q := fun xs H1 => xs.length ≤ sizeLine ∧ ∀ p, H1 p = none → Q (.ref p) (upd H1 p (.tup xs))) hs er hh (fun xs H1 ds S1 g r h1 => ⟨by rw [r.length]; exact h1.1, fun p hp => hq _ _ _ S1 (g.trans (good_new g.hst hp)) (new_tup g.hst hp r) h1.2⟩) hx⟩
theorem ve_lst {es : List Expr} {t : TA} {da : TAd} (h : VA X W es t da) : VE X W (.List es pos) (tLst t) (dLst da) := ⟨pe_lst h.run, fun {σV F H σ S Qd E Q} hs er hh hq hx =>
  h.snd (Q := fun xs H1 => xs.length ≤ sizeLine ∧ ∀ p, H1 p = none → Q (.ref p) (upd H1 p (.lst xs))) hs er hh (fun xs H1 ds S1 g r h1 => ⟨by rw [r.length]; exact h1.1, fun p hp => hq _ _ _ S1 (g.trans (good_new g.hst hp)) (new_lst g.hst hp r) h1.2⟩) hx⟩
theorem ook_lst {K : PySem.W.Frag} {M : Hp} {xs : List V} {ds : List D} (r : Reps K M xs ds) : OOk K M (some (.lst xs)) (.lst ds) := ⟨xs, rfl, r⟩
theorem ook_dct {K : PySem.W.Frag} {M : Hp} {xs : List (Key × V)} {ds : List (Key × D)} (r : RepK K M xs ds) : OOk K M (some (.dK xs)) (.dct ds) := ⟨xs, rfl, r⟩
theorem ook_ins {K : PySem.W.Frag} {M : Hp} {C dx : Addr} {xs : List (Str × V)} {ds : List (Str × D)} (r : RepF K M xs ds) : OOk K M (some (.ins C dx xs)) (.ins C ds) := ⟨dx, xs, rfl, r⟩
theorem good_newM {K : PySem.W.Frag} {F H : Hp} {S : Sto} {p : Addr} {u : HO} {o : O} (hs : HSt K F H S) (hp : H p = none) (k : OOk K (mask F S H) (some u) o) : Good K F H S (upd H p u) (put S p o) := ⟨hst_newM hs hp k, same_newM hs hp⟩
theorem ve_lstM {es : List Expr} {t : TA} {da : TAd} (h : VA X W es t da) : VE X W (.List es pos) (tLst t) (dLstM da) := ⟨pe_lst h.run, fun {σV F H σ S Qd E Q} hs er hh hq hx =>
  h.snd (Q := fun xs H1 => xs.length ≤ sizeLine ∧ ∀ p, H1 p = none → Q (.ref p) (upd H1 p (.lst xs))) hs er hh (fun xs H1 ds S1 g r h1 => ⟨by rw [r.length]; exact h1.1, fun p hp =>
    hq _ _ _ _ (g.trans (good_newM g.hst hp (ook_lst r))) (.ref p) (h1.2 p (g.hst.free hp))⟩) hx⟩
/-- {}: a dict that may change -/
def dDctM : TEd := fun _ S Q _ => ∀ p, S p = none → Q (.ref p) (put S p (.dct []))
theorem ve_dctM : VE X W (.Dict [] [] pos) tDNewK dDctM := ⟨pe_dnewK, fun {σV F H σ S Qd E Q} hs er hh hq hx p hp => hq _ _ _ _ (good_newM hs hp (ook_dct .nil)) (.ref p) (hh p (hs.free hp))⟩
/-- a new thing that may change is seen as it stands from here on -/
def frz (Q : QD) : QD := fun d S => match d with
  | .ref a => match S a with
    | some (.lst ds) => Q (.lst ds) (era S a)
    | some (.dct ds) => Q (.dct ds) (era S a)
    | _ => False
  | _ => False
theorem LQ.frz {K : PySem.W.Frag} {F H : Hp} {S : Sto} {Qd : QD} {Q : VK} (h : LQ K F H S Qd Q) : LQ K F H S (frz Qd) Q := fun v H' d S' g r hd => by
  unfold VL.frz at hd
  split at hd
  · next a =>
    cases r
    split at hd
    · next ds e =>
      obtain ⟨xs, e1, r1⟩ := g.hst.at_ a _ e
      have s1 : Same (mask F S' H') (mask F (era S' a) H') := same_sub sub_era
      refine h _ H' _ _ ⟨hst_sub g.hst sub_era, g.same.trans s1⟩ (.lst (SqL.of ?_) (r1.mono s1)) hd
      rw [mask_none (by unfold era; rw [if_pos rfl]) (g.hst.apart e)]; exact e1
    · next ds e =>
      obtain ⟨xs, e1, r1⟩ := g.hst.at_ a _ e
      have s1 : Same (mask F S' H') (mask F (era S' a) H') := same_sub sub_era
      refine h _ H' _ _ ⟨hst_sub g.hst sub_era, g.same.trans s1⟩ (.dct (.inl ?_) (r1.mono s1)) hd
      rw [mask_none (by unfold era; rw [if_pos rfl]) (g.hst.apart e)]; exact e1
    · cases hd
  · cases hd
def dFrz (de : TEd) : TEd := fun σ S Q E => de σ S (frz Q) E
theorem ve_frz {e : Expr} {te : TE} {de : TEd} (h : VE X W e te de) : VE X W e te (dFrz de) := ⟨h.run, fun {σV F H σ S Qd E Q} hs er hh hq hx => h.snd hs er hh hq.frz hx⟩
end
end VL

/-! VL: builtins, and or not, tests, if-expressions, chains. -/
namespace VL
open PySem PySem.Spec PyProof.Rows L2

/-! ### lists of one kind -/
def intsD : List D → Option (List Int)
  | [] => some []
  | .int i :: r => (intsD r).map (i :: ·)
  | _ :: _ => none
def bools : List D → Option (List Bool)
  | [] => some []
  | .bl i :: r => (bools r).map (i :: ·)
  | _ :: _ => none
def strsD : List D → Option (List Str)
  | [] => some []
  | .str i :: r => (strsD r).map (i :: ·)
  | _ :: _ => none
@[simp] theorem ints_map (l : List Int) : intsD (l.map D.int) = some l := by
  induction l with
  | nil => rfl
  | cons a l ih => show (intsD (l.map D.int)).map (a :: ·) = _; rw [ih]; rfl
@[simp] theorem bools_map (l : List Bool) : bools (l.map D.bl) = some l := by
  induction l with
  | nil => rfl
  | cons a l ih => show (bools (l.map D.bl)).map (a :: ·) = _; rw [ih]; rfl
@[simp] theorem strs_map (l : List Str) : strsD (l.map D.str) = some l := by
  induction l with
  | nil => rfl
  | cons a l ih => show (strsD (l.map D.str)).map (a :: ·) = _; rw [ih]; rfl
theorem ints_of : ∀ {ds : List D} {l : List Int}, intsD ds = some l → ds = l.map D.int
  | [], l, h => by cases h; rfl
  | .int i :: r, l, h => by
    obtain ⟨l', h1, h2⟩ := Option.map_eq_some_iff.mp (show (intsD r).map (i :: ·) = some l from h)
    subst h2; rw [ints_of h1]; rfl
  | .non :: _, _, h => by cases h
  | .bl _ :: _, _, h => by cases h
  | .str _ :: _, _, h => by cases h
  | .ty _ :: _, _, h => by cases h
  | .ref _ :: _, _, h => by cases h
  | .tup _ :: _, _, h => by cases h
  | .lst _ :: _, _, h => by cases h
  | .dct _ :: _, _, h => by cases h
theorem bools_of : ∀ {ds : List D} {l : List Bool}, bools ds = some l → ds = l.map D.bl
  | [], l, h => by cases h; rfl
  | .bl i :: r, l, h => by
    obtain ⟨l', h1, h2⟩ := Option.map_eq_some_iff.mp (show (bools r).map (i :: ·) = some l from h)
    subst h2; rw [bools_of h1]; rfl
  | .non :: _, _, h => by cases h
  | .int _ :: _, _, h => by cases h
  | .str _ :: _, _, h => by cases h
  | .ty _ :: _, _, h => by cases h
  | .ref _ :: _, _, h => by cases h
  | .tup _ :: _, _, h => by cases h
  | .lst _ :: _, _, h => by cases h
  | .dct _ :: _, _, h => by cases h
theorem strs_of : ∀ {ds : List D} {l : List Str}, strsD ds = some l → ds = l.map D.str
  | [], l, h => by cases h; rfl
  | .str i :: r, l, h => by
    obtain ⟨l', h1, h2⟩ := Option.map_eq_some_iff.mp (show (strsD r).map (i :: ·) = some l from h)
    subst h2; rw [strs_of h1]; rfl
  | .non :: _, _, h => by cases h
  | .int _ :: _, _, h => by cases h
  | .bl _ :: _, _, h => by cases h
  | .ty _ :: _, _, h => by cases h
  | .ref _ :: _, _, h => by cases h
  | .tup _ :: _, _, h => by cases h
  | .lst _ :: _, _, h => by cases h
  | .dct _ :: _, _, h => by cases h
section
variable {K : PySem.W.Frag} {M : Hp}
theorem reps_ints : ∀ {l : List Int} {xs : List V}, Reps K M xs (l.map D.int) → xs = l.map V.int
  | [], _, h => by cases h; rfl
  | i :: r, _, h => by cases h with | cons h1 h2 => cases h1; rw [reps_ints h2]; rfl
theorem reps_bools : ∀ {l : List Bool} {xs : List V}, Reps K M xs (l.map D.bl) → xs = l.map V.bl
  | [], _, h => by cases h; rfl
  | i :: r, _, h => by cases h with | cons h1 h2 => cases h1; rw [reps_bools h2]; rfl
theorem reps_strs : ∀ {l : List Str} {xs : List V}, Reps K M xs (l.map D.str) → xs = l.map V.str
  | [], _, h => by cases h; rfl
  | i :: r, _, h => by cases h with | cons h1 h2 => cases h1; rw [reps_strs h2]; rfl
theorem reps_of_ints : ∀ (l : List Int), Reps K M (l.map V.int) (l.map D.int)
  | [] => .nil
  | i :: r => .cons (.int i) (reps_of_ints r)
theorem reps_of_strs : ∀ (l : List Str), Reps K M (l.map V.str) (l.map D.str)
  | [] => .nil
  | i :: r => .cons (.str i) (reps_of_strs r)
end

/-! ### a builtin called by its name -/
abbrev RCd := List D → Sto → QD → Prop
def SndC (K : PySem.W.Frag) (r : List V → Hp → VK → Prop) (rd : RCd) : Prop := ∀ {xs : List V} {ds : List D} {F H : Hp} {S : Sto} {Qd : QD} {Q : VK},
  HSt K F H S → Reps K (mask F S H) xs ds → rd ds S Qd → LQ K F H S Qd Q → r xs H Q
def dCB (rd : RCd) (da : TAd) : TEd := fun σ S Q E => da σ S (fun ds S1 => rd ds S1 Q) E
def c2 (r s : List V → Hp → VK → Prop) : List V → Hp → VK → Prop := fun xs H Q => r xs H Q ∨ s xs H Q
section
variable {X : Cx} {W : WX} {a b c : Expr} {ta tb tc : TE} {da db dc : TEd} {pos : Pos}
theorem snd_cb {r : List V → Hp → VK → Prop} {rd : RCd} {t : TA} {d : TAd} (hr : SndC X.K r rd) (ha : SndA X.K W t d) : Snd X.K W (tCB r t) (dCB rd d) := fun {σV F H σ S Qd E Q} hs er h hq hx =>
  ha (Q := fun vs H1 => r vs H1 Q) hs er h (fun vs H1 ds S1 g r1 h1 => hr g.hst r1 h1 (hq.next g)) hx
theorem ve_cb {id : String} {r : List V → Hp → VK → Prop} {rd : RCd} {x : Str} {p : Pos} {e : Expr} {es : List Expr} {t : TA} {d : TAd} (hr : SndC X.K r rd) (hc : CallR X (.builtin id) r) (hm : X.mg x = none) (ha : VA X W (e :: es) t d)
    (hg : Gl X x := by rfl) (hv : bootBuiltins x = some (.builtin id) := by decide +kernel) (hn : x ≠ "__name__" := by decide) (hdb : (x == ("__debug__" : Str)) = false := by decide)
    (he : starEach (e :: es) X.env = (false, eval e X.env) :: starEach es X.env := by rfl) (hpl : (backTo pos (starEach es X.env)).any (·.1) = false := by rfl) :
    VE X W (.Call (.Name x p) (e :: es) [] pos) (tCB r t) (dCB rd d) := ⟨pe_callB hc hg hm hv ha.run hn hdb he hpl, snd_cb hr ha.snd⟩
theorem ve_ct {T : String} {r : List V → Hp → VK → Prop} {rd : RCd} {x : Str} {p : Pos} {e : Expr} {es : List Expr} {t : TA} {d : TAd} (hr : SndC X.K r rd) (hc : CallR X (.type T) r) (hm : X.mg x = none) (ha : VA X W (e :: es) t d)
    (hg : Gl X x := by rfl) (hv : bootBuiltins x = some (.type T) := by decide +kernel) (hn : x ≠ "__name__" := by decide) (hdb : (x == ("__debug__" : Str)) = false := by decide)
    (he : starEach (e :: es) X.env = (false, eval e X.env) :: starEach es X.env := by rfl) (hpl : (backTo pos (starEach es X.env)).any (·.1) = false := by rfl) :
    VE X W (.Call (.Name x p) (e :: es) [] pos) (tCB r t) (dCB rd d) := ⟨pe_callTy hc hg hm hv ha.run hn hdb he hpl, snd_cb hr ha.snd⟩

/-! len -/
def dLen : RCd := fun ds S Q => match ds with
  | [x] => match vw S x with
    | .lst l => Q (.int l.length) S
    | .tup l => Q (.int l.length) S
    | .dct l => Q (.int l.length) S
    | .str z => z.length ≤ sizeLine ∧ Q (.int z.length) S
    | _ => False
  | _ => False
def rLen (K : PySem.W.Frag) : List V → Hp → VK → Prop := fun xs H Q => ∃ x n, xs = [x] ∧ LenV K x H n ∧ Q (.int n) H
def rLenK : List V → Hp → VK → Prop := fun xs H Q => ∃ a kvs, xs = [.ref a] ∧ Rd H a (.dK kvs) ∧ Q (.int (kvs.length : Nat)) H
theorem snd_len : SndC X.K (c2 (rLen X.K) rLenK) dLen := fun {xs ds F H S Qd Q} hs r h hq => by
  unfold dLen at h; split at h
  · cases r with
    | cons r1 r2 =>
      cases r2
      split at h
      · next l e =>
        obtain ⟨a1, ys, rfl, h1, q1⟩ := see_lst hs r1 e
        exact .inl ⟨_, ys.length, rfl, .inl ⟨ys, h1, rfl⟩, hq _ H _ S (.refl hs) (by rw [q1.length]; exact .int _) h⟩
      · next l e =>
        obtain ⟨_, a1, ys, rfl, h1, _, q1⟩ := see_tup r1 e
        exact .inl ⟨_, ys.length, rfl, .inr ⟨ys, h1, rfl⟩, hq _ H _ S (.refl hs) (by rw [q1.length]; exact .int _) h⟩
      · next l e =>
        obtain ⟨a1, ys, rfl, h1, q1⟩ := see_dct hs r1 e
        exact .inr ⟨a1, ys, rfl, h1, hq _ H _ S (.refl hs) (by rw [repK_len q1]; exact .int _) h⟩
      · next z e =>
        obtain rfl := see_str r1 e
        exact .inl ⟨_, z.length, rfl, ⟨h.1, rfl⟩, hq _ H _ S (.refl hs) (.int _) h.2⟩
      · cases h
  · cases h
theorem call_lenK : CallR X (.builtin "len") rLenK := by
  intro pins s σ H xs us Q I r q
  obtain ⟨a, kvs, ex, e, q⟩ := q
  subst ex
  obtain ⟨u, eu, rx⟩ := vals1 r
  subst eu
  cases rx
  exact d_len I e fun t s' I' => ⟨.int _, H, I', ⟨t, rfl⟩, q⟩
theorem call_lenA : CallR X (.builtin "len") (c2 (rLen X.K) rLenK) := CallR.or call_len call_lenK

/-! isinstance, of the builtin kinds -/
def tyN : D → Option String
  | .non => some "NoneType"
  | .bl _ => some "bool"
  | .int _ => some "int"
  | .str _ => some "str"
  | .tup _ => some "tuple"
  | .lst _ => some "list"
  | .dct _ => some "dict"
  | .ty _ => none
  | .ref _ => none
  | .exc _ _ _ _ => none
  | .ins _ _ => none
  | .dcs _ => none
def kindsB : List String := ["int", "bool", "str", "tuple", "list", "dict"]
def isT (t n : String) : Bool := t == n || (t == "bool" && n == "int")
theorem kit_is {d : D} {t n : String} (ht : tyN d = some t) (hn : kindsB.contains n = true) : kitB t n = some (isT t n) := by
  have h : n = "int" ∨ n = "bool" ∨ n = "str" ∨ n = "tuple" ∨ n = "list" ∨ n = "dict" := by simpa [kindsB] using hn
  cases d <;> simp [tyN] at ht <;> (subst ht; rcases h with rfl | rfl | rfl | rfl | rfl | rfl <;> decide +kernel)
/-- is d of one of these kinds -/
def tysD : List D → Option (List String)
  | [] => some []
  | .ty n :: r => (tysD r).map (n :: ·)
  | _ :: _ => none
def dIsi : RCd := fun ds S Q => match ds with
  | [x, .ty n] => match tyN (vw S x) with
    | some t => kindsB.contains n = true ∧ Q (.bl (isT t n)) S
    | none => False
  | [x, .tup ns] => match tyN (vw S x), tysD ns with
    | some t, some l => l.all kindsB.contains = true ∧ Q (.bl (l.any (isT t))) S
    | _, _ => False
  | _ => False
theorem tyx_of {F H : Hp} {S : Sto} {v : V} {d : D} {t : String} (hs : HSt X.K F H S) (r : Rep X.K (mask F S H) v d) (ht : tyN (vw S d) = some t) : TyX X.K H v (.type t) := by
  cases e : vw S d with
  | non => obtain rfl := see_non r e; rw [e] at ht; cases ht; exact .base .non
  | bl b => obtain rfl := see_bl r e; rw [e] at ht; cases ht; exact .base (.bl b)
  | int b => obtain rfl := see_int r e; rw [e] at ht; cases ht; exact .base (.int b)
  | str b => obtain rfl := see_str r e; rw [e] at ht; cases ht; exact .base (.str b)
  | tup l =>
    obtain ⟨_, a1, ys, rfl, h1, _, _⟩ := see_tup r e
    rw [e] at ht; cases ht
    rcases h1 with (h1 | ⟨o, h1⟩) | ⟨o, its, n, h1, h2, _⟩
    · exact .base (.tup h1)
    · exact .fTuple h1
    · exact .kTuple h1 h2
  | lst l =>
    obtain ⟨a1, ys, rfl, h1, _⟩ := see_lst hs r e
    rw [e] at ht; cases ht
    rcases h1 with (h1 | ⟨o, h1⟩) | ⟨o, its, n, h1, h2, _⟩
    · exact .base (.lst h1)
    · exact .base (.frz h1)
    · exact .kList h1 h2
  | dct l =>
    obtain ⟨a1, ys, rfl, h1, _⟩ := see_dct hs r e
    rw [e] at ht; cases ht
    rcases h1 with h1 | ⟨o, h1⟩
    · exact .base (.dK h1)
    · exact .fDict h1
  | ty n => rw [e] at ht; cases ht
  | ref a => rw [e] at ht; cases ht
  | exc _ _ _ _ => rw [e] at ht; cases ht
  | ins _ _ => rw [e] at ht; cases ht
  | dcs _ => rw [e] at ht; cases ht
theorem tys_of : ∀ {ds : List D} {l : List String}, tysD ds = some l → ds = l.map D.ty
  | [], l, h => by cases h; rfl
  | .ty i :: r, l, h => by
    obtain ⟨l', h1, h2⟩ := Option.map_eq_some_iff.mp (show (tysD r).map (i :: ·) = some l from h)
    subst h2; rw [tys_of h1]; rfl
  | .non :: _, _, h => by cases h
  | .int _ :: _, _, h => by cases h
  | .bl _ :: _, _, h => by cases h
  | .str _ :: _, _, h => by cases h
  | .ref _ :: _, _, h => by cases h
  | .tup _ :: _, _, h => by cases h
  | .lst _ :: _, _, h => by cases h
  | .dct _ :: _, _, h => by cases h
theorem reps_tys {M : Hp} : ∀ {l : List String} {xs : List V}, Reps X.K M xs (l.map D.ty) → xs = l.map V.ty ∧ Paired ClsV xs (l.map Value.type)
  | [], _, h => by cases h; exact ⟨rfl, .nil⟩
  | i :: r, _, h => by
    cases h with
    | cons h1 h2 =>
      cases h1
      obtain ⟨e, p⟩ := reps_tys h2
      exact ⟨by rw [e]; rfl, .cons (.ty i) p⟩
theorem kit_any {d : D} {t : String} (ht : tyN d = some t) : ∀ {l : List String}, l.all kindsB.contains = true → PySem.W.kitAny X.K (.type t) (l.map Value.type) = some (l.any (isT t))
  | [], _ => kitAny_nil
  | n :: l, h => by
    rw [List.all_cons, Bool.and_eq_true] at h
    have ih := kit_any ht h.2
    refine kitAny_cons (b := isT t n) (kit_ty (kit_is ht h.1)) (fun e => ?_) (fun e => ?_)
    · rw [List.any_cons, e, Bool.false_or]; exact ih
    · rw [List.any_cons, e, Bool.true_or]
/-- isinstance(x, (..)) of a tuple that stands -/
def rIsiG (K : PySem.W.Frag) : List V → Hp → VK → Prop := fun xs H Q => ∃ (x : V) (tp : Addr) (cs : List V) (t : Value) (us : List Value) (b : Bool), xs = [x, .ref tp] ∧ SqT K H tp cs ∧ Paired ClsV cs us ∧ TyX K H x t ∧ PySem.W.kitAny K t us = some b ∧ Q (.bl b) H
theorem call_isiG : CallR X (.builtin "isinstance") (rIsiG X.K) := fun pins s σ H xs us Q I r h => by
  obtain ⟨x, tp, cs, t, ws, b, rfl, hT, k, ty, e, q⟩ := h
  obtain ⟨u1, u2, rfl, r1, r2⟩ := vals2 r
  cases (show u2 = Value.ref tp from r2)
  obtain ⟨P, Z, p, hx⟩ := kit_of I r1 ty
  obtain ⟨its, rv, ⟨⟨oc, od, dt, sl⟩, h1, h2, n, h3⟩, _⟩ := I.tuple hT
  obtain rfl := ClsV.all k rv
  simp only at h2 h3
  subst h2 h3
  exact PySem.W.kia_tup Z I.kIn p h1 e hx fun tk => ⟨.bl b, H, I.tok tk, rfl, q⟩
theorem snd_isi : SndC X.K (c2 (rIsi X.K) (rIsiG X.K)) dIsi := fun {xs ds F H S Qd Q} hs r h hq => by
  unfold dIsi at h; split at h
  · next x n =>
    cases r with
    | cons r1 r2 =>
      cases r2 with
      | cons r2 r3 =>
        cases r3; cases r2
        split at h
        · next t et =>
          exact .inl ⟨_, _, .type t, .type n, isT t n, rfl, .ty n, tyx_of hs r1 et, kit_ty (kit_is et h.1), hq _ H _ S (.refl hs) (.bl _) h.2⟩
        · cases h
  · next x ns =>
    cases r with
    | cons r1 r2 =>
      cases r2 with
      | cons r2 r3 =>
        cases r3
        split at h
        · next t l et el =>
          obtain rfl := tys_of el
          obtain ⟨_, a1, ys, rfl, _, hm, q1⟩ := see_tup (d := .tup (l.map D.ty)) r2 rfl
          obtain ⟨e1, p1⟩ := reps_tys q1
          subst e1
          exact .inr ⟨_, a1, _, .type t, l.map Value.type, l.any (isT t), rfl, st_up hm, p1, tyx_of hs r1 et, kit_any et h.1, hq _ H _ S (.refl hs) (.bl _) h.2⟩
        · cases h
  · cases h
theorem call_isA : CallR X (.builtin "isinstance") (c2 (rIsi X.K) (rIsiG X.K)) := CallR.or call_isi call_isiG

/-! all, any, sum; max, min of two; abs -/
def dAll : RCd := fun ds S Q => match ds with
  | [x] => match vw S x with
    | .lst l => match bools l with
      | some bs => Q (.bl (bs.all id)) S
      | none => False
    | _ => False
  | _ => False
def dAny : RCd := fun ds S Q => match ds with
  | [x] => match vw S x with
    | .lst l => match bools l with
      | some bs => Q (.bl (bs.any id)) S
      | none => False
    | _ => False
  | _ => False
def dSum : RCd := fun ds S Q => match ds with
  | [x] => match vw S x with
    | .lst l => match intsD l with
      | some bs => Q (.int bs.sum) S
      | none => False
    | _ => False
  | _ => False
theorem snd_all : SndC X.K (rAll X.K) dAll := fun {xs ds F H S Qd Q} hs r h hq => by
  unfold dAll at h; split at h
  · cases r with
    | cons r1 r2 =>
      cases r2
      split at h
      · next l e =>
        split at h
        · next bs eb =>
          obtain rfl := bools_of eb
          obtain ⟨a1, ys, rfl, h1, q1⟩ := see_lst hs r1 e
          obtain rfl := reps_bools q1
          exact ⟨a1, bs, rfl, h1, hq _ H _ S (.refl hs) (.bl _) h⟩
        · cases h
      · cases h
  · cases h
theorem snd_any : SndC X.K (rAny X.K) dAny := fun {xs ds F H S Qd Q} hs r h hq => by
  unfold dAny at h; split at h
  · cases r with
    | cons r1 r2 =>
      cases r2
      split at h
      · next l e =>
        split at h
        · next bs eb =>
          obtain rfl := bools_of eb
          obtain ⟨a1, ys, rfl, h1, q1⟩ := see_lst hs r1 e
          obtain rfl := reps_bools q1
          exact ⟨a1, bs, rfl, h1, hq _ H _ S (.refl hs) (.bl _) h⟩
        · cases h
      · cases h
  · cases h
theorem snd_sum : SndC X.K (rSum X.K) dSum := fun {xs ds F H S Qd Q} hs r h hq => by
  unfold dSum at h; split at h
  · cases r with
    | cons r1 r2 =>
      cases r2
      split at h
      · next l e =>
        split at h
        · next bs eb =>
          obtain rfl := ints_of eb
          obtain ⟨a1, ys, rfl, h1, q1⟩ := see_lst hs r1 e
          obtain rfl := reps_ints q1
          exact ⟨a1, bs, rfl, h1, hq _ H _ S (.refl hs) (.int _) h⟩
        · cases h
      · cases h
  · cases h
def dMM (g : Int → Int → Int) : RCd := fun ds S Q => match ds with
  | [.int i, .int j] => Q (.int (g i j)) S
  | _ => False
theorem snd_mm {g : Int → Int → Int} : SndC X.K (fun xs H Q => ∃ i j, xs = [.int i, .int j] ∧ Q (.int (g i j)) H) (dMM g) := fun {xs ds F H S Qd Q} hs r h hq => by
  unfold dMM at h; split at h
  · next i j =>
    cases r with
    | cons r1 r2 => cases r2 with
      | cons r2 r3 => cases r3; cases r1; cases r2; exact ⟨i, j, rfl, hq _ H _ S (.refl hs) (.int _) h⟩
  · cases h
def dAbs : RCd := fun ds S Q => match ds with
  | [.int i] => Q (.int (if i < 0 then -i else i)) S
  | _ => False
theorem snd_abs : SndC X.K (fun xs H Q => ∃ i, xs = [.int i] ∧ Q (.int (if i < 0 then -i else i)) H) dAbs := fun {xs ds F H S Qd Q} hs r h hq => by
  unfold dAbs at h; split at h
  · next i => cases r with
    | cons r1 r2 => cases r2; cases r1; exact ⟨i, rfl, hq _ H _ S (.refl hs) (.int _) h⟩
  · cases h

/-! str(n), int(text | flag), list(..), tuple(..) -/
def dStr : RCd := fun ds S Q => match ds with
  | [.int i] => i.natAbs.log2 < 1920 ∧ Q (.str (toString i)) S
  | _ => False
theorem snd_str : SndC X.K (fun xs H Q => ∃ i, xs = [.int i] ∧ i.natAbs.log2 < 1920 ∧ Q (.str (toString i)) H) dStr := fun {xs ds F H S Qd Q} hs r h hq => by
  unfold dStr at h; split at h
  · next i => cases r with
    | cons r1 r2 => cases r2; cases r1; exact ⟨i, rfl, h.1, hq _ H _ S (.refl hs) (.str _) h.2⟩
  · cases h
def dInt : RCd := fun ds S Q => match ds with
  | [.int i] => Q (.int i) S
  | [.bl k] => Q (.int (if k then 1 else 0)) S
  | [.str a] => match PySem.intText? a with
    | some n => a.length ≤ 640 ∧ Q (.int n) S
    | none => False
  | _ => False
def rInt1 : List V → Hp → VK → Prop := fun xs H Q => (∃ i, xs = [.int i] ∧ Q (.int i) H) ∨ ∃ k, xs = [.bl k] ∧ Q (.int (if k then 1 else 0)) H
def rIntS : List V → Hp → VK → Prop := fun xs H Q => ∃ a n, xs = [.str a] ∧ PySem.intText? a = some n ∧ a.length ≤ 640 ∧ Q (.int n) H
theorem snd_int : SndC X.K (c2 rInt1 rIntS) dInt := fun {xs ds F H S Qd Q} hs r h hq => by
  unfold dInt at h; split at h
  · next i => cases r with
    | cons r1 r2 => cases r2; cases r1; exact .inl (.inl ⟨i, rfl, hq _ H _ S (.refl hs) (.int _) h⟩)
  · next i => cases r with
    | cons r1 r2 => cases r2; cases r1; exact .inl (.inr ⟨i, rfl, hq _ H _ S (.refl hs) (.int _) h⟩)
  · next a =>
    split at h
    · next n en => cases r with
      | cons r1 r2 => cases r2; cases r1; exact .inr ⟨a, n, rfl, en, h.1, hq _ H _ S (.refl hs) (.int _) h.2⟩
    · cases h
  · cases h
theorem call_intA : CallR X (.type "int") (c2 rInt1 rIntS) := CallR.or call_int1 call_int_str
def rListOf (K : PySem.W.Frag) : List V → Hp → VK → Prop := fun xs H Q => ∃ p ys, xs = [.ref p] ∧ (SqL K H p ys ∨ SqT K H p ys) ∧ ∀ l, H l = none → Q (.ref l) (upd H l (.lst ys))
def dListOf : RCd := fun ds S Q => match ds with
  | [x] => match vw S x with
    | .lst l => Q (.lst l) S
    | .tup l => Q (.lst l) S
    | _ => False
  | _ => False
/-- .. a list that may change -/
def dListOfM : RCd := fun ds S Q => match ds with
  | [x] => match vw S x with
    | .lst l => ∀ p, S p = none → Q (.ref p) (put S p (.lst l))
    | .tup l => ∀ p, S p = none → Q (.ref p) (put S p (.lst l))
    | _ => False
  | _ => False
theorem snd_listOf : SndC X.K (rListOf X.K) dListOf := fun {xs ds F H S Qd Q} hs r h hq => by
  unfold dListOf at h; split at h
  · cases r with
    | cons r1 r2 =>
      cases r2
      split at h
      · next l e =>
        obtain ⟨a1, ys, rfl, h1, q1⟩ := see_lst hs r1 e
        exact ⟨a1, ys, rfl, .inl h1, fun p hp => hq _ _ _ S (good_new hs hp) (new_lst hs hp q1) h⟩
      · next l e =>
        obtain ⟨_, a1, ys, rfl, h1, _, q1⟩ := see_tup r1 e
        exact ⟨a1, ys, rfl, .inr h1, fun p hp => hq _ _ _ S (good_new hs hp) (new_lst hs hp q1) h⟩
      · cases h
  · cases h
theorem snd_listOfM : SndC X.K (rListOf X.K) dListOfM := fun {xs ds F H S Qd Q} hs r h hq => by
  unfold dListOfM at h; split at h
  · cases r with
    | cons r1 r2 =>
      cases r2
      split at h
      · next l e =>
        obtain ⟨a1, ys, rfl, h1, q1⟩ := see_lst hs r1 e
        exact ⟨a1, ys, rfl, .inl h1, fun p hp => hq _ _ _ _ (good_newM hs hp (ook_lst q1)) (.ref p) (h p (hs.free hp))⟩
      · next l e =>
        obtain ⟨_, a1, ys, rfl, h1, _, q1⟩ := see_tup r1 e
        exact ⟨a1, ys, rfl, .inr h1, fun p hp => hq _ _ _ _ (good_newM hs hp (ook_lst q1)) (.ref p) (h p (hs.free hp))⟩
      · cases h
  · cases h
def rTupOf (K : PySem.W.Frag) : List V → Hp → VK → Prop := fun xs H Q => ∃ p ys, xs = [.ref p] ∧ ((SqL K H p ys ∧ ∀ l, H l = none → Q (.ref l) (upd H l (.tup ys))) ∨ (SqT K H p ys ∧ Q (.ref p) H))
def dTupOf : RCd := fun ds S Q => match ds with
  | [x] => match vw S x with
    | .lst l => Q (.tup l) S
    | .tup l => Q (.tup l) S
    | _ => False
  | _ => False
theorem snd_tupOf : SndC X.K (rTupOf X.K) dTupOf := fun {xs ds F H S Qd Q} hs r h hq => by
  unfold dTupOf at h; split at h
  · cases r with
    | cons r1 r2 =>
      cases r2
      split at h
      · next l e =>
        obtain ⟨a1, ys, rfl, h1, q1⟩ := see_lst hs r1 e
        exact ⟨a1, ys, rfl, .inl ⟨h1, fun p hp => hq _ _ _ S (good_new hs hp) (new_tup hs hp q1) h⟩⟩
      · next l e =>
        obtain ⟨_, a1, ys, rfl, h1, hm, q1⟩ := see_tup r1 e
        exact ⟨a1, ys, rfl, .inr ⟨h1, hq _ H _ S (.refl hs) (.tup hm q1) h⟩⟩
      · cases h
  · cases h

/-! ### and, or, not, if-else, chains, as values -/
def dAndV (da db : TEd) : TEd := fun σ S Q E => da σ S (fun x S1 => match x with
  | .bl c => if c = true then db σ S1 Q E else Q (.bl false) S1
  | _ => False) E
def dOrV (da db : TEd) : TEd := fun σ S Q E => da σ S (fun x S1 => match x with
  | .bl c => if c = true then Q (.bl true) S1 else db σ S1 Q E
  | _ => False) E
def dNotV (da : TEd) : TEd := fun σ S Q E => da σ S (fun x S1 => match x with
  | .bl c => Q (.bl (!c)) S1
  | _ => False) E
theorem ve_one {op : BoolOp} (h : VE X W a ta da) : VE X W (.BoolOp op [a] pos) ta da := ⟨pe_one h.run, h.snd⟩
theorem ve_and {rest : List Expr} (ha : VE X W a ta da) (hb : VE X W (.BoolOp .And (b :: rest) pos) tb db) : VE X W (.BoolOp .And (a :: b :: rest) pos) (tAndV ta tb) (dAndV da db) := by
  refine ⟨pe_and ha.run hb.run, fun {σV F H σ S Qd E Q} hs er h hq hx => ?_⟩
  refine ha.snd (Q := fun x H1 => ∃ c, x = .bl c ∧ if c = true then tb σV H1 Q else Q (.bl false) H1) hs er h (fun x H1 dx S1 g r h1 => ?_) hx
  split at h1
  · next c =>
    cases r
    refine ⟨c, rfl, ?_⟩
    cases c with
    | true => exact hb.snd g.hst (er.mono g.same) h1 (hq.next g) (hx.next g)
    | false => exact hq _ H1 _ S1 g (.bl _) h1
  · cases h1
theorem ve_or {rest : List Expr} (ha : VE X W a ta da) (hb : VE X W (.BoolOp .Or (b :: rest) pos) tb db) : VE X W (.BoolOp .Or (a :: b :: rest) pos) (tOrV ta tb) (dOrV da db) := by
  refine ⟨pe_or ha.run hb.run, fun {σV F H σ S Qd E Q} hs er h hq hx => ?_⟩
  refine ha.snd (Q := fun x H1 => ∃ c, x = .bl c ∧ if c = true then Q (.bl true) H1 else tb σV H1 Q) hs er h (fun x H1 dx S1 g r h1 => ?_) hx
  split at h1
  · next c =>
    cases r
    refine ⟨c, rfl, ?_⟩
    cases c with
    | true => exact hq _ H1 _ S1 g (.bl _) h1
    | false => exact hb.snd g.hst (er.mono g.same) h1 (hq.next g) (hx.next g)
  · cases h1
theorem ve_not (ha : VE X W a ta da) : VE X W (.UnaryOp .Not a pos) (tNotV ta) (dNotV da) := by
  refine ⟨pe_not ha.run, fun {σV F H σ S Qd E Q} hs er h hq hx => ?_⟩
  refine ha.snd (Q := fun x H1 => ∃ c, x = .bl c ∧ Q (.bl (!c)) H1) hs er h (fun x H1 dx S1 g r h1 => ?_) hx
  split at h1
  · next c => cases r; exact ⟨c, rfl, hq _ H1 _ S1 g (.bl _) h1⟩
  · cases h1
def dNeg : TEd → TEd := fun da σ S Q E => da σ S (fun x S1 => match x with
  | .int i => Q (.int (-i)) S1
  | _ => False) E
theorem ve_neg (ha : VE X W a ta da) : VE X W (.UnaryOp .USub a pos) (tUn (rU fun i => .int (-i)) ta) (dNeg da) := by
  refine ⟨pe_un un_neg ha.run, fun {σV F H σ S Qd E Q} hs er h hq hx => ?_⟩
  refine ha.snd (Q := fun x H1 => ∃ i, x = .int i ∧ Q (.int (-i)) H1) hs er h (fun x H1 dx S1 g r h1 => ?_) hx
  split at h1
  · next i => cases r; exact ⟨i, rfl, hq _ H1 _ S1 g (.int _) h1⟩
  · cases h1
def dIfE (dt : TTd) (da db : TEd) : TEd := fun σ S Q E => dt σ S (fun c S1 => if c = true then da σ S1 Q E else db σ S1 Q E) E
theorem ve_ifE {t : Expr} {tt : TT} {dt : TTd} (ht : VT X W t tt dt) (ha : VE X W a ta da) (hb : VE X W b tb db) : VE X W (.IfExp t a b pos) (tIf tt ta tb) (dIfE dt da db) := by
  refine ⟨pe_ifExp ht.run ha.run hb.run, fun {σV F H σ S Qd E Q} hs er h hq hx => ?_⟩
  refine ht.snd (Q := fun c H1 => if c = true then ta σV H1 Q else tb σV H1 Q) hs er h (fun c H1 S1 g h1 => ?_) hx
  cases c with
  | true => exact ha.snd g.hst (er.mono g.same) h1 (hq.next g) (hx.next g)
  | false => exact hb.snd g.hst (er.mono g.same) h1 (hq.next g) (hx.next g)
def dChain (rd rd' : R2d) (da db dc : TEd) : TEd := fun σ S Q E => da σ S (fun x S1 => db σ S1 (fun y S2 => rd x y S2 (fun z S3 => match z with
  | .bl k => if k = true then dc σ S3 (fun u S4 => rd' y u S4 Q) E else Q (.bl false) S3
  | _ => False)) E) E
theorem snd_chain {r r' : R2} {rd rd' : R2d} (hr : Snd2 X.K r rd) (hr' : Snd2 X.K r' rd') (ha : Snd X.K W ta da) (hb : Snd X.K W tb db) (hc : Snd X.K W tc dc) : Snd X.K W (tChain r r' ta tb tc) (dChain rd rd' da db dc) := fun {σV F H σ S Qd E Q} hs er h hq hx => by
  refine ha hs er h (fun x H1 dx S1 g1 r1 h1 => ?_) hx
  refine hb g1.hst (er.mono g1.same) h1 (fun y H2 dy S2 g2 r2 h2 => ?_) (hx.next g1)
  have g12 := g1.trans g2
  refine hr g2.hst (r1.mono g2.same) r2 h2 (fun z H3 dz S3 g3 r3 h3 => ?_)
  have g13 := g12.trans g3
  split at h3
  · next k =>
    cases r3
    refine ⟨k, rfl, ?_⟩
    cases k with
    | true => exact hc g3.hst (er.mono g13.same) h3 (fun u H4 du S4 g4 r4 h4 => hr' g4.hst ((r2.mono g3.same).mono g4.same) r4 h4 (hq.next (g13.trans g4))) (hx.next g13)
    | false => exact hq _ H3 _ S3 g13 (.bl _) h3
  · cases h3
theorem ve_chain {op op' : CmpOp} {r r' : R2} {rd rd' : R2d} (ho : OpR X (compareOp op) r) (hr : Snd2 X.K r rd) (ho' : OpR X (compareOp op') r') (hr' : Snd2 X.K r' rd') (ha : VE X W a ta da) (hb : VE X W b tb db) (hc : VE X W c tc dc)
    (hm : lastMarks [op, op'] [b, c] = false := by with_unfolding_all rfl) : VE X W (.Compare a [op, op'] [b, c] pos) (tChain r r' ta tb tc) (dChain rd rd' da db dc) := ⟨pe_chain ho ho' ha.run hb.run hc.run hm, snd_chain hr hr' ha.snd hb.snd hc.snd⟩

/-! ### tests -/
def dTest (de : TEd) : TTd := fun σ S Q E => de σ S (fun x S1 => match x with
  | .bl k => Q k S1
  | _ => False) E
theorem snd_test {te : TE} {de : TEd} (h : Snd X.K W te de) : SndT X.K W (tTest te) (dTest de) := fun {σV F H σ S Qd E Q} hs er hh hq hx =>
  h hs er hh (fun x H1 dx S1 g r h1 => by
    split at h1
    · next k => cases r; exact ⟨k, rfl, hq k H1 S1 g h1⟩
    · cases h1) hx
theorem snd_tB {te : TE} {de : TEd} (h : Snd X.K W te de) : SndT X.K W (tB te) (dTest de) := fun {σV F H σ S Qd E Q} hs er hh hq hx =>
  h hs er hh (fun x H1 dx S1 g r h1 => by
    split at h1
    · next k => cases r; exact ⟨k, rfl, hq k H1 S1 g h1⟩
    · cases h1) hx
/-- a call, a name, that gives a truth -/
theorem vt_val {e : Expr} {te : TE} {de : TEd} (h : VE X W e te de) (he : ∀ whole, isTrue e X.env whole = (do let v ← whole; standAt e.pos; holding [v] (truthy v)) := by intro _; rfl) : VT X W e (tB te) (dTest de) := ⟨pt_val h.run he, snd_tB h.snd⟩
theorem vt_cmp {op : CmpOp} {r : R2} {rd : R2d} (ho : OpR X (compareOp op) r) (hr : Snd2 X.K r rd) (ha : VE X W a ta da) (hb : VE X W b tb db) (hm : behindInMarks op b = false) : VT X W (.Compare a [op] [b] pos) (tTest (tOp r ta tb)) (dTest (dOp rd da db)) :=
  ⟨pt_cmpR ho ha.run hb.run hm, snd_test (snd_op hr ha.snd hb.snd)⟩
theorem vt_lt (ha : VE X W a ta da) (hb : VE X W b tb db) : VT X W (.Compare a [.Lt] [b] pos) (tTest (tOp (rI0 fun i j => .bl (decide (i < j))) ta tb)) (dTest (dOp dLt da db)) := vt_cmp op_lt snd_iCmp ha hb (nomark _)
theorem vt_le (ha : VE X W a ta da) (hb : VE X W b tb db) : VT X W (.Compare a [.LtE] [b] pos) (tTest (tOp (rI0 fun i j => .bl (decide (i ≤ j))) ta tb)) (dTest (dOp dLe da db)) := vt_cmp op_le snd_iCmp ha hb (nomark _)
theorem vt_gt (ha : VE X W a ta da) (hb : VE X W b tb db) : VT X W (.Compare a [.Gt] [b] pos) (tTest (tOp (rI0 fun i j => .bl (decide (j < i))) ta tb)) (dTest (dOp dGt da db)) := vt_cmp op_gt snd_iCmp ha hb (nomark _)
theorem vt_ge (ha : VE X W a ta da) (hb : VE X W b tb db) : VT X W (.Compare a [.GtE] [b] pos) (tTest (tOp (rI0 fun i j => .bl (decide (j ≤ i))) ta tb)) (dTest (dOp dGe da db)) := vt_cmp op_ge snd_iCmp ha hb (nomark _)
theorem vt_eq (hu : X.A.units + 64 < cLine) (ha : VE X W a ta da) (hb : VE X W b tb db) : VT X W (.Compare a [.Eq] [b] pos) (tTest (tOp (o2 rEq (rEqD X.K)) ta tb)) (dTest (dOp dEq da db)) := vt_cmp (op_eqAll hu) snd_eqAll ha hb (nomark _)
theorem vt_ne (hu : X.A.units + 64 < cLine) (ha : VE X W a ta da) (hb : VE X W b tb db) : VT X W (.Compare a [.NotEq] [b] pos) (tTest (tOp (o2 rNe (rNeD X.K)) ta tb)) (dTest (dOp dNe da db)) := vt_cmp (op_neAll hu) snd_neAll ha hb (nomark _)
theorem vt_is (ha : VE X W a ta da) (hb : VE X W b tb db) : VT X W (.Compare a [.Is] [b] pos) (tTest (tOp (o2 rIsN rIsB) ta tb)) (dTest (dOp (dIsG id) da db)) := vt_cmp (OpR.o2 op_isN op_is_bl) snd_is ha hb (nomark _)
theorem vt_isnot (ha : VE X W a ta da) (hb : VE X W b tb db) : VT X W (.Compare a [.IsNot] [b] pos) (tTest (tOp (o2 rNotN rNotB) ta tb)) (dTest (dOp (dIsG (!·)) da db)) := vt_cmp (OpR.o2 op_notN op_isnot_bl) snd_isNot ha hb (nomark _)
theorem vt_in (hu : X.A.units + 1 < cLine) (ha : VE X W a ta da) (hb : VE X W b tb db) (hm : behindInMarks .In b = false := by rfl) : VT X W (.Compare a [.In] [b] pos) (tTest (tOp (rInAll X.K) ta tb)) (dTest (dOp (dInG id) da db)) := vt_cmp (op_inAll hu) snd_inAll ha hb hm
theorem vt_notin (hu : X.A.units + 1 < cLine) (ha : VE X W a ta da) (hb : VE X W b tb db) (hm : behindInMarks .NotIn b = false := by rfl) : VT X W (.Compare a [.NotIn] [b] pos) (tTest (tOp (rNotInAll X.K) ta tb)) (dTest (dOp (dInG (!·)) da db)) := vt_cmp (op_notInAll hu) snd_notInAll ha hb hm
theorem vt_chain {op op' : CmpOp} {r r' : R2} {rd rd' : R2d} (ho : OpR X (compareOp op) r) (hr : Snd2 X.K r rd) (ho' : OpR X (compareOp op') r') (hr' : Snd2 X.K r' rd') (ha : VE X W a ta da) (hb : VE X W b tb db) (hc : VE X W c tc dc)
    (hm : lastMarks [op, op'] [b, c] = false := by with_unfolding_all rfl) : VT X W (.Compare a [op, op'] [b, c] pos) (tTest (tChain r r' ta tb tc)) (dTest (dChain rd rd' da db dc)) := ⟨pt_chain ho ho' ha.run hb.run hc.run hm, snd_test (snd_chain hr hr' ha.snd hb.snd hc.snd)⟩
def dAndT (t u : TTd) : TTd := fun σ S Q E => t σ S (fun c S1 => if c = true then u σ S1 Q E else Q false S1) E
def dOrT (t u : TTd) : TTd := fun σ S Q E => t σ S (fun c S1 => if c = true then Q true S1 else u σ S1 Q E) E
def dNotT (t : TTd) : TTd := fun σ S Q E => t σ S (fun c S1 => Q (!c) S1) E
variable {tA tB' : TT} {dA dB : TTd} {rest : List Expr}
theorem vw_and1 (h : VT X W a tA dA) : VW X W (.BoolOp .And [a] pos) tA dA := ⟨pw_and1 h.run, h.snd⟩
theorem vw_or1 (h : VT X W a tA dA) : VW X W (.BoolOp .Or [a] pos) tA dA := ⟨pw_or1 h.run, h.snd⟩
theorem vw_and (ha : VT X W a tA dA) (hb : VW X W (.BoolOp .And (b :: rest) pos) tB' dB) : VW X W (.BoolOp .And (a :: b :: rest) pos) (tAnd tA tB') (dAndT dA dB) := by
  refine ⟨pw_and ha.run hb.run, fun {σV F H σ S Qd E Q} hs er h hq hx => ?_⟩
  refine ha.snd (Q := fun c H1 => if c = true then tB' σV H1 Q else Q false H1) hs er h (fun c H1 S1 g h1 => ?_) hx
  cases c with
  | true => exact hb.snd g.hst (er.mono g.same) h1 (fun b H2 S2 g2 h2 => hq b H2 S2 (g.trans g2) h2) (hx.next g)
  | false => exact hq _ H1 S1 g h1
theorem vw_or (ha : VT X W a tA dA) (hb : VW X W (.BoolOp .Or (b :: rest) pos) tB' dB) : VW X W (.BoolOp .Or (a :: b :: rest) pos) (tOr tA tB') (dOrT dA dB) := by
  refine ⟨pw_or ha.run hb.run, fun {σV F H σ S Qd E Q} hs er h hq hx => ?_⟩
  refine ha.snd (Q := fun c H1 => if c = true then Q true H1 else tB' σV H1 Q) hs er h (fun c H1 S1 g h1 => ?_) hx
  cases c with
  | true => exact hq _ H1 S1 g h1
  | false => exact hb.snd g.hst (er.mono g.same) h1 (fun b H2 S2 g2 h2 => hq b H2 S2 (g.trans g2) h2) (hx.next g)
theorem vt_w (h : VW X W a tA dA) : VT X W a tA dA := ⟨h.run.pt, h.snd⟩
theorem vt_not (h : VT X W a tA dA) : VT X W (.UnaryOp .Not a pos) (tNot tA) (dNotT dA) := ⟨pt_not h.run, fun {σV F H σ S Qd E Q} hs er hh hq hx => h.snd (Q := fun c H1 => Q (!c) H1) hs er hh (fun c H1 S1 g h1 => hq _ H1 S1 g h1) hx⟩
end
end VL

/-! VL: targets, what is walked, comprehensions. -/
namespace VL
open PySem PySem.Spec PyProof.Rows L2 RZ

/-! ### targets -/
abbrev TGd := D → Sd → Sto → (Sd → Sto → Prop) → Prop
abbrev TGsd := List D → Sd → Sto → (Sd → Sto → Prop) → Prop
def SndG (K : PySem.W.Frag) (vs : List Nat) (g : TG) (gd : TGd) : Prop := ∀ {v : V} {d : D} {σV : L2.St} {F H : Hp} {σ : Sd} {S : Sto} {Qd : Sd → Sto → Prop} {Q : L2.St → Hp → Prop},
  HSt K F H S → ER K (mask F S H) σV σ → Rep K (mask F S H) v d → gd d σ S Qd →
  (∀ σV' H' σ' S', Good K F H S H' S' → ER K (mask F S' H') σV' σ' → σV'.length = σV.length → (∀ i, i ∉ vs → σV'[i]? = σV[i]?) → Qd σ' S' → Q σV' H') → g v σV H Q
def SndGs (K : PySem.W.Frag) (vs : List Nat) (g : TGs) (gd : TGsd) : Prop := ∀ {xs : List V} {ds : List D} {σV : L2.St} {F H : Hp} {σ : Sd} {S : Sto} {Qd : Sd → Sto → Prop} {Q : L2.St → Hp → Prop},
  HSt K F H S → ER K (mask F S H) σV σ → Reps K (mask F S H) xs ds → gd ds σ S Qd →
  (∀ σV' H' σ' S', Good K F H S H' S' → ER K (mask F S' H') σV' σ' → σV'.length = σV.length → (∀ i, i ∉ vs → σV'[i]? = σV[i]?) → Qd σ' S' → Q σV' H') → g xs σV H Q
structure VG (X : Cx) (vs : List Nat) (e : Expr) (g : TG) (gd : TGd) : Prop where
  run : PG X e g
  snd : SndG X.K vs g gd
structure VGs (X : Cx) (vs : List Nat) (es : List Expr) (g : TGs) (gd : TGsd) : Prop where
  run : PGs X es g
  snd : SndGs X.K vs g gd
section
variable {X : Cx} {W : WX} {pos : Pos} {vs : List Nat}
def hName (i : Nat) : TGd := fun d σ S Q => Q (σ.set i (some d)) S
theorem vg_name {i : Nat} {x : Str} (hv : i ∈ vs) (h : PG X (.Name x pos) (gName i)) : VG X vs (.Name x pos) (gName i) (hName i) := ⟨h, fun {v d σV F H σ S Qd Q} hs er r hh hq =>
  hq _ H _ S (.refl hs) (er.set r) (List.length_set ..) (fun j hj => List.getElem?_set_ne (fun (z : i = j) => hj (by rw [← z]; exact hv))) hh⟩
def hNil : TGsd := fun ds σ S Q => match ds with
  | [] => Q σ S
  | _ => False
def hCons (t : TGd) (u : TGsd) : TGsd := fun ds σ S Q => match ds with
  | d :: r => t d σ S fun σ' S' => u r σ' S' Q
  | _ => False
theorem vgs_nil : VGs X vs [] gNil hNil := ⟨pgs_nil, fun {xs ds σV F H σ S Qd Q} hs er r hh hq => by
  unfold hNil at hh
  split at hh
  · cases r; exact ⟨rfl, hq _ H _ S (.refl hs) er rfl (fun _ _ => rfl) hh⟩
  · cases hh⟩
theorem vgs_cons {e : Expr} {es : List Expr} {t : TG} {u : TGs} {td : TGd} {ud : TGsd} (h1 : VG X vs e t td) (h2 : VGs X vs es u ud) (hs : (assignEach (e :: es) X.env).map (·.2) = assign e X.env :: (assignEach es X.env).map (·.2) := by rfl) :
    VGs X vs (e :: es) (gCons t u) (hCons td ud) := ⟨pgs_cons h1.run h2.run hs, fun {xs ds σV F H σ S Qd Q} hs er r hh hq => by
  unfold hCons at hh
  split at hh
  · cases r with
    | cons r1 r2 =>
      exact ⟨_, _, rfl, h1.snd hs er r1 hh fun σV1 H1 σ1 S1 g1 er1 l1 o1 hh1 => h2.snd g1.hst er1 (r2.mono g1.same) hh1 fun σV2 H2 σ2 S2 g2 er2 l2 o2 hh2 =>
        hq σV2 H2 σ2 S2 (g1.trans g2) er2 (l2.trans l1) (fun i hi => (o2 i hi).trans (o1 i hi)) hh2⟩
  · cases hh⟩
/-- a tuple, or a list, taken apart -/
def hTup (n : Nat) (t : TGsd) : TGd := fun d σ S Q => match vw S d with
  | .tup ds => ds.length = n ∧ t ds σ S Q
  | .lst ds => ds.length = n ∧ t ds σ S Q
  | _ => False
def gSeq (K : PySem.W.Frag) (n : Nat) (t : TGs) : TG := fun v σ H Q => gTup K n t v σ H Q ∨ gLst K n t v σ H Q
theorem pg_seq {es : List Expr} {k : Nat} {t : TGs} {n : Nat} (hc : X.calm = true) (h : PGs X es t)
    (hn : (assignEach es X.env).length = n := by rfl) (hst : (assignEach es X.env).findIdx? (·.1) = none := by rfl) : PG X (.Tuple es k pos) (gSeq X.K n t) :=
  ⟨fun pins s σ H v u Q I r hw => hw.elim ((pg_tup hc h hn hst).run pins s σ H v u Q I r) ((pg_lst hc h hn hst).run pins s σ H v u Q I r)⟩
theorem vg_tup {es : List Expr} {k : Nat} {t : TGs} {td : TGsd} {n : Nat} (hc : X.calm = true) (h : VGs X vs es t td)
    (hn : (assignEach es X.env).length = n := by rfl) (hst : (assignEach es X.env).findIdx? (·.1) = none := by rfl) : VG X vs (.Tuple es k pos) (gSeq X.K n t) (hTup n td) := ⟨pg_seq hc h.run hn hst, fun {v d σV F H σ S Qd Q} hs er r hh hq => by
  unfold hTup at hh
  split at hh
  · next ds e =>
    obtain ⟨_, a1, xs, rfl, h1, _, q1⟩ := see_tup r e
    exact .inl ⟨a1, xs, rfl, h1, by rw [q1.length]; exact hh.1, h.snd hs er q1 hh.2 hq⟩
  · next ds e =>
    obtain ⟨a1, xs, rfl, h1, q1⟩ := see_lst hs r e
    exact .inr ⟨a1, xs, rfl, h1, by rw [q1.length]; exact hh.1, h.snd hs er q1 hh.2 hq⟩
  · cases hh⟩
end

/-! ### what is walked -/
abbrev TId := Sd → Sto → (List D → Sto → Prop) → XD → Prop
/-- J yields the things ds, whatever else happens, as long as M stays -/
structure JR (K : PySem.W.Frag) (J : It) (ds : List D) (M : Hp) : Prop where
  go : ∀ (i : Nat) (F H : Hp) (S : Sto), HSt K F H S → Same M (mask F S H) → i < ds.length → J.go i H
  stop : ∀ (i : Nat) (F H : Hp) (S : Sto), HSt K F H S → Same M (mask F S H) → ds.length ≤ i → J.stop i H
  yld : ∀ (i : Nat) (F H : Hp) (S : Sto) (x : V) (H' : Hp) (d : D), HSt K F H S → Same M (mask F S H) → ds[i]? = some d → J.yld i H x H' → Good K F H S H' S ∧ Rep K (mask F S H') x d
def SndI (K : PySem.W.Frag) (W : WX) (wi : TI) (id : TId) : Prop := ∀ {σV : L2.St} {F H : Hp} {σ : Sd} {S : Sto} {Rd : List D → Sto → Prop} {E : XD} {R : It → Hp → Prop},
  HSt K F H S → ER K (mask F S H) σV σ → id σ S Rd E → (∀ J H' ds S', Good K F H S H' S' → JR K J ds (mask F S' H') → Rd ds S' → R J H') → LX K F W σV H S E → wi σV H R
structure VI (X : Cx) (W : WX) (tg iter : Expr) (wi : TI) (id : TId) : Prop where
  run : PI X tg iter wi
  snd : SndI X.K W wi id
section
variable {K : PySem.W.Frag} {M : Hp} {a b : Addr} {xs ys : List V} {ds es : List D}
theorem jr_list (h : SqL K M a xs) (r : Reps K M xs ds) : JR K (Itl K a) ds M where
  go := fun i F H S hs sm hi => by
    have hl := r.length
    exact ⟨xs, xs[i]'(by omega), mask_le.seq (sm.seq h), List.getElem?_eq_getElem _⟩
  stop := fun i F H S hs sm hi => ⟨xs, mask_le.seq (sm.seq h), by rw [r.length]; exact hi⟩
  yld := fun i F H S x H' d hs sm hd y => by
    obtain ⟨e, y⟩ := y
    subst e
    obtain ⟨v, hv, rv⟩ := r.get hd
    have e := y xs (mask_le.seq (sm.seq h))
    rw [hv] at e; cases e
    exact ⟨.refl hs, rv.mono sm⟩
theorem jr_tup (h : SqT K M a xs) (r : Reps K M xs ds) : JR K (Itt K a) ds M where
  go := fun i F H S hs sm hi => by
    have hl := r.length
    exact ⟨xs, xs[i]'(by omega), same_t mask_le (same_t sm h), List.getElem?_eq_getElem _⟩
  stop := fun i F H S hs sm hi => ⟨xs, same_t mask_le (same_t sm h), by rw [r.length]; exact hi⟩
  yld := fun i F H S x H' d hs sm hd y => by
    obtain ⟨e, y⟩ := y
    subst e
    obtain ⟨v, hv, rv⟩ := r.get hd
    have e := y xs (same_t mask_le (same_t sm h))
    rw [hv] at e; cases e
    exact ⟨.refl hs, rv.mono sm⟩
def signs (x : Str) : List D := x.cps.toList.map fun c => .str ⟨#[c]⟩
theorem jr_str (x : Str) : JR K (Its x) (signs x) M where
  go := fun i F H S hs sm hi => show i < x.cps.size by simpa [signs] using hi
  stop := fun i F H S hs sm hi => show x.cps.size ≤ i by simpa [signs] using hi
  yld := fun i F H S v H' d hs sm hd y => by
    obtain ⟨e, c, hc, ev⟩ := y
    subst e ev
    have z : (signs x)[i]? = some (.str ⟨#[c]⟩) := by
      unfold signs
      rw [List.getElem?_map, Array.getElem?_toList, hc]; rfl
    rw [hd] at z; cases z
    exact ⟨.refl hs, .str _⟩
def rangeD (lo : Int) (n : Nat) : List D := (List.range n).map fun (i : Nat) => .int (lo + (i : Int))
theorem jr_range (lo : Int) (n : Nat) : JR K (Itr lo n) (rangeD lo n) M where
  go := fun i F H S hs sm hi => show i < n by simpa [rangeD] using hi
  stop := fun i F H S hs sm hi => show n ≤ i by simpa [rangeD] using hi
  yld := fun i F H S v H' d hs sm hd y => by
    obtain ⟨e, ev⟩ := y
    subst e ev
    unfold rangeD at hd
    rw [List.getElem?_map] at hd
    obtain ⟨j, h1, h2⟩ := Option.map_eq_some_iff.mp hd
    have h3 := (List.getElem?_eq_some_iff.mp h1)
    obtain ⟨h4, h5⟩ := h3
    rw [List.getElem_range] at h5
    subst h5 h2
    exact ⟨.refl hs, .int _⟩
def zipD : List D → List D → List D
  | d :: ds, e :: es => .tup [d, e] :: zipD ds es
  | _, _ => []
theorem zipD_len : ∀ ds es : List D, (zipD ds es).length = min ds.length es.length
  | [], es => by simp [zipD]
  | d :: ds, [] => by simp [zipD]
  | d :: ds, e :: es => by simp [zipD, zipD_len ds es]
theorem zipD_get : ∀ {ds es : List D} {i : Nat} {d : D}, (zipD ds es)[i]? = some d → ∃ x y, ds[i]? = some x ∧ es[i]? = some y ∧ d = .tup [x, y]
  | [], es, i, d, h => by simp [zipD] at h
  | d :: ds, [], i, _, h => by simp [zipD] at h
  | d :: ds, e :: es, 0, _, h => by simp [zipD] at h; subst h; exact ⟨d, e, rfl, rfl, rfl⟩
  | d :: ds, e :: es, i + 1, f, h => by
    obtain ⟨x, y, h1, h2, h3⟩ := zipD_get (ds := ds) (es := es) (i := i) (d := f) (by simpa [zipD] using h)
    exact ⟨x, y, by simpa using h1, by simpa using h2, h3⟩
theorem rep_pair {F H : Hp} {S : Sto} {T : Addr} {x y : V} {d e : D} (hs : HSt K F H S) (hT : H T = none) (r1 : Rep K (mask F S H) x d) (r2 : Rep K (mask F S H) y e) :
    Good K F H S (upd H T (.tup [x, y])) S ∧ Rep K (mask F S (upd H T (.tup [x, y]))) (.ref T) (.tup [d, e]) := ⟨good_new hs hT, new_tup hs hT (.cons r1 (.cons r2 .nil))⟩
theorem jr_zip (h : SqL K M a xs) (r : Reps K M xs ds) (h' : SqL K M b ys) (r' : Reps K M ys es) : JR K (Itz K a b) (zipD ds es) M where
  go := fun i F H S hs sm hi => by
    have hl := r.length
    have hl' := r'.length
    rw [zipD_len] at hi
    exact ⟨xs, ys, xs[i]'(by omega), ys[i]'(by omega), mask_le.seq (sm.seq h), mask_le.seq (sm.seq h'), List.getElem?_eq_getElem _, List.getElem?_eq_getElem _⟩
  stop := fun i F H S hs sm hi => ⟨xs, ys, mask_le.seq (sm.seq h), mask_le.seq (sm.seq h'), by rw [r.length, r'.length]; rw [zipD_len] at hi; omega⟩
  yld := fun i F H S x H' d hs sm hd y => by
    obtain ⟨T, x1, y1, e1, e2, e3, y1', y2'⟩ := y
    subst e1 e3
    obtain ⟨d1, d2, k1, k2, k3⟩ := zipD_get hd
    subst k3
    obtain ⟨v, hv, rv⟩ := r.get k1
    obtain ⟨u, hu, ru⟩ := r'.get k2
    have q1 := y1' xs (mask_le.seq (sm.seq h))
    have q2 := y2' ys (mask_le.seq (sm.seq h'))
    rw [hv] at q1; cases q1
    rw [hu] at q2; cases q2
    exact rep_pair hs e2 (rv.mono sm) (ru.mono sm)
theorem jr_zipT (h : SqT K M a xs) (r : Reps K M xs ds) (h' : SqT K M b ys) (r' : Reps K M ys es) : JR K (ItzT K a b) (zipD ds es) M where
  go := fun i F H S hs sm hi => by
    have hl := r.length
    have hl' := r'.length
    rw [zipD_len] at hi
    exact ⟨xs, ys, xs[i]'(by omega), ys[i]'(by omega), same_t mask_le (same_t sm h), same_t mask_le (same_t sm h'), List.getElem?_eq_getElem _, List.getElem?_eq_getElem _⟩
  stop := fun i F H S hs sm hi => ⟨xs, ys, same_t mask_le (same_t sm h), same_t mask_le (same_t sm h'), by rw [r.length, r'.length]; rw [zipD_len] at hi; omega⟩
  yld := fun i F H S x H' d hs sm hd y => by
    obtain ⟨T, x1, y1, e1, e2, e3, y1', y2'⟩ := y
    subst e1 e3
    obtain ⟨d1, d2, k1, k2, k3⟩ := zipD_get hd
    subst k3
    obtain ⟨v, hv, rv⟩ := r.get k1
    obtain ⟨u, hu, ru⟩ := r'.get k2
    have q1 := y1' xs (same_t mask_le (same_t sm h))
    have q2 := y2' ys (same_t mask_le (same_t sm h'))
    rw [hv] at q1; cases q1
    rw [hu] at q2; cases q2
    exact rep_pair hs e2 (rv.mono sm) (ru.mono sm)
def enumD : Nat → List D → List D
  | _, [] => []
  | n, d :: ds => .tup [.int (n : Int), d] :: enumD (n + 1) ds
theorem enumD_len : ∀ (n : Nat) (ds : List D), (enumD n ds).length = ds.length
  | _, [] => rfl
  | n, d :: ds => congrArg Nat.succ (enumD_len (n + 1) ds)
theorem enumD_get : ∀ {n : Nat} {ds : List D} {i : Nat} {d : D}, (enumD n ds)[i]? = some d → ∃ x, ds[i]? = some x ∧ d = .tup [.int ((n + i : Nat) : Int), x]
  | n, [], i, d, h => by simp [enumD] at h
  | n, d :: ds, 0, _, h => by simp [enumD] at h; subst h; exact ⟨d, rfl, rfl⟩
  | n, d :: ds, i + 1, f, h => by
    obtain ⟨x, h1, h2⟩ := enumD_get (n := n + 1) (ds := ds) (i := i) (d := f) (by simpa [enumD] using h)
    exact ⟨x, by simpa using h1, by rw [h2, show n + 1 + i = n + (i + 1) by omega]⟩
theorem jr_enum (h : SqL K M a xs) (r : Reps K M xs ds) : JR K (Ite K a) (enumD 0 ds) M where
  go := fun i F H S hs sm hi => by
    have hl := r.length
    rw [enumD_len] at hi
    exact ⟨xs, xs[i]'(by omega), mask_le.seq (sm.seq h), List.getElem?_eq_getElem _⟩
  stop := fun i F H S hs sm hi => ⟨xs, mask_le.seq (sm.seq h), by rw [r.length]; rw [enumD_len] at hi; exact hi⟩
  yld := fun i F H S x H' d hs sm hd y => by
    obtain ⟨T, x1, e1, e2, e3, y1'⟩ := y
    subst e1 e3
    obtain ⟨d1, k1, k2⟩ := enumD_get hd
    rw [Nat.zero_add] at k2
    subst k2
    obtain ⟨v, hv, rv⟩ := r.get k1
    have q1 := y1' xs (mask_le.seq (sm.seq h))
    rw [hv] at q1; cases q1
    exact rep_pair hs e2 (.int _) (rv.mono sm)
end
section
variable {X : Cx} {W : WX} {tg e e2 : Expr} {te : TE} {de : TEd} {pos : Pos}
def iAny (K : PySem.W.Frag) (te : TE) : TI := fun σ H R => te σ H fun v H1 => (∃ a, v = .ref a ∧ (∃ xs, SqL K H1 a xs) ∧ R (Itl K a) H1) ∨ (∃ a, v = .ref a ∧ (∃ xs, SqT K H1 a xs) ∧ R (Itt K a) H1) ∨ ∃ x, v = .str x ∧ R (Its x) H1
theorem pi_any (he : PE X e te) : PI X tg e (iAny X.K te) := by
  refine ⟨fun pins s σ H R I h => thn (he.run pins s σ H _ I h) fun v s1 ⟨y, H1, I1, r1, q⟩ => ?_⟩
  rcases q with ⟨a, ey, ⟨xs, hq⟩, q⟩ | ⟨a, ey, ⟨xs, hq⟩, q⟩ | ⟨x, ey, q⟩
  · subst ey; cases r1
    obtain ⟨its, rv, p, hz⟩ := I1.list hq
    exact wpAny_pyIter_list p.isList (pi_one (tk := s1.toks) I1 _ (turn_list a _) ⟨_, Heap.get?_push_size _ rfl, rfl, rfl⟩ q)
  · subst ey; cases r1
    obtain ⟨its, rv, p, hz⟩ := I1.tuple hq
    exact wpAny_pyIter_tuple (show s1.heap.IsTuple a its.toArray from p) (pi_one (tk := s1.toks) I1 _ (turn_tuple a _) ⟨_, Heap.get?_push_size _ rfl, rfl, rfl⟩ q)
  · subst ey
    obtain ⟨t, rfl⟩ := r1
    cases ha : x.cps.all (· < 128)
    · exact wpAny_pyIter_wide ha (pi_one (tk := s1.toks) I1 _ (turn_str _ x t "str_iterator" (.inr rfl)) ⟨_, Heap.get?_push_size _ rfl, rfl, rfl⟩ q)
    · exact wpAny_pyIter_ascii ha (pi_one (tk := s1.toks) I1 _ (turn_str _ x t "str_ascii_iterator" (.inl rfl)) ⟨_, Heap.get?_push_size _ rfl, rfl, rfl⟩ q)
def nAny (de : TEd) : TId := fun σ S R E => de σ S (fun d S1 => match d with
  | .lst ds => R ds S1
  | .tup ds => R ds S1
  | .str x => R (signs x) S1
  | _ => False) E
theorem vi_any (he : VE X W e te de) : VI X W tg e (iAny X.K te) (nAny de) := ⟨pi_any he.run, fun {σV F H σ S Rd E R} hs er h hr hx =>
  he.snd hs er h (fun v H1 d S1 g r h1 => by
    split at h1
    · cases r with
      | lst k q => exact .inl ⟨_, rfl, ⟨_, sq_up k⟩, hr _ _ _ S1 g (jr_list k q) h1⟩
    · cases r with
      | tup k q => exact .inr (.inl ⟨_, rfl, ⟨_, st_up k⟩, hr _ _ _ S1 g (jr_tup k q) h1⟩)
    · cases r; exact .inr (.inr ⟨_, rfl, hr _ _ _ S1 g (jr_str _) h1⟩)
    · cases h1) hx⟩
def nRng1 (da : TAd) : TId := fun σ S R E => da σ S (fun ds S1 => match ds with
  | [.int j] => (-(2 ^ 62) ≤ j ∧ j < 2 ^ 62) ∧ R (rangeD 0 j.toNat) S1
  | _ => False) E
def nRng2 (da : TAd) : TId := fun σ S R E => da σ S (fun ds S1 => match ds with
  | [.int i, .int j] => (-(2 ^ 62) ≤ i ∧ i < 2 ^ 62 ∧ -(2 ^ 62) ≤ j ∧ j < 2 ^ 62) ∧ R (rangeD i (j - i).toNat) S1
  | _ => False) E
theorem vi_range1 {a : Expr} {ta : TA} {da : TAd} {p : Pos} (hm : X.mg "range" = none) (ha : VA X W [a] ta da) (hg : Gl X "range" := by rfl) (hs : starEach [a] X.env = [(false, eval a X.env)] := by rfl) :
    VI X W tg (.Call (.Name "range" p) [a] [] pos) (iRng1 ta) (nRng1 da) := ⟨pi_range1 hg hm ha.run hs, fun {σV F H σ S Rd E R} hs er h hr hx =>
  ha.snd hs er h (fun vs H1 ds S1 g r h1 => by
    split at h1
    · cases r with
      | cons r1 r2 => cases r1; cases r2; exact ⟨_, rfl, h1.1.1, h1.1.2, hr _ _ _ S1 g (jr_range _ _) h1.2⟩
    · cases h1) hx⟩
theorem vi_range2 {a b : Expr} {ta : TA} {da : TAd} {p : Pos} (hm : X.mg "range" = none) (ha : VA X W [a, b] ta da) (hg : Gl X "range" := by rfl) (hs : starEach [a, b] X.env = [(false, eval a X.env), (false, eval b X.env)] := by rfl) (hs2 : starEach [b] X.env = [(false, eval b X.env)] := by rfl) :
    VI X W tg (.Call (.Name "range" p) [a, b] [] pos) (iRng2 ta) (nRng2 da) := ⟨pi_range2 hg hm ha.run hs hs2, fun {σV F H σ S Rd E R} hs er h hr hx =>
  ha.snd hs er h (fun vs H1 ds S1 g r h1 => by
    split at h1
    · cases r with
      | cons r1 r2 => cases r2 with
        | cons r2 r3 => cases r1; cases r2; cases r3; exact ⟨_, _, rfl, h1.1, hr _ _ _ S1 g (jr_range _ _) h1.2⟩
    · cases h1) hx⟩
def nZip (da : TAd) : TId := fun σ S R E => da σ S (fun ds S1 => match ds with
  | [.lst xs, .lst ys] => R (zipD xs ys) S1
  | [.tup xs, .tup ys] => R (zipD xs ys) S1
  | _ => False) E
theorem vi_zip {elts : List Expr} {kk : Nat} {tpos p : Pos} {ta : TA} {da : TAd} (hm : X.mg "zip" = none) (ha : VA X W [e, e2] ta da) (hg : Gl X "zip" := by rfl)
    (hs : starEach [e, e2] X.env = (false, eval e X.env) :: starEach [e2] X.env := by rfl) (hpl : (backTo pos (starEach [e2] X.env)).any (·.1) = false := by rfl) :
    VI X W (.Tuple elts kk tpos) (.Call (.Name "zip" p) [e, e2] [] pos) (iZipA X.K ta) (nZip da) := ⟨pi_zipA hg hm ha.run hs hpl, fun {σV F H σ S Rd E R} hs er h hr hx =>
  ha.snd hs er h (fun vs H1 ds S1 g r h1 => by
    split at h1
    · cases r with
      | cons r1 r2 => cases r2 with
        | cons r2 r3 =>
          cases r3
          cases r1 with
          | lst k q => cases r2 with
            | lst k' q' => exact ⟨_, _, _, _, rfl, .inl ⟨sq_up k, sq_up k', hr _ _ _ S1 g (jr_zip k q k' q') h1⟩⟩
    · cases r with
      | cons r1 r2 => cases r2 with
        | cons r2 r3 =>
          cases r3
          cases r1 with
          | tup k q => cases r2 with
            | tup k' q' => exact ⟨_, _, _, _, rfl, .inr ⟨st_up k, st_up k', hr _ _ _ S1 g (jr_zipT k q k' q') h1⟩⟩
    · cases h1) hx⟩
def nEnum (da : TAd) : TId := fun σ S R E => da σ S (fun ds S1 => match ds with
  | [.lst xs] => R (enumD 0 xs) S1
  | _ => False) E
theorem vi_enum {elts : List Expr} {kk : Nat} {tpos p : Pos} {ta : TA} {da : TAd} (hm : X.mg "enumerate" = none) (ha : VA X W [e] ta da) (hg : Gl X "enumerate" := by rfl) (hs : starEach [e] X.env = [(false, eval e X.env)] := by rfl) :
    VI X W (.Tuple elts kk tpos) (.Call (.Name "enumerate" p) [e] [] pos) (iEnum X.K ta) (nEnum da) := ⟨pi_enum hg hm ha.run hs, fun {σV F H σ S Rd E R} hs er h hr hx =>
  ha.snd hs er h (fun vs H1 ds S1 g r h1 => by
    split at h1
    · cases r with
      | cons r1 r2 =>
        cases r2
        cases r1 with
        | lst k q => exact ⟨_, _, rfl, sq_up k, hr _ _ _ S1 g (jr_enum k q) h1⟩
    · cases h1) hx⟩
end
end VL

/-! VL: comprehensions. -/
namespace VL
open PySem PySem.Spec PyProof.Rows L2

def XF : XD := fun _ _ _ => False
def WF : WX := fun _ _ _ _ => False
theorem lxF {K : PySem.W.Frag} {F H : Hp} {σV : L2.St} {S : Sto} : LX K F WF σV H S XF := fun _ _ _ _ _ _ _ h => h
structure VTs (X : Cx) (W : WX) (ifs : List Expr) (t : TT) (td : TTd) : Prop where
  run : PTs X ifs t
  snd : SndT X.K W t td
section
variable {X : Cx} {W : WX} {pos : Pos}
def dYes : TTd := fun _ S Q _ => Q true S
theorem vts_nil : VTs X W [] tYes dYes := ⟨pts_nil, fun {σV F H σ S Qd E Q} hs er h hq hx => hq true H S (.refl hs) h⟩
theorem vts_one {c : Expr} {t : TT} {td : TTd} (h : VT X W c t td) : VTs X W [c] t td := ⟨pts_one h.run, h.snd⟩
end

/-! ### the block's names are wiped -/
def wipeD (σ : Sd) : List Nat → Sd
  | [] => σ
  | i :: r => (wipeD σ r).set i none
theorem wipe_get (σ : L2.St) : ∀ (vs : List Nat) (i : Nat), (wipe σ vs)[i]? = if i ∈ vs then (σ[i]?).map (fun _ => none) else σ[i]?
  | [], i => by simp [wipe]
  | j :: r, i => by
    show ((wipe σ r).set j none)[i]? = _
    have ih := wipe_get σ r i
    by_cases e : j = i
    · subst e
      rw [if_pos List.mem_cons_self]
      by_cases hl : j < σ.length
      · rw [List.getElem?_set_self (by rw [wipe_length]; exact hl), List.getElem?_eq_getElem hl]; rfl
      · rw [List.getElem?_eq_none_iff.mpr (by rw [List.length_set, wipe_length]; omega), List.getElem?_eq_none_iff.mpr (by omega)]; rfl
    · rw [List.getElem?_set_ne e, ih]
      by_cases h : i ∈ r
      · rw [if_pos h, if_pos (List.mem_cons_of_mem _ h)]
      · rw [if_neg h, if_neg (by rw [List.mem_cons]; exact fun z => z.elim (fun q => e q.symm) h)]
theorem wipe_eq {σ τ : L2.St} {vs : List Nat} (hl : τ.length = σ.length) (h : ∀ i, i ∉ vs → τ[i]? = (wipe σ vs)[i]?) : wipe τ vs = wipe σ vs := by
  refine List.ext_getElem? fun i => ?_
  by_cases e : i ∈ vs
  · rw [wipe_get, wipe_get, if_pos e, if_pos e]
    by_cases hi : i < σ.length
    · rw [List.getElem?_eq_getElem hi, List.getElem?_eq_getElem (by omega)]; rfl
    · rw [List.getElem?_eq_none_iff.mpr (by omega), List.getElem?_eq_none_iff.mpr (by omega)]
  · rw [wipe_get τ, if_neg e, h i e]
theorem er_wipe {K : PySem.W.Frag} {M : Hp} {σV : L2.St} {σ : Sd} (h : ER K M σV σ) : ∀ vs : List Nat, ER K M (wipe σV vs) (wipeD σ vs)
  | [] => h
  | i :: r => (er_wipe h r).setNone

/-! ### the side -/
section
variable {K : PySem.W.Frag} {F H : Hp} {S : Sto} {a : Addr} {u u' : HO}
theorem mask_side_chg : mask (upd F a u') S (upd H a u') = mask (upd F a u) S H := by
  funext b
  unfold mask
  by_cases e : b = a
  · subst e; rw [if_pos (.inr (by rw [upd_same]; rfl)), if_pos (.inr (by rw [upd_same]; rfl))]
  · rw [upd_ne e, upd_ne e, upd_ne e]
theorem hst_side_chg (h : HSt K (upd F a u) H S) : HSt K (upd F a u') (upd H a u') S := ⟨fun b o q => by
  have hb : b ≠ a := fun z => by
    subst z
    obtain ⟨_, e⟩ := h.side b u upd_same
    rw [q] at e; cases e
  rw [mask_side_chg (u := u), upd_ne hb]
  exact h.at_ b o q, fun b v q => by
  by_cases hb : b = a
  · subst hb
    rw [upd_same] at q ⊢
    exact ⟨q, (h.side b u upd_same).2⟩
  · rw [upd_ne hb] at q ⊢
    exact h.side b v (by rw [upd_ne hb]; exact q)⟩
theorem same_unside (h : F a = none) : Same (mask (upd F a u) S H) (mask F S H) := fun b v q => by
  obtain ⟨q1, q0, q2⟩ := mask_free q
  have hb : b ≠ a := fun z => by subst z; rw [upd_same] at q0; cases q0
  rw [upd_ne hb] at q0
  rw [mask_none q1 q0]; exact q2
theorem hst_unside (h : HSt K (upd F a u) H S) (hF : F a = none) : HSt K F H S := ⟨fun b o q => (h.at_ b o q).mono (same_unside hF), fun b v q => by
  have hb : b ≠ a := fun z => by subst z; rw [hF] at q; cases q
  exact h.side b v (by rw [upd_ne hb]; exact q)⟩
end

/-! ### one clause -/
def dLcL (gd : TGd) (dt : TTd) (de : TEd) (σ0 : Sd) (Q : List D → Sto → Prop) : List D → List D → Sto → Prop
  | [], acc, S => Q acc S
  | d :: ds, acc, S => gd d σ0 S fun σ1 S1 => dt σ1 S1 (fun b S2 => if b = true then de σ1 S2 (fun y S3 => dLcL gd dt de σ0 Q ds (acc ++ [y]) S3) XF else dLcL gd dt de σ0 Q ds acc S2) XF
def dLc (id : TId) (gd : TGd) (dt : TTd) (de : TEd) (vs : List Nat) : TEd := fun σ S Q E => id σ S (fun ds S1 => ds.length ≤ sizeLine ∧ dLcL gd dt de (wipeD σ vs) (fun acc S2 => Q (.lst acc) S2) ds [] S1) E
/-- .. a list that may change -/
def dLcM (id : TId) (gd : TGd) (dt : TTd) (de : TEd) (vs : List Nat) : TEd := fun σ S Q E => id σ S (fun ds S1 => ds.length ≤ sizeLine ∧ dLcL gd dt de (wipeD σ vs) (fun acc S2 => ∀ p, S2 p = none → Q (.ref p) (put S2 p (.lst acc))) ds [] S1) E
section
variable {X : Cx} {W : WX} {pos : Pos} {K : PySem.W.Frag} {wi : TI} {id : TId} {g : TG} {gd : TGd} {tt : TT} {dt : TTd} {te : TE} {de : TEd} {vs : List Nat}
/-- the loop's core: Qf is what the done list means -/
theorem lc_run {σV : L2.St} {F H1 : Hp} {σ : Sd} {S1 : Sto} {J : It} {ds : List D} {Q : VK} {Qf : List D → Sto → Prop} (hg : SndG K vs g gd) (ht : SndT K WF tt dt) (he : Snd K WF te de)
    (hs : HSt K F H1 S1) (er : ER K (mask F S1 H1) σV σ) (jr : JR K J ds (mask F S1 H1)) (hz : ds.length ≤ sizeLine) (h : dLcL gd dt de (wipeD σ vs) Qf ds [] S1)
    (fin : ∀ (Dp : Addr) (H : Hp) (S : Sto) (accV : List V) (acc : List D), H1 Dp = none → F Dp = none → S1 Dp = none → HSt K (upd F Dp (.lst accV)) H S → Same (mask F S1 H1) (mask (upd F Dp (.lst accV)) S H) → Reps K (mask (upd F Dp (.lst accV)) S H) accV acc → Qf acc S → Q (.ref Dp) H) :
    ∀ Dp, H1 Dp = none → ∃ Wv : Nat → Nat → Hp → Prop, (∃ m, Wv 0 m (upd H1 Dp (.lst []))) ∧ ∀ i m H, Wv i m H →
      (J.stop i H ∧ Q (.ref Dp) H) ∨ (J.go i H ∧ ∃ Nx : Hp → Prop, (∀ H', Nx H' → ∃ m', m' < m ∧ Wv (i + 1) m' H') ∧ ∀ x H', J.yld i H x H' → g x (wipe σV vs) H' fun σ2 H2 => wipe σ2 vs = wipe σV vs ∧ tt σ2 H2 fun b H3 =>
        if b = true then te σ2 H3 fun y H4 => ∃ acc, H4 Dp = some (.lst acc) ∧ acc.length < sizeLine ∧ Nx (upd H4 Dp (.lst (acc ++ [y]))) else Nx H3) := by
  intro Dp hD
  have fD := hs.freeF hD
  have sD := hs.free hD
  -- what holds ahead of the i-th turn
  let Iv : Nat → Hp → Prop := fun i H => ∃ (S : Sto) (accV : List V) (acc : List D), HSt K (upd F Dp (.lst accV)) H S ∧ Same (mask F S1 H1) (mask (upd F Dp (.lst accV)) S H) ∧ Reps K (mask (upd F Dp (.lst accV)) S H) accV acc ∧ acc.length ≤ i ∧ dLcL gd dt de (wipeD σ vs) Qf (ds.drop i) acc S
  refine ⟨fun i m H => m = ds.length - i ∧ i ≤ ds.length ∧ Iv i H, ⟨ds.length, by simp, Nat.zero_le _, S1, [], [], hst_beside hs hD, mask_beside hs hD, .nil, Nat.le_refl _, by simpa using h⟩, ?_⟩
  rintro i m H ⟨rfl, hi, S, accV, acc, hh, sm, ra, la, hl⟩
  by_cases hlt : i < ds.length
  · have ed : ds.drop i = ds[i] :: ds.drop (i + 1) := List.drop_eq_getElem_cons hlt
    rw [ed] at hl
    refine .inr ⟨jr.go i _ H S hh sm hlt, Iv (i + 1), fun H' p' => ⟨ds.length - (i + 1), by omega, rfl, hlt, p'⟩, fun x H' y => ?_⟩
    obtain ⟨g1, rx⟩ := jr.yld i _ H S x H' ds[i] hh sm (List.getElem?_eq_getElem hlt) y
    refine hg g1.hst (((er_wipe er vs).mono sm).mono g1.same) rx hl fun σ2 H2 σd2 S2 g2 er2 l2 o2 h2 => ⟨wipe_eq (by rw [l2, wipe_length]) o2, ?_⟩
    have g12 := g1.trans g2
    refine ht g2.hst er2 h2 (fun b H3 S3 g3 h3 => ?_) lxF
    have g13 := g12.trans g3
    cases b with
    | false => exact ⟨S3, accV, acc, g3.hst, sm.trans g13.same, ra.mono g13.same, Nat.le_succ_of_le la, h3⟩
    | true =>
      refine he g3.hst (er2.mono g3.same) h3 (fun yv H4 yd S4 g4 r4 h4 => ?_) lxF
      have g14 := g13.trans g4
      have e4 := (g4.hst.side Dp _ upd_same).1
      have la' : accV.length < sizeLine := by rw [ra.length]; omega
      refine ⟨accV, e4, la', S4, accV ++ [yv], acc ++ [yd], hst_side_chg g4.hst, ?_, ?_, by rw [List.length_append, List.length_singleton]; omega, h4⟩
      · rw [mask_side_chg (u := .lst accV)]; exact sm.trans g14.same
      · rw [mask_side_chg (u := .lst accV)]; exact (ra.mono g14.same).append (.cons r4 .nil)
  · have e : i = ds.length := by omega
    subst e
    rw [List.drop_of_length_le (Nat.le_refl _)] at hl
    exact .inl ⟨jr.stop _ _ H S hh sm (Nat.le_refl _), fin Dp H S accV acc hD fD sD hh sm ra hl⟩
theorem snd_lc (hi : SndI K W wi id) (hg : SndG K vs g gd) (ht : SndT K WF tt dt) (he : Snd K WF te de) : Snd K W (tLc wi g tt te vs) (dLc id gd dt de vs) := fun {σV F H σ S Qd E Q} hs er h hq hx => by
  refine hi hs er h (fun J H1 ds S1 g1 jr ⟨hz, h1⟩ => ?_) hx
  refine lc_run hg ht he g1.hst (er.mono g1.same) jr hz h1 fun Dp H2 S2 accV acc hD fD sD hh sm ra h2 => ?_
  have e2 := (hh.side Dp _ upd_same).1
  have s2 := (hh.side Dp _ upd_same).2
  have g2 : Good K F H S H2 S2 := ⟨hst_unside hh fD, g1.same.trans (sm.trans (same_unside fD))⟩
  exact hq _ H2 _ S2 g2 (.lst (SqL.of (by rw [mask_none s2 fD]; exact e2)) (ra.mono (same_unside fD))) h2
theorem snd_lcM (hi : SndI K W wi id) (hg : SndG K vs g gd) (ht : SndT K WF tt dt) (he : Snd K WF te de) : Snd K W (tLc wi g tt te vs) (dLcM id gd dt de vs) := fun {σV F H σ S Qd E Q} hs er h hq hx => by
  refine hi hs er h (fun J H1 ds S1 g1 jr ⟨hz, h1⟩ => ?_) hx
  refine lc_run hg ht he g1.hst (er.mono g1.same) jr hz h1 fun Dp H2 S2 accV acc hD fD sD hh sm ra h2 => ?_
  have e2 := (hh.side Dp _ upd_same).1
  have s2 := (hh.side Dp _ upd_same).2
  have em : mask F (put S2 Dp (.lst acc)) H2 = mask (upd F Dp (.lst accV)) S2 H2 := by
    funext b
    unfold mask
    by_cases e : b = Dp
    · subst e; rw [if_pos (.inl (by rw [put_same]; rfl)), if_pos (.inr (by rw [upd_same]; rfl))]
    · rw [put_ne e, upd_ne e]
  have hh2 : HSt K F H2 (put S2 Dp (.lst acc)) := ⟨fun b o q => by
    rw [em]
    by_cases hb : b = Dp
    · subst hb
      rw [put_same] at q; cases q
      rw [e2]; exact ook_lst ra
    · rw [put_ne hb] at q
      exact hh.at_ b o q, fun b v q => by
    have hb : b ≠ Dp := fun z => by subst z; rw [fD] at q; cases q
    rw [put_ne hb]
    exact hh.side b v (by rw [upd_ne hb]; exact q)⟩
  exact hq _ H2 _ _ ⟨hh2, g1.same.trans (by rw [em]; exact sm)⟩ (.ref Dp) (h2 Dp s2)
abbrev noH : Hp := fun _ => none
theorem ve_lc {tg iter elt : Expr} {ifs : List Expr} {scope : Scope} {own : List (Str × Nat)} (hc : X.calm = true) (hN : X.N.Nodup) (hi : VI X W tg iter wi id) (ok : BlkOk X.N X.env.scope scope own)
    (hg : ∀ (s : Shared) (H : Hp) (C : Addr) (cl : List (Str × Addr)) (fp : List Addr), VG (X.blk s H scope (compEnvC scope cl C X.env) fp) (own.map (·.2)) tg g gd)
    (ht : ∀ (s : Shared) (H : Hp) (C : Addr) (cl : List (Str × Addr)) (fp : List Addr), VTs (X.blk s H scope (compEnvC scope cl C X.env) fp) WF ifs tt dt)
    (he : ∀ (s : Shared) (H : Hp) (C : Addr) (cl : List (Str × Addr)) (fp : List Addr), VE (X.blk s H scope (compEnvC scope cl C X.env) fp) WF elt te de) (hs : ∀ x, foldedSetIterable iter X.env x = pure x := by intro _; rfl) :
    VE X W (.ListComp elt [⟨tg, iter, ifs, 0⟩] scope pos) (tLc wi g tt te (own.map (·.2))) (dLc id gd dt de (own.map (·.2))) :=
  ⟨pe_lc hc hN hi.run ok (fun s H C cl fp => (hg s H C cl fp).run) (fun s H C cl fp => (ht s H C cl fp).run) (fun s H C cl fp => (he s H C cl fp).run) hs,
    snd_lc hi.snd (hg {} noH 0 [] []).snd (ht {} noH 0 [] []).snd (he {} noH 0 [] []).snd⟩
theorem ve_lcM {tg iter elt : Expr} {ifs : List Expr} {scope : Scope} {own : List (Str × Nat)} (hc : X.calm = true) (hN : X.N.Nodup) (hi : VI X W tg iter wi id) (ok : BlkOk X.N X.env.scope scope own)
    (hg : ∀ (s : Shared) (H : Hp) (C : Addr) (cl : List (Str × Addr)) (fp : List Addr), VG (X.blk s H scope (compEnvC scope cl C X.env) fp) (own.map (·.2)) tg g gd)
    (ht : ∀ (s : Shared) (H : Hp) (C : Addr) (cl : List (Str × Addr)) (fp : List Addr), VTs (X.blk s H scope (compEnvC scope cl C X.env) fp) WF ifs tt dt)
    (he : ∀ (s : Shared) (H : Hp) (C : Addr) (cl : List (Str × Addr)) (fp : List Addr), VE (X.blk s H scope (compEnvC scope cl C X.env) fp) WF elt te de) (hs : ∀ x, foldedSetIterable iter X.env x = pure x := by intro _; rfl) :
    VE X W (.ListComp elt [⟨tg, iter, ifs, 0⟩] scope pos) (tLc wi g tt te (own.map (·.2))) (dLcM id gd dt de (own.map (·.2))) :=
  ⟨pe_lc hc hN hi.run ok (fun s H C cl fp => (hg s H C cl fp).run) (fun s H C cl fp => (ht s H C cl fp).run) (fun s H C cl fp => (he s H C cl fp).run) hs,
    snd_lcM hi.snd (hg {} noH 0 [] []).snd (ht {} noH 0 [] []).snd (he {} noH 0 [] []).snd⟩

/-! ### two clauses -/
def dLcC (gd : TGd) (dt : TTd) (de : TEd) (σ0 : Sd) (Q : List D → Sto → Prop) : List D → List D → Sto → Prop
  | [], acc, S => Q acc S
  | d :: ds, acc, S => gd d σ0 S fun σ1 S1 => dt σ1 S1 (fun b S2 => if b = true then de σ1 S2 (fun y S3 => acc.length < sizeLine ∧ dLcC gd dt de σ0 Q ds (acc ++ [y]) S3) XF else dLcC gd dt de σ0 Q ds acc S2) XF
def dLc2L (gd : TGd) (dt : TTd) (id1 : TId) (gd1 : TGd) (dt1 : TTd) (de : TEd) (vs1 : List Nat) (σ0 : Sd) (Q : List D → Sto → Prop) : List D → List D → Sto → Prop
  | [], acc, S => Q acc S
  | d :: ds, acc, S => gd d σ0 S fun σ1 S1 => dt σ1 S1 (fun b S2 => if b = true then id1 σ1 S2 (fun es S3 => dLcC gd1 dt1 de (wipeD σ1 vs1) (fun acc' S4 => dLc2L gd dt id1 gd1 dt1 de vs1 σ0 Q ds acc' S4) es acc S3) XF
      else dLc2L gd dt id1 gd1 dt1 de vs1 σ0 Q ds acc S2) XF
def dLc2 (id : TId) (gd : TGd) (dt : TTd) (id1 : TId) (gd1 : TGd) (dt1 : TTd) (de : TEd) (vs vs1 : List Nat) : TEd := fun σ S Q E => id σ S (fun ds S1 => dLc2L gd dt id1 gd1 dt1 de vs1 (wipeD σ vs) (fun acc S2 => Q (.lst acc) S2) ds [] S1) E
variable {wi1 : TI} {id1 : TId} {g1 : TG} {gd1 : TGd} {tt1 : TT} {dt1 : TTd} {vs1 : List Nat}
theorem snd_lc2 (hi : SndI K W wi id) (hg : SndG K vs g gd) (ht : SndT K WF tt dt) (hi1 : SndI K WF wi1 id1) (hg1 : SndG K vs1 g1 gd1) (ht1 : SndT K WF tt1 dt1) (he : Snd K WF te de) :
    Snd K W (tLc2 wi g tt wi1 g1 tt1 te vs vs1) (dLc2 id gd dt id1 gd1 dt1 de vs vs1) := fun {σV F H0 σ S0 Qd E Q} hs0 er0 h0 hq hx => by
  refine hi hs0 er0 h0 (fun J H1 ds S1 g1' jr h => ?_) hx
  intro Dp hD
  have hs := g1'.hst
  have er := er0.mono g1'.same
  have fD := hs.freeF hD
  have sD := hs.free hD
  let Iv : Nat → Hp → Prop := fun i H => ∃ (S : Sto) (accV : List V) (acc : List D), HSt K (upd F Dp (.lst accV)) H S ∧ Same (mask F S1 H1) (mask (upd F Dp (.lst accV)) S H) ∧ Reps K (mask (upd F Dp (.lst accV)) S H) accV acc ∧
    dLc2L gd dt id1 gd1 dt1 de vs1 (wipeD σ vs) (fun acc S2 => Qd (.lst acc) S2) (ds.drop i) acc S
  refine ⟨fun i m H => m = ds.length - i ∧ i ≤ ds.length ∧ Iv i H, ⟨ds.length, by simp, Nat.zero_le _, S1, [], [], hst_beside hs hD, mask_beside hs hD, .nil, by simpa using h⟩, ?_⟩
  rintro i m H ⟨rfl, hi', S, accV, acc, hh, sm, ra, hl⟩
  by_cases hlt : i < ds.length
  · have ed : ds.drop i = ds[i] :: ds.drop (i + 1) := List.drop_eq_getElem_cons hlt
    rw [ed] at hl
    refine .inr ⟨jr.go i _ H S hh sm hlt, Iv (i + 1), fun H' p' => ⟨ds.length - (i + 1), by omega, rfl, hlt, p'⟩, fun x H' y => ?_⟩
    obtain ⟨g1, rx⟩ := jr.yld i _ H S x H' ds[i] hh sm (List.getElem?_eq_getElem hlt) y
    refine hg g1.hst (((er_wipe er vs).mono sm).mono g1.same) rx hl fun σ2 H2 σd2 S2 g2 er2 l2 o2 h2 => ⟨wipe_eq (by rw [l2, wipe_length]) o2, ?_⟩
    have g12 := g1.trans g2
    refine ht g2.hst er2 h2 (fun b H3 S3 g3 h3 => ?_) lxF
    have g13 := g12.trans g3
    cases b with
    | false => exact ⟨S3, accV, acc, g3.hst, sm.trans g13.same, ra.mono g13.same, h3⟩
    | true =>
      have er3 := er2.mono g3.same
      refine hi1 g3.hst er3 h3 (fun J1 H4 es S4 g4 jr1 h4 => ?_) lxF
      have g14 := g13.trans g4
      have er4 := er3.mono g4.same
      -- the second source's own loop
      let Iw : Nat → Hp → Prop := fun j H5 => ∃ (S5 : Sto) (acc5V : List V) (acc5 : List D), HSt K (upd F Dp (.lst acc5V)) H5 S5 ∧ Same (mask (upd F Dp (.lst accV)) S4 H4) (mask (upd F Dp (.lst acc5V)) S5 H5) ∧ Reps K (mask (upd F Dp (.lst acc5V)) S5 H5) acc5V acc5 ∧
        dLcC gd1 dt1 de (wipeD σd2 vs1) (fun acc' S6 => dLc2L gd dt id1 gd1 dt1 de vs1 (wipeD σ vs) (fun acc S2 => Qd (.lst acc) S2) (ds.drop (i + 1)) acc' S6) (es.drop j) acc5 S5
      refine ⟨fun j m H5 => m = es.length - j ∧ j ≤ es.length ∧ Iw j H5, ⟨es.length, by simp, Nat.zero_le _, S4, accV, acc, g4.hst, Same.refl _, ra.mono g14.same, by simpa using h4⟩, ?_⟩
      rintro j m H5 ⟨rfl, hj, S5, acc5V, acc5, hh5, sm5, ra5, hl5⟩
      by_cases hjt : j < es.length
      · have ee : es.drop j = es[j] :: es.drop (j + 1) := List.drop_eq_getElem_cons hjt
        rw [ee] at hl5
        have hh5' : HSt K (upd F Dp (.lst acc5V)) H5 S5 := hh5
        refine .inr ⟨jr1.go j _ H5 S5 hh5 sm5 hjt, Iw (j + 1), fun H' p' => ⟨es.length - (j + 1), by omega, rfl, hjt, p'⟩, fun x5 H6 y5 => ?_⟩
        obtain ⟨k1, rx5⟩ := jr1.yld j _ H5 S5 x5 H6 es[j] hh5 sm5 (List.getElem?_eq_getElem hjt) y5
        refine hg1 k1.hst (((er_wipe er4 vs1).mono sm5).mono k1.same) rx5 hl5 fun σ7 H7 σd7 S7 k2 er7 l7 o7 h7 => ⟨wipe_eq (by rw [l7, wipe_length]) o7, ?_⟩
        have k12 := k1.trans k2
        refine ht1 k2.hst er7 h7 (fun b H8 S8 k3 h8 => ?_) lxF
        have k13 := k12.trans k3
        cases b with
        | false => exact ⟨S8, acc5V, acc5, k3.hst, sm5.trans k13.same, ra5.mono k13.same, h8⟩
        | true =>
          refine he k3.hst (er7.mono k3.same) h8 (fun yv H9 yd S9 k4 r9 h9 => ?_) lxF
          have k14 := k13.trans k4
          have e9 := (k4.hst.side Dp _ upd_same).1
          refine ⟨acc5V, e9, by rw [ra5.length]; exact h9.1, S9, acc5V ++ [yv], acc5 ++ [yd], hst_side_chg k4.hst, ?_, ?_, h9.2⟩
          · rw [mask_side_chg (u := .lst acc5V)]; exact sm5.trans k14.same
          · rw [mask_side_chg (u := .lst acc5V)]; exact (ra5.mono k14.same).append (.cons r9 .nil)
      · have e : j = es.length := by omega
        subst e
        rw [List.drop_of_length_le (Nat.le_refl _)] at hl5
        exact .inl ⟨jr1.stop _ _ H5 S5 hh5 sm5 (Nat.le_refl _), S5, acc5V, acc5, hh5, (sm.trans g14.same).trans sm5, ra5, hl5⟩
  · have e : i = ds.length := by omega
    subst e
    rw [List.drop_of_length_le (Nat.le_refl _)] at hl
    have e2 := (hh.side Dp _ upd_same).1
    have s2 := (hh.side Dp _ upd_same).2
    have g2 : Good K F H0 S0 H S := ⟨hst_unside hh fD, g1'.same.trans (sm.trans (same_unside fD))⟩
    exact .inl ⟨jr.stop _ _ H S hh sm (Nat.le_refl _), hq _ H _ S g2 (.lst (SqL.of (by rw [mask_none s2 fD]; exact e2)) (ra.mono (same_unside fD))) hl⟩
end
end VL

/-! VL: statements. -/
namespace VL
open PySem PySem.Spec PyProof.Rows L2

section
variable {X : Cx} {W : WX} {pos : Pos} {wi wi1 : TI} {id id1 : TId} {g g1 : TG} {gd gd1 : TGd} {tt tt1 : TT} {dt dt1 : TTd} {te : TE} {de : TEd} {vs1 : List Nat}
theorem ve_lc2 {tg iter elt tg1 iter1 : Expr} {ifs ifs1 : List Expr} {scope : Scope} {own : List (Str × Nat)} (hc : X.calm = true) (hN : X.N.Nodup) (hi : VI X W tg iter wi id) (ok : BlkOk X.N X.env.scope scope own) (hv : ∀ i ∈ vs1, i ∈ own.map (·.2))
    (hg : ∀ (s : Shared) (H : Hp) (C : Addr) (cl : List (Str × Addr)) (fp : List Addr), VG (X.blk s H scope (compEnvC scope cl C X.env) fp) (own.map (·.2)) tg g gd)
    (ht : ∀ (s : Shared) (H : Hp) (C : Addr) (cl : List (Str × Addr)) (fp : List Addr), VTs (X.blk s H scope (compEnvC scope cl C X.env) fp) WF ifs tt dt)
    (hi1 : ∀ (s : Shared) (H : Hp) (C : Addr) (cl : List (Str × Addr)) (fp : List Addr), VI (X.blk s H scope (compEnvC scope cl C X.env) fp) WF tg1 iter1 wi1 id1)
    (hg1 : ∀ (s : Shared) (H : Hp) (C : Addr) (cl : List (Str × Addr)) (fp : List Addr), VG (X.blk s H scope (compEnvC scope cl C X.env) fp) vs1 tg1 g1 gd1)
    (ht1 : ∀ (s : Shared) (H : Hp) (C : Addr) (cl : List (Str × Addr)) (fp : List Addr), VTs (X.blk s H scope (compEnvC scope cl C X.env) fp) WF ifs1 tt1 dt1)
    (he : ∀ (s : Shared) (H : Hp) (C : Addr) (cl : List (Str × Addr)) (fp : List Addr), VE (X.blk s H scope (compEnvC scope cl C X.env) fp) WF elt te de) (hs : ∀ x, foldedSetIterable iter X.env x = pure x := by intro _; rfl) (hs1 : ∀ env x, foldedSetIterable iter1 env x = pure x := by intro _ _; rfl) :
    VE X W (.ListComp elt [⟨tg, iter, ifs, 0⟩, ⟨tg1, iter1, ifs1, 0⟩] scope pos) (tLc2 wi g tt wi1 g1 tt1 te (own.map (·.2)) vs1) (dLc2 id gd dt id1 gd1 dt1 de (own.map (·.2)) vs1) :=
  ⟨pe_lc2 hc hN hi.run ok hv (fun s H C cl fp => (hg s H C cl fp).run) (fun s H C cl fp => (ht s H C cl fp).run) (fun s H C cl fp => (hi1 s H C cl fp).run) (fun s H C cl fp => (hg1 s H C cl fp).run) (fun s H C cl fp => (ht1 s H C cl fp).run) (fun s H C cl fp => (he s H C cl fp).run) hs hs1,
    snd_lc2 hi.snd (hg {} noH 0 [] []).snd (ht {} noH 0 [] []).snd (hi1 {} noH 0 [] []).snd (hg1 {} noH 0 [] []).snd (ht1 {} noH 0 [] []).snd (he {} noH 0 [] []).snd⟩
end

/-! ### the judgement -/
structure EndsD where
  nx : Sd → Sto → Prop
  rt : QD
  bk : Sd → Sto → Prop := fun _ _ => False
  ct : Sd → Sto → Prop := fun _ _ => False
  ex : Sd → XD := fun _ _ _ _ => False
abbrev TSd := EndsD → Sd → Sto → Prop
abbrev LN (K : PySem.W.Frag) (F H : Hp) (S : Sto) (nd : Sd → Sto → Prop) (n : L2.St → Hp → Prop) : Prop := ∀ σV' H' σ' S', Good K F H S H' S' → ER K (mask F S' H') σV' σ' → nd σ' S' → n σV' H'
structure LS (K : PySem.W.Frag) (F : Hp) (W : WX) (H : Hp) (S : Sto) (Dd : EndsD) (D : Ends) : Prop where
  nx : LN K F H S Dd.nx D.nx
  rt : LQ K F H S Dd.rt D.rt
  bk : LN K F H S Dd.bk D.bk
  ct : LN K F H S Dd.ct D.ct
  ex : ∀ σV' H' σ' S', Good K F H S H' S' → ER K (mask F S' H') σV' σ' → LX K F W σV' H' S' (Dd.ex σ')
theorem LN.next {K : PySem.W.Frag} {F H H1 : Hp} {S S1 : Sto} {nd : Sd → Sto → Prop} {n : L2.St → Hp → Prop} (h : LN K F H S nd n) (g : Good K F H S H1 S1) : LN K F H1 S1 nd n := fun a b c d g' => h a b c d (g.trans g')
theorem LS.next {K : PySem.W.Frag} {F H H1 : Hp} {W : WX} {S S1 : Sto} {Dd : EndsD} {D : Ends} (h : LS K F W H S Dd D) (g : Good K F H S H1 S1) : LS K F W H1 S1 Dd D :=
  ⟨LN.next h.nx g, h.rt.next g, LN.next h.bk g, LN.next h.ct g, fun a b c d g' => h.ex a b c d (g.trans g')⟩
theorem LS.exs {K : PySem.W.Frag} {F H : Hp} {W : WX} {σV : L2.St} {σ : Sd} {S : Sto} {Dd : EndsD} {D : Ends} (h : LS K F W H S Dd D) (hs : HSt K F H S) (er : ER K (mask F S H) σV σ) : LX K F W σV H S (Dd.ex σ) := h.ex σV H σ S (.refl hs) er
def SndS (K : PySem.W.Frag) (W : WX) (t : TS) (td : TSd) : Prop := ∀ {σV : L2.St} {F H : Hp} {σ : Sd} {S : Sto} {Dd : EndsD} {D : Ends},
  HSt K F H S → ER K (mask F S H) σV σ → td Dd σ S → LS K F W H S Dd D → t D σV H
structure VS (X : Cx) (W : WX) (st : Stmt) (t : TS) (td : TSd) : Prop where
  run : PS X st t
  snd : SndS X.K W t td
structure VSs (X : Cx) (W : WX) (st : List Stmt) (t : TS) (td : TSd) : Prop where
  run : PSs X st t
  snd : SndS X.K W t td
section
variable {X : Cx} {W : WX} {pos : Pos} {st : Stmt} {sts : List Stmt} {t u : TS} {td ud : TSd} {e a b o i : Expr} {te ta tb to ti : TE} {de da db d0 di : TEd} {g : TG} {gd : TGd}
def dNext : TSd := fun D σ S => D.nx σ S
def dSeq (t u : TSd) : TSd := fun D σ S => t { D with nx := u D } σ S
def dNever : TSd := fun _ _ _ => False
theorem snd_next : SndS X.K W tNext dNext := fun {σV F H σ S Dd D} hs er h l => l.nx _ H _ S (.refl hs) er h
theorem vss_nil : VSs X W [] tNext dNext := ⟨pss_nil, snd_next⟩
theorem vss_cons (h1 : VS X W st t td) (h2 : VSs X W sts u ud) : VSs X W (st :: sts) (tSeq t u) (dSeq td ud) := ⟨pss_cons h1.run h2.run, fun {σV F H σ S Dd D} hs er h l =>
  h1.snd (D := { D with nx := u D }) hs er h ⟨fun σV' H' σ' S' g er' h' => h2.snd g.hst er' h' (l.next g), l.rt, l.bk, l.ct, l.ex⟩⟩
theorem vss_one (h : VS X W st t td) : VSs X W [st] t td := ⟨pss_one h.run, h.snd⟩
theorem vs_pass : VS X W (.Pass pos) tNext dNext := ⟨ps_pass, snd_next⟩
theorem vs_doc {x j p p'} : VS X W (.Expr (.Constant (.str x) j p) p') tNext dNext := ⟨ps_doc, snd_next⟩
theorem vs_never : VS X W st tNever dNever := ⟨ps_never, fun {σV F H σ S Dd D} hs er h l => h.elim⟩
theorem vss_never : VSs X W sts tNever dNever := ⟨pss_never, fun {σV F H σ S Dd D} hs er h l => h.elim⟩
def dBreak : TSd := fun D σ S => D.bk σ S
def dCont : TSd := fun D σ S => D.ct σ S
theorem vs_break : VS X W (.Break pos) tBreak dBreak := ⟨ps_break, fun {σV F H σ S Dd D} hs er h l => l.bk _ H _ S (.refl hs) er h⟩
theorem vs_continue : VS X W (.Continue pos) tCont dCont := ⟨ps_continue, fun {σV F H σ S Dd D} hs er h l => l.ct _ H _ S (.refl hs) er h⟩
def dDrop (de : TEd) : TSd := fun D σ S => de σ S (fun _ S1 => D.nx σ S1) (D.ex σ)
theorem vs_expr (he : VE X W e te de) (hs : swapsWith e none pos.line X.env = pure false := by rfl) : VS X W (.Expr e pos) (tDrop te) (dDrop de) := ⟨ps_expr he.run hs, fun {σV F H σ S Dd D} hs er h l =>
  he.snd hs er h (fun v H1 d S1 g r h1 => l.nx _ H1 _ S1 g (er.mono g.same) h1) (l.exs hs er)⟩
def dRet (de : TEd) : TSd := fun D σ S => de σ S D.rt (D.ex σ)
theorem vs_ret (he : VE X W e te de) : VS X W (.Return (some e) pos) (tRet te) (dRet de) := ⟨ps_ret he.run, fun {σV F H σ S Dd D} hs er h l => he.snd hs er h l.rt (l.exs hs er)⟩
def dRetN : TSd := fun D _ S => D.rt .non S
theorem vs_retN : VS X W (.Return none pos) tRetN dRetN := ⟨ps_retN, fun {σV F H σ S Dd D} hs er h l => l.rt _ H _ S (.refl hs) .non h⟩
def dIf (c : TTd) (t u : TSd) : TSd := fun D σ S => c σ S (fun b S1 => if b = true then t D σ S1 else u D σ S1) (D.ex σ)
theorem vs_if {c : Expr} {A B : List Stmt} {tc : TT} {dc : TTd} (hc : VT X W c tc dc) (ha : VSs X W A t td) (hb : VSs X W B u ud) : VS X W (.If c A B pos) (tIfS tc t u) (dIf dc td ud) := ⟨ps_if hc.run ha.run hb.run, fun {σV F H σ S Dd D} hs er h l =>
  hc.snd (Q := fun b H1 => if b = true then t D σV H1 else u D σV H1) hs er h (fun b H1 S1 g h1 => by
    cases b with
    | true => exact ha.snd g.hst (er.mono g.same) h1 (l.next g)
    | false => exact hb.snd g.hst (er.mono g.same) h1 (l.next g)) (l.exs hs er)⟩
/-- target = e -/
def dAsg (de : TEd) (gd : TGd) : TSd := fun D σ S => de σ S (fun d S1 => gd d σ S1 D.nx) (D.ex σ)
theorem snd_asg {vs : List Nat} (he : Snd X.K W te de) (hg : SndG X.K vs g gd) : SndS X.K W (tAsg te g) (dAsg de gd) := fun {σV F H σ S Dd D} hs er h l =>
  he hs er h (fun v H1 d S1 g1 r h1 => hg g1.hst (er.mono g1.same) r h1 fun σV' H' σ' S' g2 er' _ _ h2 => l.nx _ H' _ S' (g1.trans g2) er' h2) (l.exs hs er)
theorem vs_asg {tg : Expr} {vs : List Nat} (he : VE X W e te de) (hg : VG X vs tg g gd) (hs : swapsWithSole [tg] e pos.line X.env = pure false := by rfl) (hw : swappedStores [tg] e X.env = pure none := by rfl)
    (h1 : (assignEach [tg] X.env).map (·.2) = [assign tg X.env] := by rfl) : VS X W (.Assign [tg] e pos) (tAsg te g) (dAsg de gd) := ⟨ps_asg he.run hg.run hs hw h1, snd_asg he.snd hg.snd⟩
theorem snd_name {j : Nat} : SndG X.K [j] (gName j) (hName j) := fun {v d σV F H σ S Qd Q} hs er r hh hq =>
  hq _ H _ S (.refl hs) (er.set r) (List.length_set ..) (fun k hk => List.getElem?_set_ne (fun (z : j = k) => hk (by rw [← z]; exact List.mem_singleton.mpr rfl))) hh
/-- x = e, by the rule that fits (ps_set, ps_setLc) -/
theorem vs_set {j : Nat} (h : PS X st (tAsg te (gName j))) (he : Snd X.K W te de) : VS X W st (tAsg te (gName j)) (dAsg de (hName j)) := ⟨h, snd_asg he snd_name⟩
/-- a, b = x, y -/
def dPar (j k : Nat) (da : TAd) : TSd := fun D σ S => da σ S (fun ds S1 => match ds with
  | [x, y] => D.nx ((σ.set j (some x)).set k (some y)) S1
  | _ => False) (D.ex σ)
theorem vs_par {j k : Nat} {ta : TA} {da : TAd} (h : PS X st (tPar j k ta)) (ha : SndA X.K W ta da) : VS X W st (tPar j k ta) (dPar j k da) := ⟨h, fun {σV F H σ S Dd D} hs er h l =>
  ha hs er h (fun vs H1 ds S1 g r h1 => by
    split at h1
    · cases r with
      | cons r1 r2 => cases r2 with
        | cons r2 r3 => cases r3; exact ⟨_, _, rfl, l.nx _ H1 _ S1 g (((er.mono g.same).set r1).set r2) h1⟩
    · cases h1) (l.exs hs er)⟩
/-- x += e (whole numbers) -/
def dAug (j : Nat) (f : Int → Int → Int) (de : TEd) : TSd := fun D σ S => match σ[j]? with
  | some (some (.int i)) => de σ S (fun d S1 => match d with
    | .int k => D.nx (σ.set j (some (.int (f i k)))) S1
    | _ => False) (D.ex σ)
  | _ => False
theorem vs_aug {j : Nat} {f : Int → Int → Int} (h : PS X st (tAug j te (ipI f))) (he : Snd X.K W te de) : VS X W st (tAug j te (ipI f)) (dAug j f de) := ⟨h, fun {σV F H σ S Dd D} hs er h l => by
  unfold dAug at h
  split at h
  · next i ei =>
    obtain ⟨v, e1, r1⟩ := er.at_ j _ ei
    cases r1
    refine ⟨_, e1, he hs er h (fun v H1 d S1 g r h1 => ?_) (l.exs hs er)⟩
    split at h1
    · cases r; exact ⟨_, _, rfl, rfl, l.nx _ H1 _ S1 g ((er.mono g.same).set (.int _)) h1⟩
    · cases h1
  · cases h⟩

/-! ### stores into a list, a dict -/
def putKD (kds : List (Key × D)) (k : Key) (d : D) : List (Key × D) := if (kds.any fun kv => decide (kv.1 = k)) = true then kds.map (fun kv => if kv.1 = k then (kv.1, d) else kv) else kds ++ [(k, d)]
section
variable {K : PySem.W.Frag} {M : Hp}
theorem repK_any {k : Key} : ∀ {kvs : List (Key × V)} {kds : List (Key × D)}, RepK K M kvs kds → (kvs.any fun kv => decide (kv.1 = k)) = (kds.any fun kv => decide (kv.1 = k))
  | _, _, .nil => rfl
  | _, _, .cons h r => by rw [List.any_cons, List.any_cons, repK_any r]
theorem repK_map {k : Key} {v : V} {d : D} (h : Rep K M v d) : ∀ {kvs : List (Key × V)} {kds : List (Key × D)}, RepK K M kvs kds → RepK K M (kvs.map fun kv => if kv.1 = k then (kv.1, v) else kv) (kds.map fun kv => if kv.1 = k then (kv.1, d) else kv)
  | _, _, .nil => .nil
  | _, _, .cons (k := k') q r => by
    rw [List.map_cons, List.map_cons]
    by_cases e : k' = k
    · simp only [e, if_true]; exact .cons h (repK_map h r)
    · simp only [e, if_false]; exact .cons q (repK_map h r)
theorem repK_app {k : Key} {v : V} {d : D} (h : Rep K M v d) : ∀ {kvs : List (Key × V)} {kds : List (Key × D)}, RepK K M kvs kds → RepK K M (kvs ++ [(k, v)]) (kds ++ [(k, d)])
  | _, _, .nil => .cons h .nil
  | _, _, .cons q r => .cons q (repK_app h r)
theorem repK_put {k : Key} {v : V} {d : D} (h : Rep K M v d) {kvs : List (Key × V)} {kds : List (Key × D)} (r : RepK K M kvs kds) : RepK K M (putK kvs k v) (putKD kds k d) := by
  unfold putK putKD
  rw [repK_any r]
  split
  · exact repK_map h r
  · exact repK_app h r
end
def dSetI (de d0 di : TEd) : TSd := fun D σ S => de σ S (fun v S1 => d0 σ S1 (fun x S2 => di σ S2 (fun y S3 => match x with
  | .ref p => match S3 p with
    | some (.lst ds) => match y with
      | .int k => match ixN ds.length k with
        | some j => D.nx σ (put S3 p (.lst (ds.set j v)))
        | none => False
      | _ => False
    | some (.dct kds) => match keyD y with
      | some k => kds.length < sizeLine ∧ D.nx σ (put S3 p (.dct (putKD kds k v)))
      | none => False
    | _ => False
  | _ => False) (D.ex σ)) (D.ex σ)) (D.ex σ)
def rSetD : V → V → V → Hp → (Hp → Prop) → Prop := fun x y v H Q => ∃ p H', x = .ref p ∧ DPut H p y v H' ∧ Q H'
def rSetA : V → V → V → Hp → (Hp → Prop) → Prop := fun x y v H Q => rSetL x y v H Q ∨ rSetD x y v H Q
theorem set_all (hu : X.A.units + 1 < cLine) : PSet X rSetA := fun pins s σ H o i v ov iv u Q I ro ri rv h => by
  rcases h with h | ⟨p, H', rfl, g, q⟩
  · exact set_list pins s σ H o i v ov iv u Q I ro ri rv h
  · obtain rfl : ov = Value.ref p := ro
    exact d_setItem hu I g ri rv fun s' I' => ⟨H', I', q⟩
theorem vs_setI {p1 : Pos} (hu : X.A.units + 1 < cLine) (he : VE X W e te de) (ho : VE X W o to d0) (hi : VE X W i ti di) (hs : swapsWithSole [.Subscript o i p1] e pos.line X.env = pure false := by rfl) (hw : swappedStores [.Subscript o i p1] e X.env = pure none := by rfl)
    (h1 : (assignEach [.Subscript o i p1] X.env).map (·.2) = [assign (.Subscript o i p1) X.env] := by rfl)
    (ha : ∀ v, assign (.Subscript o i p1) X.env v = (do
      let ov ← holding [v] (eval o X.env)
      let iv ← holding [v, ov] (eval i X.env)
      standAt p1
      holding [v, ov, iv] (setItem ov iv v)
      release [v, ov, iv] []) := by intro _; rfl) : VS X W (.Assign [.Subscript o i p1] e pos) (tAsg te (gSub to ti rSetA)) (dSetI de d0 di) := ⟨ps_asg he.run (pg_sub ho.run hi.run (set_all hu) ha) hs hw h1, fun {σV F H σ S Dd D} hs er h l => by
  refine he.snd hs er h (fun v H1 d S1 g1 r1 h1 => ?_) (l.exs hs er)
  refine ho.snd g1.hst (er.mono g1.same) h1 (fun x H2 dx S2 g2 r2 h2 => ?_) ((l.exs hs er).next g1)
  have g12 := g1.trans g2
  refine hi.snd g2.hst (er.mono g12.same) h2 (fun y H3 dy S3 g3 r3 h3 => ?_) ((l.exs hs er).next g12)
  have g13 := g12.trans g3
  have r1' := (r1.mono g2.same).mono g3.same
  split at h3
  · next p =>
    cases r2
    split at h3
    · next ds es =>
      obtain ⟨xs, e1, q1⟩ := g3.hst.at_ p _ es
      split at h3
      · next k =>
        cases r3
        split at h3
        · next j ej =>
          have gc : Good X.K F H3 S3 (upd H3 p (.lst (xs.set j v))) (put S3 p (.lst (ds.set j d))) := ⟨hst_chg g3.hst es (ook_lst (q1.set r1' j)), by rw [mask_chg es]; exact Same.refl _⟩
          exact .inl ⟨p, xs, k, j, rfl, rfl, e1, by rw [q1.length]; exact ej, l.nx _ _ _ _ (g13.trans gc) ((er.mono g13.same).mono gc.same) h3⟩
        · cases h3
      · cases h3
    · next kds es =>
      obtain ⟨xs, e1, q1⟩ := g3.hst.at_ p _ es
      split at h3
      · next k ek =>
        have gc : Good X.K F H3 S3 (upd H3 p (.dK (putK xs k v))) (put S3 p (.dct (putKD kds k d))) := ⟨hst_chg g3.hst es (ook_dct (repK_put r1' q1)), by rw [mask_chg es]; exact Same.refl _⟩
        have ey := key_of r3 ek
        subst ey
        exact .inr ⟨p, _, rfl, DPut.k e1 (by rw [repK_len q1]; exact h3.1), l.nx _ _ _ _ (g13.trans gc) ((er.mono g13.same).mono gc.same) h3.2⟩
      · cases h3
    · cases h3
  · cases h3⟩

/-! ### loops -/
def dForL (gd : TGd) (tb : TSd) (Z : EndsD) : List D → Sd → Sto → Prop
  | [], σ, S => Z.nx σ S
  | d :: ds, σ, S => gd d σ S fun σ1 S1 => tb { Z with nx := dForL gd tb Z ds, ct := dForL gd tb Z ds, bk := Z.nx } σ1 S1
def dFor (id : TId) (gd : TGd) (tb : TSd) : TSd := fun D σ S => id σ S (fun ds S1 => dForL gd tb D ds σ S1) (D.ex σ)
theorem snd_for {wi : TI} {id : TId} {vs : List Nat} (hi : SndI X.K W wi id) (hg : SndG X.K vs g gd) (hb : SndS X.K W t td) : SndS X.K W (tFor wi g t) (dFor id gd td) := fun {σV F H0 σ S0 Dd D} hs er h l => by
  refine hi hs er h (fun J H1 ds S1 g1 jr h1 => ?_) (l.exs hs er)
  let Iv : Nat → L2.St → Hp → Prop := fun i σV' H => ∃ (σ' : Sd) (S : Sto), Good X.K F H1 S1 H S ∧ ER X.K (mask F S H) σV' σ' ∧ dForL gd td Dd (ds.drop i) σ' S
  refine ⟨fun i m σV' H => m = ds.length - i ∧ i ≤ ds.length ∧ Iv i σV' H, ⟨ds.length, by simp, Nat.zero_le _, σ, S1, .refl g1.hst, er.mono g1.same, by simpa using h1⟩, ?_⟩
  rintro i m σV' H ⟨rfl, hi', σ', S, gg, er', hl⟩
  by_cases hlt : i < ds.length
  · have ed : ds.drop i = ds[i] :: ds.drop (i + 1) := List.drop_eq_getElem_cons hlt
    rw [ed] at hl
    refine .inr ⟨jr.go i _ H S gg.hst gg.same hlt, Iv (i + 1), fun σ2 H' p' => ⟨ds.length - (i + 1), by omega, rfl, hlt, p'⟩, fun x H' y => ?_⟩
    obtain ⟨g2, rx⟩ := jr.yld i _ H S x H' ds[i] gg.hst gg.same (List.getElem?_eq_getElem hlt) y
    have gg2 := gg.trans g2
    refine hg g2.hst (er'.mono g2.same) rx hl fun σ3 H3 σd3 S3 g3 er3 _ _ h3 => ?_
    have gg3 := gg2.trans g3
    have ll := l.next (g1.trans gg3)
    exact hb g3.hst er3 h3 ⟨fun a b c d g4 er4 h4 => ⟨c, d, gg3.trans g4, er4, h4⟩, ll.rt, ll.nx, fun a b c d g4 er4 h4 => ⟨c, d, gg3.trans g4, er4, h4⟩, ll.ex⟩
  · have e : i = ds.length := by omega
    subst e
    rw [List.drop_of_length_le (Nat.le_refl _)] at hl
    exact .inl ⟨jr.stop _ _ H S gg.hst gg.same (Nat.le_refl _), l.nx _ H _ S (g1.trans gg) er' hl⟩
theorem vs_for {tg iter : Expr} {body : List Stmt} {wi : TI} {id : TId} {vs : List Nat} (hp : PassesOwn (model X.prog X.w) X.A X.env X.xe) (hc : X.calm = true) (hi : VI X W tg iter wi id) (hg : VG X vs tg g gd) (hb : VSs X W body t td)
    (hs : ∀ x, foldedSetIterable iter X.env x = pure x := by intro _; rfl) : VS X W (.For tg iter body [] pos) (tFor wi g t) (dFor id gd td) := ⟨ps_for hp hc hi.run hg.run hb.run hs, snd_for hi.snd hg.snd hb.snd⟩
/-- while: Iv what holds ahead of each turn, by a number that falls -/
def dWhile (dc : TTd) (td : TSd) : TSd := fun D σ S => ∃ Iv : Nat → Sd → Sto → Prop, (∃ m, Iv m σ S) ∧ ∀ m σ S, Iv m σ S → dc σ S (fun b S1 => if b = true then td { D with nx := fun σ' S' => ∃ m', m' < m ∧ Iv m' σ' S', ct := fun σ' S' => ∃ m', m' < m ∧ Iv m' σ' S', bk := D.nx } σ S1 else D.nx σ S1) (D.ex σ)
theorem snd_while {c : TT} {dc : TTd} (hc : SndT X.K W c dc) (hb : SndS X.K W t td) : SndS X.K W (tWhile c t) (dWhile dc td) := fun {σV F H0 σ S0 Dd D} hs er h l => by
  obtain ⟨Iv, ⟨m0, h0⟩, step⟩ := h
  refine ⟨fun m σV' H => ∃ σ' S', Good X.K F H0 S0 H S' ∧ ER X.K (mask F S' H) σV' σ' ∧ Iv m σ' S', ⟨m0, σ, S0, .refl hs, er, h0⟩, ?_⟩
  rintro m σV' H ⟨σ', S', gg, er', hI⟩
  refine hc gg.hst er' (step m σ' S' hI) (fun b H1 S1 g1 h1 => ?_) ((l.next gg).exs gg.hst er')
  have gg1 := gg.trans g1
  cases b with
  | false => exact l.nx _ H1 _ S1 gg1 (er'.mono g1.same) h1
  | true =>
    have ll := l.next gg1
    refine ⟨fun a b => ∃ m', m' < m ∧ ∃ c d, Good X.K F H0 S0 b d ∧ ER X.K (mask F d b) a c ∧ Iv m' c d, fun a b q => q, ?_⟩
    exact hb g1.hst (er'.mono g1.same) h1 ⟨fun a b c d g4 er4 ⟨m', hm, h4⟩ => ⟨m', hm, c, d, gg1.trans g4, er4, h4⟩, ll.rt, ll.nx, fun a b c d g4 er4 ⟨m', hm, h4⟩ => ⟨m', hm, c, d, gg1.trans g4, er4, h4⟩, ll.ex⟩
theorem vs_while {c : Expr} {body : List Stmt} {tc : TT} {dc : TTd} (hp : PassesOwn (model X.prog X.w) X.A X.env X.xe) (hc : VT X W c tc dc) (hb : VSs X W body t td) : VS X W (.While c body [] pos) (tWhile tc t) (dWhile dc td) := ⟨ps_while hp hc.run hb.run, snd_while hc.snd hb.snd⟩

/-! ### a slot's object is seen as it stands, from here on -/
def dSee (j : Nat) (td : TSd) : TSd := fun D σ S => match σ[j]? with
  | some (some (.ref a)) => match S a with
    | some (.lst ds) => td D (σ.set j (some (.lst ds))) (era S a)
    | some (.dct ds) => td D (σ.set j (some (.dct ds))) (era S a)
    | _ => False
  | _ => False
theorem snd_see {j : Nat} (h : SndS X.K W t td) : SndS X.K W t (dSee j td) := fun {σV F H σ S Dd D} hs er hh l => by
  unfold dSee at hh
  split at hh
  · next a ea =>
    split at hh
    · next ds es =>
      obtain ⟨xs, e1, q1⟩ := hs.at_ a _ es
      have s1 : Same (mask F S H) (mask F (era S a) H) := same_sub sub_era
      have g1 : Good X.K F H S H (era S a) := ⟨hst_sub hs sub_era, s1⟩
      refine h g1.hst ((er.mono s1).see (fun v hv => ?_) ⟨_, ea⟩) hh (l.next g1)
      obtain ⟨w, ew, rw'⟩ := er.at_ j _ ea
      rw [ew] at hv; cases hv
      cases rw'
      exact .lst (SqL.of (by rw [mask_none (by unfold era; rw [if_pos rfl]) (hs.apart es)]; exact e1)) (q1.mono s1)
    · next ds es =>
      obtain ⟨xs, e1, q1⟩ := hs.at_ a _ es
      have s1 : Same (mask F S H) (mask F (era S a) H) := same_sub sub_era
      have g1 : Good X.K F H S H (era S a) := ⟨hst_sub hs sub_era, s1⟩
      refine h g1.hst ((er.mono s1).see (fun v hv => ?_) ⟨_, ea⟩) hh (l.next g1)
      obtain ⟨w, ew, rw'⟩ := er.at_ j _ ea
      rw [ew] at hv; cases hv
      cases rw'
      exact .dct (.inl (by rw [mask_none (by unfold era; rw [if_pos rfl]) (hs.apart es)]; exact e1)) (q1.mono s1)
    · cases hh
  · cases hh
theorem vss_see {j : Nat} (h : VSs X W sts t td) : VSs X W sts t (dSee j td) := ⟨h.run, snd_see h.snd⟩
theorem vs_see {j : Nat} (h : VS X W st t td) : VS X W st t (dSee j td) := ⟨h.run, snd_see h.snd⟩

/-! ### xs.append(e) -/
def dAppend (d0 : TEd) (da : TAd) : TEd := fun σ S Q E => d0 σ S (fun x S1 => match x with
  | .ref p => (∃ es, S1 p = some (.lst es)) ∧ da σ S1 (fun vs S2 => match vs with
    | [v] => match S2 p with
      | some (.lst ds) => ds.length < sizeLine ∧ Q .non (put S2 p (.lst (ds ++ [v])))
      | _ => False
    | _ => False) E
  | _ => False) E
theorem snd_append {ta1 : TA} {da1 : TAd} (ho : Snd X.K W to d0) (ha : SndA X.K W ta1 da1) : Snd X.K W (tBM X.K "list" rAppend to ta1) (dAppend d0 da1) := fun {σV F H σ S Qd E Q} hs er h hq hx =>
  ho hs er h (fun x H1 dx S1 g1 r1 h1 => by
    split at h1
    · next p =>
      cases r1
      obtain ⟨⟨es, he⟩, h1⟩ := h1
      obtain ⟨xs1, e1, _⟩ := g1.hst.at_ p _ he
      refine ⟨.inl ⟨rfl, xs1, SqL.of e1⟩, ha g1.hst (er.mono g1.same) h1 (fun vs H2 ds2 S2 g2 r2 h2 => ?_) (hx.next g1)⟩
      split at h2
      · next v =>
        cases r2 with
        | cons r2 r3 =>
          cases r3
          split at h2
          · next ds e2 =>
            obtain ⟨xs, e3, q1⟩ := g2.hst.at_ p _ e2
            refine ⟨p, xs, _, rfl, rfl, e3, by rw [q1.length]; exact h2.1, hq _ _ _ _ ((g1.trans g2).trans ⟨hst_chg g2.hst e2 (ook_lst (q1.append (.cons r2 .nil))), by rw [mask_chg e2]; exact Same.refl _⟩) .non h2.2⟩
          · cases h2
      · cases h2
    · cases h1) hx
theorem ve_append {e1 : Expr} {apos : Pos} {ta1 : TA} {da1 : TAd} (ho : VE X W o to d0) (ha : VA X W [e1] ta1 da1) (hp : PE X (.Call (.Attribute o "append" apos) [e1] [] pos) (tBM X.K "list" rAppend to ta1)) :
    VE X W (.Call (.Attribute o "append" apos) [e1] [] pos) (tBM X.K "list" rAppend to ta1) (dAppend d0 da1) := ⟨hp, snd_append ho.snd ha.snd⟩
end
end VL

/-! VL: defs and their calls, repr, the law's end. What is called never runs within a repr (guards = some []). -/
namespace VL
open PySem PySem.Spec PyProof.Rows L2

/-- a def's promise where no repr is under way; it may raise -/
structure FnG (P : Program) (w : World) (K : PySem.W.Frag) (mg : Str → Option Value) (base : Heap) (k : Nat) (f : Addr) (fd : FuncData) (ps : List Str) (sp : Sp) : Prop where
  len : ∀ vs H Q E, sp vs H Q E → vs.length = ps.length
  run : ∀ (A : Around) (outer : List Env) (s : Shared) (H : Hp) (args : Args) (us : List Value) (vs : List V) (Q : VK) (E : XK), A.guards = some [] → Room k A → Env0 P w K mg base A outer s H → BindsTo s fd args (ps.zip us) → Vals vs us →
    sp vs H Q E → codeAny (model P w) A (.call (.ref f) args) (CR (L2.CX P w) outer P w H s Q E) s
theorem FnG.mono {P : Program} {w : World} {K : PySem.W.Frag} {mg : Str → Option Value} {base : Heap} {j k : Nat} {f : Addr} {fd : FuncData} {ps : List Str} {sp : Sp} (h : FnG P w K mg base j f fd ps sp) (le : j ≤ k) : FnG P w K mg base k f fd ps sp :=
  ⟨h.len, fun A outer s H args us vs Q E g r => h.run A outer s H args us vs Q E g (r.mono le)⟩
section
variable {P : Program} {w : World} {K : PySem.W.Frag} {mg : Str → Option Value} {base : Heap}
theorem fnG_of {k : Nat} {f : Addr} {name qual : Str} {params : Arguments} {body : List Stmt} {scope : Scope} {dV kV doc pm cdv ct oc : Value} {an od : Option Addr} {osl : Array (Option Value)} {N ps : List Str} {sp : Sp}
    (lk : K.lookup f = some ⟨oc, od, .func (PySem.W.fnOf name qual params body scope dV kV doc pm an cdv ct), osl⟩) (hcd : PySem.W.codeIn K cdv qual = true) (T : FnScope N ps scope) (len : ∀ vs H Q E, sp vs H Q E → vs.length = ps.length)
    (hb : ∀ (A : Around) (outer : List Env) (s : Shared) (H : Hp) (vs : List V) (Q : VK) (E : XK), A.guards = some [] → Room k (A.deeper (envOfC qual scope s.heap.objs.size f cdv)) → sp vs H Q E →
      ∃ t, PSs (cxOf (L2.CX P w) P w K mg base N qual scope f cdv A outer s H E) body t ∧ t { nx := fun _ H' => Q .non H', rt := Q } (start N vs) H) :
    FnG P w K mg base (k + 1) f (PySem.W.fnOf name qual params body scope dV kV doc pm an cdv ct) ps sp where
  len := len
  run A outer s H args us vs Q E hgd hr e0 bnd rel hsp := by
    have ll := len _ _ _ _ hsp
    have kin : K.In s.heap := e0.mod.kin.keeps fun b o z => (e0.bs b o z).1
    have lim : s.heap.NoLimit := e0.mod.nolimit.keeps fun b o z => (e0.bs b o z).1
    obtain ⟨t, ht, hq⟩ := hb A outer s H vs Q E hgd (hr.deeper _) hsp
    have kinds : ∀ y ∈ ps.zip us, scope.names.lookup y.1 = some .local ∨ (scope.names.lookup y.1 = some .cell ∧ ((cellsFrom (s.heap.objs.size + 1) scope.names []).lookup y.1).isSome = true) := by
      rintro ⟨n, v⟩ hy
      have hn : n ∈ ps := (List.of_mem_zip hy).1
      cases T.par n hn with
      | inl q => exact .inl q
      | inr q => exact .inr ⟨q, PySem.W.cellsFrom_some _ _ _ (.inl q)⟩
    apply codeAny_call_function hr.depth (kin _ _ lk) rfl T.co T.gen rfl (PySem.W.codeRec_of kin hcd) (bnd _ _ _ _ ?_)
    apply wpAny_newFunctionEnv_cells T.kind kinds
    intro env he s1 x
    subst he
    refine ⟨lim.keeps x.toInCall.keep, codeAny_func (wpAny_mono (ht.run [] s1 (start N vs) H _ (inv_start T hr.hd e0 ll rel x) hq) ?_ fun _ _ z => z)⟩
    intro fl s' z
    cases fl with
    | ret u =>
      obtain ⟨v, σ', H', J, rv, q⟩ := z
      exact ⟨v, H', J.os, J.bare, J.base, J.hok, rv, q⟩
    | next =>
      obtain ⟨σ', H', J, q⟩ := z
      exact ⟨.non, H', J.os, J.bare, J.base, J.hok, rfl, q⟩
    | brk => exact z.elim fun _ z => z.elim fun _ z => z.2.elim
    | cont => exact z.elim fun _ z => z.elim fun _ z => z.2.elim
end

/-! ### promises over data -/
abbrev Spd := List D → Sto → QD → XD → Prop
def LXE (K : PySem.W.Frag) (F H : Hp) (S : Sto) (Ed : XD) (E : XK) : Prop := ∀ cls a H' fs S', Good K F H S H' S' → XRep K (mask F S' H') a fs → Ed cls fs S' → E cls a H'
def lift (K : PySem.W.Frag) (spd : Spd) : Sp := fun vs H Q E => ∃ (F : Hp) (ds : List D) (S : Sto) (Qd : QD) (Ed : XD), HSt K F H S ∧ Reps K (mask F S H) vs ds ∧ spd ds S Qd Ed ∧ LQ K F H S Qd Q ∧ LXE K F H S Ed E
/-- what is made on the way and left is forgotten -/
def fin (Q : QD) : QD := fun d S => ∃ S', Sub S' S ∧ Q d S'
def finX (E : XD) : XD := fun c fs S => ∃ S', Sub S' S ∧ E c fs S'
theorem fin_now {Q : QD} {d : D} {S : Sto} (h : Q d S) : fin Q d S := ⟨S, Sub.refl S, h⟩
theorem finX_now {E : XD} {c : Value} {fs : List (Str × D)} {S : Sto} (h : E c fs S) : finX E c fs S := ⟨S, Sub.refl S, h⟩
theorem LQ.fin {K : PySem.W.Frag} {F H : Hp} {S : Sto} {Qd : QD} {Q : VK} (h : LQ K F H S Qd Q) : LQ K F H S (fin Qd) Q := fun v H' d S' g r ⟨S2, sb, q⟩ =>
  h v H' d S2 ⟨hst_sub g.hst sb, g.same.trans (same_sub sb)⟩ (r.mono (same_sub sb)) q
theorem XRep.mono {K : PySem.W.Frag} {M M' : Hp} {a : Option Addr} {fs : List (Str × D)} (h : XRep K M a fs) (e : Same M M') : XRep K M' a fs := by
  cases a with
  | none => exact h
  | some d => obtain ⟨fv, h1, h2⟩ := h; exact ⟨fv, e _ _ h1, h2.mono e⟩
def startD (N : List Str) (ds : List D) : Sd := ds.map some ++ List.replicate (N.length - ds.length) none
theorem er_start {K : PySem.W.Frag} {M : Hp} {N : List Str} {vs : List V} {ds : List D} (r : Reps K M vs ds) : ER K M (L2.start N vs) (startD N ds) := by
  refine ⟨by unfold L2.start startD; rw [List.length_append, List.length_append, List.length_map, List.length_map, List.length_replicate, List.length_replicate, r.length], fun i d h => ?_⟩
  unfold startD at h
  unfold L2.start
  by_cases hi : i < ds.length
  · rw [List.getElem?_append_left (by simpa using hi), List.getElem?_map] at h
    obtain ⟨e, h1, h2⟩ := Option.map_eq_some_iff.mp h
    cases h2
    obtain ⟨v, h3, h4⟩ := r.get h1
    exact ⟨v, by rw [List.getElem?_append_left (by rw [List.length_map, r.length]; exact hi), List.getElem?_map, h3]; rfl, h4⟩
  · rw [List.getElem?_append_right (by simpa using hi), List.getElem?_replicate] at h
    split at h <;> cases h
/-- the wish of a def's own body -/
abbrev wDef (E : XK) : WX := fun cls d _ H => E cls d H
section
variable {P : Program} {w : World} {K : PySem.W.Frag} {mg : Str → Option Value} {base : Heap}
/-- what a body must do -/
def BodyOk (td : TSd) (N : List Str) (spd : Spd) : Prop := ∀ (ds : List D) (S : Sto) (Qd : QD) (Ed : XD), spd ds S Qd Ed → td { nx := fun _ S' => fin Qd .non S', rt := fin Qd, ex := fun _ => finX Ed } (startD N ds) S
/-- THE RULE of a def -/
theorem def_ok {x qual : Str} {params : Arguments} {body : List Stmt} {scope : Scope} {dvs : List V} {kws : List (Str × V)} {f : Addr} {fd : FuncData} {N ps : List Str} {k : Nat} {spd : Spd} (Fd : FunD K x qual params body scope dvs kws f fd) (T : FnScope N ps scope)
    (len : ∀ ds S Q E, spd ds S Q E → ds.length = ps.length)
    (hb : ∀ (cdv : Value) (A : Around) (outer : List Env) (s : Shared) (H : Hp) (E : XK), A.guards = some [] → Room k (A.deeper (envOfC qual scope s.heap.objs.size f cdv)) →
      ∃ t td, VSs (cxOf (L2.CX P w) P w K mg base N qual scope f cdv A outer s H E) (wDef E) body t td ∧ BodyOk td N spd) : FnG P w K mg base (k + 1) f fd ps (lift K spd) := by
  obtain ⟨oc, od, dV, kV, doc, pm, an, cdv, ct, osl, rfl, lk, hcd, _, _⟩ := Fd.ex
  refine fnG_of lk hcd T (fun vs H Q E ⟨_, ds, S, Qd, Ed, hs, r, h, _⟩ => by rw [r.length]; exact len _ _ _ _ h) fun A outer s H vs Q E hgd hr h => ?_
  obtain ⟨F, ds, S, Qd, Ed, hs, r, hsp, lq, lx⟩ := h
  obtain ⟨t, td, V, ok⟩ := hb cdv A outer s H E hgd hr
  exact ⟨t, V.run, V.snd hs (er_start r) (ok ds S Qd Ed hsp) ⟨fun σV' H' σ' S' g _ h => LQ.fin lq _ H' _ S' g .non h, LQ.fin lq, fun _ _ _ _ _ _ h => h.elim, fun _ _ _ _ _ _ h => h.elim, fun σV H1 σ' S1 g1 _ cls a H' fs S' g xr ⟨S2, sb, q⟩ =>
    lx cls a H' fs S2 ⟨hst_sub g.hst sb, (g1.trans g).same.trans (same_sub sb)⟩ (xr.mono (same_sub sb)) q⟩⟩
end

/-! ### calls -/
section
variable {X : Cx} {W : WX} {k n : Nat} {f C : Addr} {fd : FuncData} {ps ks : List Str} {sp : Sp} {spd : Spd} {dvs : List V} {dds : List D} {ds0 : List Value} {x m : Str} {p pos apos : Pos} {e o : Expr} {es : List Expr} {kws : List Keyword} {ta : TE} {t tk' : TA} {da dk : TAd} {d0 : TEd}
theorem run_G {pins : List (Addr × Obj)} {σ : L2.St} {H : Hp} {s : Shared} {Q : VK} {us : List Value} {vs : List V} {args : Args} (Fn : FnG X.prog X.w X.K X.mg X.base k f fd ps sp) (hgd : X.A.guards = some []) (hr : Room k X.A) (tk : Takes X W)
    (I : Inv X pins σ H s) (hb : BindsTo s fd args (ps.zip us)) (r : Vals vs us) (h : sp vs H Q (WE W σ)) : codeAny (model X.prog X.w) X.A (.call (.ref f) args) (wants (EP X pins σ Q) X.xe) s := by
  refine codeAny_mono (Fn.run X.A X.stack s H args us vs Q (WE W σ) hgd hr I.env0 hb r h) fun r s' hq => ?_
  rcases r with e | (_ | _ | _ | u)
  · exact passAt tk σ pins H s e s' I hq
  · exact hq.elim
  · exact hq.elim
  · exact hq.elim
  · exact I.after hq
def tCallG (sp : Sp) (dvs : List V) (W : WX) (t : TA) : TE := fun σ H Q => t σ H fun vs H1 => sp (vs ++ dvs) H1 Q (WE W σ)
theorem pe_callG (Fn : FnG X.prog X.w X.K X.mg X.base k f fd ps sp) (hgd : X.A.guards = some []) (hr : Room k X.A) (tk : Takes X W) (hm : X.mg x = some (.ref f)) (hk : PySem.W.keepIn X.K (.ref f) = true) (hb : Binds X.K fd ps ds0) (hd : Vals dvs ds0) (ha : PA X (e :: es) t)
    (hg : Gl X x := by rfl) (hdb : (x == ("__debug__" : Str)) = false := by decide) (he : starEach (e :: es) X.env = (false, eval e X.env) :: starEach es X.env := by rfl) (hpl : (backTo pos (starEach es X.env)).any (·.1) = false := by rfl) :
    PE X (.Call (.Name x p) (e :: es) [] pos) (tCallG sp dvs W t) := by
  refine ⟨fun pins s σ H Q I h => wpAny_Call_Name_kw (ld_glob I hg hm ?_ hdb)⟩
  refine PySem.W.callWith_K (h₀ := X.base) I.ok.mod.kin hk (thn (ha.run pos pins s σ H _ I h) fun us s1 ⟨vs, H1, I1, r, q⟩ => ⟨I1.kIn, ?_⟩) he hpl
  have r2 := r.append hd
  exact wpAny_call (run_G Fn hgd hr tk I1 (hb s1 us I1.kIn (by rw [← r2.length]; exact Fn.len _ _ _ _ q)) r2 q)
theorem pe_callG0 (Fn : FnG X.prog X.w X.K X.mg X.base k f fd ps sp) (hgd : X.A.guards = some []) (hr : Room k X.A) (tk : Takes X W) (hm : X.mg x = some (.ref f)) (hk : PySem.W.keepIn X.K (.ref f) = true) (hb : Binds X.K fd ps ds0) (hd : Vals dvs ds0)
    (hg : Gl X x := by rfl) (hdb : (x == ("__debug__" : Str)) = false := by decide) : PE X (.Call (.Name x p) [] [] pos) (tCallG sp dvs W tNil) := by
  refine ⟨fun pins s σ H Q I h => wpAny_Call_Name_kw (ld_glob I hg hm ?_ hdb)⟩
  refine PySem.W.callWith_K0 I.kIn hk ?_
  exact wpAny_call (run_G Fn hgd hr tk I (hb s [] I.kIn (by rw [List.nil_append, ← hd.length]; exact Fn.len _ _ _ _ h)) hd h)
/-- f(e, .., k = v, ..) -/
def tCallGK (n m : Nat) (sp : Sp) (gV : List V → List V → List V) (W : WX) (t tk : TA) : TE := fun σ H Q => t σ H fun vs H1 => tk σ H1 fun zs H2 => vs.length = n ∧ zs.length = m ∧ sp (gV vs zs) H2 Q (WE W σ)
theorem pe_callGK {g : List Value → List Value → List Value} {gV : List V → List V → List V} (Fn : FnG X.prog X.w X.K X.mg X.base k f fd ps sp) (hgd : X.A.guards = some []) (hr : Room k X.A) (tk : Takes X W) (hm : X.mg x = some (.ref f)) (hk : PySem.W.keepIn X.K (.ref f) = true)
    (hb : KBn X.K fd ps n ks g gV) (ha : PA X (e :: es) t) (hkw : PK X kws tk') (hg : Gl X x := by rfl) (hall : (backToKw pos (keywordEach kws X.env)).all (·.1.isSome) = true := by rfl) (hks : (backToKw pos (keywordEach kws X.env)).filterMap (·.1) = ks := by rfl)
    (hdb : (x == ("__debug__" : Str)) = false := by decide) (he : starEach (e :: es) X.env = (false, eval e X.env) :: starEach es X.env := by rfl)
    (hpl : ((backTo pos (starEach (e :: es) X.env)).any (·.1) || (backToKw pos (keywordEach kws X.env)).any (·.1.isNone)) = false := by rfl) : PE X (.Call (.Name x p) (e :: es) kws pos) (tCallGK n ks.length sp gV W t tk') := by
  refine ⟨fun pins s σ H Q I h => wpAny_Call_Name_kw (ld_glob I hg hm ?_ hdb)⟩
  refine PySem.W.callWith_KW (h₀ := X.base) I.ok.mod.kin hk hall (thn (ha.run pos pins s σ H _ I h) fun us s1 ⟨vs, H1, I1, r, q⟩ => ?_) hpl he
  refine thn (hkw.run pos pins s1 σ H1 _ I1 q) fun ws s2 ⟨zs, H2, I2, rz, l1, l2, q2⟩ => ⟨I2.kIn, ?_⟩
  rw [hks]
  exact wpAny_call (run_G Fn hgd hr tk I2 (hb.to s2 us ws I2.kIn (r.length.symm.trans l1) (rz.length.symm.trans l2)) (hb.rel r rz) q2)

/-! over data -/
def dCall (spd : Spd) (dds : List D) (da : TAd) : TEd := fun σ S Q E => da σ S (fun ds S1 => spd (ds ++ dds) S1 Q E) E
theorem snd_call (hds : ∀ M : Hp, Reps X.K M dvs dds) (ha : SndA X.K W t da) : Snd X.K W (tCallG (lift X.K spd) dvs W t) (dCall spd dds da) := fun {σV F H σ S Qd E Q} hs er h hq hx =>
  ha (Q := fun vs H1 => lift X.K spd (vs ++ dvs) H1 Q (WE W σV)) hs er h (fun vs H1 ds S1 g r h1 => ⟨F, ds ++ dds, S1, Qd, E, g.hst, r.append (hds _), h1, hq.next g, fun cls a H' fs S' g' xr q => hx cls a H' fs S' (g.trans g') xr q⟩) hx
theorem ve_call (Fn : FnG X.prog X.w X.K X.mg X.base k f fd ps (lift X.K spd)) (hgd : X.A.guards = some []) (hr : Room k X.A) (tk : Takes X W) (hm : X.mg x = some (.ref f)) (hk : PySem.W.keepIn X.K (.ref f) = true) (hb : Binds X.K fd ps ds0) (hd : Vals dvs ds0) (hds : ∀ M : Hp, Reps X.K M dvs dds)
    (ha : VA X W (e :: es) t da) (hg : Gl X x := by rfl) (hdb : (x == ("__debug__" : Str)) = false := by decide) (he : starEach (e :: es) X.env = (false, eval e X.env) :: starEach es X.env := by rfl) (hpl : (backTo pos (starEach es X.env)).any (·.1) = false := by rfl) :
    VE X W (.Call (.Name x p) (e :: es) [] pos) (tCallG (lift X.K spd) dvs W t) (dCall spd dds da) := ⟨pe_callG Fn hgd hr tk hm hk hb hd ha.run hg hdb he hpl, snd_call hds ha.snd⟩
theorem ve_call0 (Fn : FnG X.prog X.w X.K X.mg X.base k f fd ps (lift X.K spd)) (hgd : X.A.guards = some []) (hr : Room k X.A) (tk : Takes X W) (hm : X.mg x = some (.ref f)) (hk : PySem.W.keepIn X.K (.ref f) = true) (hb : Binds X.K fd ps ds0) (hd : Vals dvs ds0) (hds : ∀ M : Hp, Reps X.K M dvs dds)
    (hg : Gl X x := by rfl) (hdb : (x == ("__debug__" : Str)) = false := by decide) : VE X W (.Call (.Name x p) [] [] pos) (tCallG (lift X.K spd) dvs W tNil) (dCall spd dds dNil) := ⟨pe_callG0 Fn hgd hr tk hm hk hb hd hg hdb, snd_call hds (va_nil (X := X) (W := W)).snd⟩
structure VK' (X : Cx) (W : WX) (kws : List Keyword) (t : TA) (td : TAd) : Prop where
  run : PK X kws t
  snd : SndA X.K W t td
theorem vk_nil : VK' X W [] tNil dNil := ⟨pk_nil, (va_nil (X := X) (W := W)).snd⟩
theorem vk_cons {e : Expr} {te : TE} {t : TA} {de : TEd} {dr : TAd} {nm : Option Str} {kpos : Pos} (ha : VE X W e te de) (hr : VK' X W kws t dr) : VK' X W (⟨nm, e, kpos⟩ :: kws) (tCons te t) (dCons de dr) := ⟨pk_cons ha.run hr.run, fun {σV F H σ S Qd E Q} hs er h hq hx =>
  ha.snd (Q := fun x H1 => t σV H1 fun xs H2 => Q (x :: xs) H2) hs er h (fun x H1 dx S1 g1 r1 h1 => hr.snd (Q := fun xs H2 => Q (x :: xs) H2) g1.hst (er.mono g1.same) h1 (fun xs H2 ds S2 g2 r2 h2 =>
    hq (x :: xs) H2 (dx :: ds) S2 (g1.trans g2) (.cons (r1.mono g2.same) r2) h2) (hx.next g1)) hx⟩
/-- gD puts the positional things and the keywords' things in the parameters' order -/
def dCallK (n m : Nat) (spd : Spd) (gD : List D → List D → List D) (da dk : TAd) : TEd := fun σ S Q E => da σ S (fun ds S1 => dk σ S1 (fun zs S2 => ds.length = n ∧ zs.length = m ∧ spd (gD ds zs) S2 Q E) E) E
theorem ve_callK {g : List Value → List Value → List Value} {gV : List V → List V → List V} {gD : List D → List D → List D} (Fn : FnG X.prog X.w X.K X.mg X.base k f fd ps (lift X.K spd)) (hgd : X.A.guards = some []) (hr : Room k X.A) (tk : Takes X W) (hm : X.mg x = some (.ref f)) (hk : PySem.W.keepIn X.K (.ref f) = true)
    (hb : KBn X.K fd ps n ks g gV) (hrel : ∀ (M : Hp) (vs zs : List V) (ds es : List D), Reps X.K M vs ds → Reps X.K M zs es → Reps X.K M (gV vs zs) (gD ds es)) (ha : VA X W (e :: es) t da) (hkw : VK' X W kws tk' dk) (hg : Gl X x := by rfl)
    (hall : (backToKw pos (keywordEach kws X.env)).all (·.1.isSome) = true := by rfl) (hks : (backToKw pos (keywordEach kws X.env)).filterMap (·.1) = ks := by rfl)
    (hdb : (x == ("__debug__" : Str)) = false := by decide) (he : starEach (e :: es) X.env = (false, eval e X.env) :: starEach es X.env := by rfl)
    (hpl : ((backTo pos (starEach (e :: es) X.env)).any (·.1) || (backToKw pos (keywordEach kws X.env)).any (·.1.isNone)) = false := by rfl) :
    VE X W (.Call (.Name x p) (e :: es) kws pos) (tCallGK n ks.length (lift X.K spd) gV W t tk') (dCallK n ks.length spd gD da dk) := ⟨pe_callGK Fn hgd hr tk hm hk hb ha.run hkw.run hg hall hks hdb he hpl, fun {σV F H σ S Qd E Q} hs er h hq hx => by
  refine ha.snd hs er h (fun vs H1 ds S1 g1 r1 h1 => ?_) hx
  refine hkw.snd g1.hst (er.mono g1.same) h1 (fun zs H2 es S2 g2 r2 h2 => ?_) (hx.next g1)
  have g12 := g1.trans g2
  have r1' := r1.mono g2.same
  exact ⟨r1'.length.trans h2.1, r2.length.trans h2.2.1, F, gD ds es, S2, Qd, E, g2.hst, hrel _ _ _ _ _ r1' r2, h2.2.2, hq.next g12, fun cls a H' fs S' g' xr q => hx cls a H' fs S' (g12.trans g') xr q⟩⟩
end

/-! ### repr -/
def rRepr (K : PySem.W.Frag) : List V → Hp → VK → Prop := fun xs H Q => ∃ x d, xs = [x] ∧ Dp K H x d ∧ d.showable = true ∧ d.depth ≤ 64 ∧ d.shown.length ≤ sizeLine ∧ Q (.str d.shown) H
section
variable {X : Cx} {W : WX}
theorem dp_nodict {K : PySem.W.Frag} {H : Hp} : (∀ {v : V} {d : PyData}, Dp K H v d → d.hasDict = false) ∧ (∀ {vs : List V} {ds : List PyData}, DpAll K H vs ds → PyData.hasDictAll ds = false) := by
  refine ⟨fun {v d} => one d, fun {vs ds} => all ds⟩
where
  one : ∀ (d : PyData) {v : V}, Dp K H v d → d.hasDict = false
    | .none, _, _ => by simp [PyData.hasDict]
    | .bool _, _, _ => by simp [PyData.hasDict]
    | .int _, _, _ => by simp [PyData.hasDict]
    | .str _, _, _ => by simp [PyData.hasDict]
    | .list ds, _, .lst _ r => by simp [PyData.hasDict, all ds r]
    | .tuple ds, _, .tup _ r => by simp [PyData.hasDict, all ds r]
  all : ∀ (ds : List PyData) {vs : List V}, DpAll K H vs ds → PyData.hasDictAll ds = false
    | [], _, _ => by simp [PyData.hasDictAll]
    | d :: ds, _, .cons h r => by simp [PyData.hasDictAll, one d h, all ds r]
theorem call_reprD (hgd : X.A.guards = some []) (hu : X.A.units + 66 < cLine) : CallR X (.builtin "repr") (rRepr X.K) := fun pins s σ H xs us Q I r h => by
  obtain ⟨x, d, rfl, hd, hsh, hdep, hsz, q⟩ := h
  obtain ⟨u, rfl, ru⟩ := vals1 r
  obtain ⟨as, rd⟩ := Dp.reads I d x u hd ru
  cases hd with
  | non => cases ru; rw [PyData.shown] at q; exact PySem.P.repr_of_none ⟨.str _, H, I.tok _, ⟨_, rfl⟩, q⟩
  | bl b => cases ru; rw [PyData.shown] at q; exact PySem.P.repr_of_bool ⟨.str _, H, I.tok _, ⟨_, rfl⟩, q⟩
  | int i =>
    obtain ⟨t, rfl⟩ := ru
    rw [PyData.shown] at q
    rw [PyData.showable] at hsh
    exact PySem.P.repr_of_int (of_decide_eq_true hsh) ⟨.str _, H, I.tok _, ⟨_, rfl⟩, q⟩
  | str z =>
    obtain ⟨t, rfl⟩ := ru
    rw [PyData.shown] at q hsz
    exact PySem.P.repr_of_str ⟨.str _, H, I.tok _, ⟨_, rfl⟩, q⟩ hsz
  | lst h1 h2 =>
    cases ru
    exact repr_of_reads' rd hsh (PyData.noDict_hsm (dp_nodict.1 (.lst h1 h2))) hgd (by omega) (fun _ _ e => e) (fun h' u tk hk => ⟨.str _, H, I.kept (t' := tk) hk, ⟨u, rfl⟩, q⟩) hsz
  | tup h1 h2 =>
    cases ru
    exact repr_of_reads' rd hsh (PyData.noDict_hsm (dp_nodict.1 (.tup h1 h2))) hgd (by omega) (fun _ _ e => e) (fun h' u tk hk => ⟨.str _, H, I.kept (t' := tk) hk, ⟨u, rfl⟩, q⟩) hsz
def dRepr : RCd := fun ds S Q => match ds with
  | [x] => match toP (vw S x) with
    | some p => p.showable = true ∧ p.depth ≤ 64 ∧ p.shown.length ≤ sizeLine ∧ Q (.str p.shown) S
    | none => False
  | _ => False
theorem snd_repr : SndC X.K (rRepr X.K) dRepr := fun {xs ds F H S Qd Q} hs r h hq => by
  unfold dRepr at h; split at h
  · cases r with
    | cons r1 r2 =>
      cases r2
      split at h
      · next p ep => exact ⟨_, p, rfl, dp_vw hs r1 ep, h.1, h.2.1, h.2.2.1, hq _ H _ S (.refl hs) (.str _) h.2.2.2⟩
      · cases h
  · cases h
end

/-! ### the law's end -/
theorem notrk {s : Heap} {b : Addr} {o : Obj} {H : Hp} (h : s.get? b = some o) (n : H b = none) : (hidT s H).get? b = some o := hidT_get h n
/-- the law's promise: on the script's ints it hands back True -/
def spdLaw (n : Nat) : Spd := fun ds S Q _ => ∃ ns : List Int, ds = [.lst (ns.map D.int)] ∧ ns.length ≤ n ∧ Q (.bl true) S
theorem law_end {P : Program} {w : World} {K : PySem.W.Frag} {mg mb : Str → Option Value} {k n : Nat} {fa a : Addr} {fd : FuncData} {x : Str} {s1 : Shared} {vs : List Value} {ns : List Int}
    (kin : K.In s1.heap) (hns : s1.heap.Ns mainGlobals mg) (hb : s1.heap.Ns builtinsNs mb) (hbb : ∀ x : Str, x ≠ "__name__" → mb x = bootBuiltins x) (lim : s1.heap.NoLimit) (hgen : s1.gens = #[])
    (ha : s1.heap.get? a = some { cls := .type "list", data := .seq vs.toArray }) (hi : IntsAre vs ns) (hl : ns.length ≤ n) (hn : n ≤ sizeLine) (hr : Room k callerA)
    (Fn : ∀ base : Heap, K.In base → base.Ns mainGlobals mg → FnG P w K mg base k fa fd [x] (lift K (spdLaw n))) (bind : ∀ (s : Shared) (u : Value), BindsTo s fd ⟨[u], []⟩ [(x, u)]) :
    codeAny (model P w) callerA (.call (.ref fa) ⟨[.ref a], []⟩) (fun r s' => r = .ok (.ret (.bool true)) ∧ OldK s1.heap s'.heap ∧ s'.os = s1.os ∧ AllBare s'.gens) s1 := by
  have vi := vals_ints hi
  have lv := hi.length
  have go : ∀ H : Hp, HOk P w H s1.heap → (∀ b u, H b = some u → b = a ∧ K.lookup a = none ∧ ∃ o xs, u = .frz o (.lst xs)) → SqL K H a (ns.map V.int) →
      codeAny (model P w) callerA (.call (.ref fa) ⟨[.ref a], []⟩) (fun r s' => r = .ok (.ret (.bool true)) ∧ OldK s1.heap s'.heap ∧ s'.os = s1.os ∧ AllBare s'.gens) s1 := by
    intro H ok only sq
    have hide : ∀ {b o}, s1.heap.get? b = some o → b ≠ a ∨ K.lookup a ≠ none → (hidT s1.heap H).get? b = some o := fun {b o} e c => notrk e (by
      cases q : H b with
      | none => rfl
      | some u =>
        obtain ⟨e1, e2, _⟩ := only b u q
        exact (c.elim (fun z => z e1) fun z => z e2).elim)
    have apart : ∀ {b o} {es : Array DictEntry} {ep : Nat}, s1.heap.get? b = some o → o.data = .dict es ep → b ≠ a := fun e d z => by
      subst z
      rw [ha] at e; cases e; cases d
    have nsH : ∀ {b : Addr} {m : Str → Option Value}, s1.heap.Ns b m → (hidT s1.heap H).Ns b m := fun ⟨o, es, ep, e, d, r⟩ => ⟨o, es, ep, hide e (.inl (apart e d)), d, r⟩
    have kinH : K.In (hidT s1.heap H) := fun b o e => hide (kin b o e) (by
      by_cases z : b = a
      · subst z; exact .inr (by rw [e]; simp)
      · exact .inl z)
    obtain ⟨mc, l1, l2⟩ := lim
    have e0 : Env0 P w K mg (hidT s1.heap H) callerA [] s1 H :=
      { frames := rfl, mod := ⟨kinH, nsH hns, ⟨mb, nsH hb, hbb⟩, ⟨mc, nsH l1, l2⟩⟩, bs := fun b o e => of_hidT e, bsz := Nat.le_of_eq (hidT_size _ _), funs := trivial, frf := fun b z => (List.not_mem_nil z).elim, hok := ok, bare := .of_eq hgen }
    have F := Fn _ kinH (nsH hns)
    refine codeAny_mono (F.run callerA [] s1 H ⟨[.ref a], []⟩ [.ref a] [.ref a] (fun v _ => v = .bl true) (fun _ _ _ => False) rfl hr e0 (bind s1 (.ref a)) (.cons rfl .nil) ?_) fun r s' z => ?_
    · refine ⟨noH, [.lst (ns.map D.int)], (fun _ => none), (fun d _ => d = .bl true), XF, ⟨(fun b o q => nomatch q), fun b u q => nomatch q⟩, .cons (.lst ?_ (reps_of_ints ns)) .nil, ⟨ns, rfl, hl, rfl⟩, ?_, fun _ _ _ _ _ _ _ q => q⟩
      · have em : mask noH (fun _ => none) H = H := by
          funext b; exact mask_none rfl rfl
        rw [em]; exact sq
      · intro v H' d S' g r q
        subst q
        cases r; rfl
    · rcases r with e | (_ | _ | _ | u)
      · obtain ⟨_, _, _, _, _, _, _, _, _, _, _, _, q⟩ := z
        exact q.elim
      · exact z.elim
      · exact z.elim
      · exact z.elim
      · obtain ⟨v, H', os, bare, un, ok', rv, q⟩ := z
        subst q
        obtain rfl : u = Value.bool true := rv
        refine ⟨rfl, OldK.of_keep fun b o e => ?_, os, bare⟩
        cases q : H b with
        | none => exact un.keep b o e q (fun z => (List.not_mem_nil z).elim) (fun z => (List.not_mem_nil z).elim)
        | some u =>
          obtain ⟨_, _, ob, xs, rfl⟩ := only b u q
          have k1 := (ok b _ q).1
          have k2 := (ok' b _ (un.frzs b ob _ q)).1
          rw [e] at k1; cases k1
          exact k2
  cases hk : K.lookup a with
  | some o =>
    have e := kin a o hk
    rw [ha] at e; cases e
    exact go noH (fun b u q => nomatch q) (fun b u q => nomatch q) (.inr ⟨_, vs.toArray, _, hk, rfl, rfl, rfl, by rw [List.size_toArray, lv]; exact Nat.le_trans hl hn, by simpa using vi⟩)
  | none =>
    refine go (upd noH a (.frz { cls := .type "list", data := .seq vs.toArray } (.lst (ns.map V.int)))) (fun b u q => ?_) (fun b u q => ?_) (.inl (.inr ⟨_, upd_same⟩))
    · by_cases z : b = a
      · subst z
        rw [upd_same] at q; cases q
        exact ⟨ha, by rw [List.length_map]; exact Nat.le_trans hl hn, vs, _, vi, ha⟩
      · rw [upd_ne z] at q; cases q
    · by_cases z : b = a
      · subst z
        rw [upd_same] at q; cases q
        exact ⟨rfl, hk, _, _, rfl⟩
      · rw [upd_ne z] at q; cases q
/-- the goal that k_head leaves -/
theorem walkG {l : PySem.W.OpenLaw} {n k : Nat} {q : Program} {loose : List Str} {XP : (Str → Option Value) → Heap → Prop} {YP : World → Heap → Prop} {d : DefRec} {K : Params → PySem.W.Frag} {x : Str}
    (hn : l.most = some n) (hn2 : n ≤ sizeLine) (hdf : d.params.defaults = []) (hr : Room k callerA) (hY : ∀ (w : World) (h : Heap), YP w h → (K w.params).In h)
    (F : ∀ (w : World) (mg : Str → Option Value) (fa : Addr) (h : Heap), (K w.params).In h → h.Ns mainGlobals mg → mg d.name = some (.ref fa) →
      ∃ fd : FuncData, (∀ (s : Shared) (u : Value), BindsTo s fd ⟨[u], []⟩ [(x, u)]) ∧ ∀ base : Heap, (K w.params).In base → base.Ns mainGlobals mg → FnG l.prog w (K w.params) mg base k fa fd [x] (lift (K w.params) (spdLaw n))) :
    PySem.W.WalkO q loose XP YP l.row.toRowW d [] (fun f vs => PySem.call f vs) := Att.attach_call hn hdf fun w s₀ s₁ mg mb fa o pm cd doc a vs ns G Y ho hd hcd hmg hobj hints hlen hg => by
  have kin := hY w _ Y
  obtain ⟨fd, hb, hF⟩ := F w mg fa _ kin G.T.g hmg
  exact law_end kin G.T.g G.T.b G.T.builtins G.T.nolimit hg hobj hints hlen hn2 hr hF hb
end VL

/-! VL: own exceptions. -/
namespace VL
open PySem PySem.Spec PyProof.Rows L2

/-! ### P.__init__(self, ..), P an own class above, without an __init__ of its own -/
structure BaseK (K : PySem.W.Frag) (P : Addr) : Prop where
  rd : PySem.W.readsIn K P (.type "type") = true
  ga : PySem.W.specialIn K (.ref P) "__getattribute__" = some (some (.builtin "type.__getattribute__"))
  at_ : PySem.W.findCls K (.ref P) (.type "type") "__init__" = some (.val (.builtin "ValueError.__init__"))
section
variable {X : Cx} {x : Str} {P : Addr} {e : Expr} {es : List Expr} {ta : TA} {p1 p2 pos : Pos}
theorem pe_pinit {pl : Sem Bool} (B : BaseK X.K P) (hg : Gl X x) (hm : X.mg x = some (.ref P)) (ha : PA X (e :: es) ta) (hdb : (x == ("__debug__" : Str)) = false := by decide)
    (hc : eval (.Call (.Attribute (.Name x p1) "__init__" p2) (e :: es) [] pos) X.env = (do
      let ov ← eval (.Name x p1) X.env
      standAt p2.atName
      let (f, first) ← holding [ov] (getMethod ov "__init__" pl)
      callWith pos f first (backTo pos (starEach (e :: es) X.env)) (backToKw pos (keywordEach [] X.env))) := by rfl)
    (he : starEach (e :: es) X.env = (false, eval e X.env) :: starEach es X.env := by rfl) (hpl : (backTo pos (starEach es X.env)).any (·.1) = false := by rfl) :
    PE X (.Call (.Attribute (.Name x p1) "__init__" p2) (e :: es) [] pos) (tVeI X.K ta) := by
  refine ⟨fun pins s σ H Q I h => ?_⟩
  refine PySem.W.methodCall_KW (ld_glob I hg hm ?_ hdb) hc
  refine PySem.W.method_cls I.kIn B.ga (PySem.W.cls_value I.kIn B.rd B.at_ (by decide +kernel) ?_)
  show wpAny _ _ (callWith pos (Value.builtin "ValueError.__init__") [] (backTo pos (starEach (e :: es) X.env)) []) _ _ _
  refine PyProof.Rows.callWith_method1 (thn (ha.run pos pins _ σ H _ (I.tok _) h) fun us s1 hh => ?_) he hpl
  obtain ⟨vs, H1, I1, r1, a, C, ws, ev, hl, T, ea, q⟩ := hh
  subst ev
  cases r1 with
  | cons ra rw' =>
    cases ra
    refine oinit_ok T I1 ea ?_ fun s' J => ⟨.non, H1, J, rfl, q⟩
    rw [← Paired.length rw', sizeLine_eq]
    omega
end

/-! ### the __init__ of such a class, and the making -/
def spInit (K : PySem.W.Frag) (f : Str) : Sp := fun vs H Q _ => ∃ (a C : Addr) (v : V), vs = [.ref a, v] ∧ OexC K C ∧ PySem.W.findIn K (.ref C) f = some none ∧ H a = some (exo a C none) ∧
  ∀ dx, H dx = none → dx ≠ a → Q .non (upd (upd H dx (exd dx [(f, v)])) a (exo a C (some dx)))
def tInit (K : PySem.W.Frag) (f z : Str) : TS := tSeq (tDrop (tVeI K (tCons (tVar 0) (tCons (tC (.str z)) tNil)))) (tOst K f (tVar 1) (tVar 0))
def tInit' (K : PySem.W.Frag) (f z : Str) : TS := tSeq (tDrop (tVeI K (tCons (tVar 0) (tCons (tC (.str z)) tNil)))) (tOst K f (tVar 0) (tVar 1))
section
variable {P : Program} {w : World} {K : PySem.W.Frag} {mg : Str → Option Value} {base : Heap}
theorem init_ok {x qual f z p0 p1 : Str} {params : Arguments} {body : List Stmt} {scope : Scope} {fa : Addr} {fd : FuncData} {k : Nat} (Fd : FunD K x qual params body scope [] [] fa fd) (T : FnScope [p0, p1] [p0, p1] scope)
    (hb : ∀ (cdv : Value) (A : Around) (outer : List Env) (s : Shared) (H : Hp) (E : XK), A.guards = some [] → PSs (cxOf (L2.CX P w) P w K mg base [p0, p1] qual scope fa cdv A outer s H E) body (tInit' K f z)) : FnG P w K mg base (k + 1) fa fd [p0, p1] (spInit K f) := by
  obtain ⟨oc, od, dV, kV, doc, pm, an, cdv, ct, osl, rfl, lk, hcd, _, _⟩ := Fd.ex
  refine fnG_of lk hcd T (fun vs H Q E ⟨a, C, v, e, _⟩ => by rw [e]; rfl) fun A outer s H vs Q E hgd hr h => ⟨_, hb cdv A outer s H E hgd, ?_⟩
  obtain ⟨a, C, v, rfl, T1, hno, ea, q⟩ := h
  refine ⟨_, rfl, ?_⟩
  refine ⟨a, C, [.str z], rfl, Nat.succ_le_succ (Nat.zero_le 999), T1, ea, ?_⟩
  exact ⟨_, rfl, _, rfl, a, C, rfl, T1, hno, .inl ⟨ea, q⟩⟩
end
/-- C(e): what reading e gives lies in the field f -/
def tMkR (C : Addr) (f : Str) (te : TE) : L2.St → Hp → XK → Prop := fun σ H Q => tCons te tNil σ H fun vs H1 => ∃ v, vs = [v] ∧ ∀ dx, H1 dx = none → Q (.ref C) (some dx) (upd H1 dx (.xd [(f, v)]))
/-- what the written part says of such a class and its __init__ -/
structure OwnK (K : PySem.W.Frag) (mg : Str → Option Value) (x f : Str) (C fI : Addr) : Prop where
  gC : mg x = some (.ref C)
  T : OexC K C
  no : PySem.W.findIn K (.ref C) f = some none
  iC : PySem.W.findIn K (.ref C) "__init__" = some (some (.ref fI))
  tI : PySem.W.typeIn K (.ref fI) = some (.type "function")
section
variable {X : Cx} {W : WX} {x f : Str} {C fI : Addr} {fd : FuncData} {ps : List Str} {e : Expr} {te : TE} {de : TEd} {p pos pos2 : Pos} {k : Nat}
theorem pmk_ownG (O : OwnK X.K X.mg x f C fI) (Fn : FnG X.prog X.w X.K X.mg X.base k fI fd ps (spInit X.K f)) (hgd : X.A.guards = some []) (hr : Room (k + 1) X.A) (hb : Binds X.K fd ps []) (ha : PA X [e] (tCons te tNil)) (hg : Gl X x)
    (hdb : (x == ("__debug__" : Str)) = false := by decide) (hs : starEach [e] X.env = (false, eval e X.env) :: starEach [] X.env := by rfl) (hpl : (backTo pos (starEach [] X.env)).any (·.1) = false := by rfl) :
    PMk X (.Call (.Name x p) [e] [] pos) (tMkR C f te) := by
  intro pins s σ H Q I h
  obtain ⟨nm, q, N, bs, bm, sn, sub, ab, col, dd, k0, k1, k2, k3, k5, hC, hbm⟩ := O.T.cls
  refine wpAny_Call_Name_kw (ld_glob I hg O.gC ?_ hdb)
  refine PySem.W.callWith_K (h₀ := X.base) I.ok.mod.kin O.T.kC (thn (ha.run pos pins s σ H _ I h) fun us s1 hh => ?_) hs hpl
  obtain ⟨vs, H1, I1, r1, v, rfl, q1⟩ := hh
  refine ⟨I1.kIn, ?_⟩
  show wpAny _ _ (call (.ref C) us) _ _ _
  obtain ⟨hp, g, dr, tk, os⟩ := s1
  have hsz : hp.objs.size ≤ hp.objs.size + 1 := Nat.le_succ _
  have hn : H1 (hp.objs.size + 1) = none := I1.hok.fresh hsz
  have old : ∀ b o, hp.get? b = some o → ((hp.push (PySem.W.kdv_tup us)).push (PySem.HandSPX.excO C hp.objs.size)).get? b = some o := fun b o z => Heap.get?_push_of_some _ (Heap.get?_push_of_some _ z)
  have there : ((hp.push (PySem.W.kdv_tup us)).push (PySem.HandSPX.excO C hp.objs.size)).get? (hp.objs.size + 1) = some (PySem.HandSPX.excO C hp.objs.size) := by heap_get
  have I2 : Inv X pins σ (upd H1 (hp.objs.size + 1) (exo (hp.objs.size + 1) C none)) ⟨(hp.push (PySem.W.kdv_tup us)).push (PySem.HandSPX.excO C hp.objs.size), g, dr, tk, os⟩ :=
    I1.laid (t' := tk) (a := hp.objs.size + 1) (o := exo (hp.objs.size + 1) C none) old hsz (exo_ok there)
  have r2 : Vals [V.ref (hp.objs.size + 1), v] (Value.ref (hp.objs.size + 1) :: us) := .cons rfl r1
  let a := hp.objs.size + 1
  have hsp : spInit X.K f [V.ref a, v] (upd H1 a (exo a C none)) (fun v' H2 => v' = .non ∧ ∃ (d : Addr) (fs : List (Str × V)), H2 a = some (exo a C (some d)) ∧ H2 d = some (exd d fs) ∧ H1 d = none ∧ Q (.ref C) (some d) (upd (del H2 a) d (.xd fs))) (fun _ _ _ => False) := by
    refine ⟨a, C, v, rfl, O.T, O.no, upd_same, fun dx hd hne => ⟨rfl, dx, [(f, v)], upd_same, by rw [upd_ne hne, upd_same], by rw [upd_ne hne] at hd; exact hd, ?_⟩⟩
    rw [upd_ne hne] at hd
    have ee : upd (del (upd (upd (upd H1 a (exo a C none)) dx (exd dx [(f, v)])) a (exo a C (some dx))) a) dx (.xd [(f, v)]) = upd H1 dx (.xd [(f, v)]) := by
      funext b
      by_cases h1 : b = dx
      · subst h1; rw [upd_same, upd_same]
      · rw [upd_ne h1, upd_ne h1]
        by_cases h2 : b = a
        · subst h2; rw [del_same, hn]
        · rw [del_ne h2, upd_ne h2, upd_ne h1, upd_ne h2]
    rw [ee]; exact q1 dx hd
  have hl : (Value.ref a :: us ++ []).length = ps.length := by
    have e1 := r2.length
    rw [Fn.len _ _ _ _ hsp] at e1
    rw [List.append_nil]; exact e1.symm
  have hus : us.length ≤ sizeLine := by
    rw [← Paired.length r1, sizeLine_eq]; exact Nat.succ_le_succ (Nat.zero_le _)
  refine wpAny_call (PySem.HandSPX.call_own F.excBase_ValueError (fun Y => PySem.HandSPX.refsVE_contains Y bm hbm) (I1.kIn _ _ hC) (PySem.W.looks_findIn I1.kIn O.iC) (fun self => PySem.W.bind_fn I1.kIn self O.tI) hus
    (codeAny_mono (Fn.run _ X.stack _ _ ⟨Value.ref a :: us, []⟩ (Value.ref a :: us) _ _ (fun _ _ _ => False) hgd (hr.make C us []) (I2.env0.make C us []) (by have z := hb _ (Value.ref a :: us) I2.kIn hl; rwa [List.append_nil] at z) r2 hsp) fun r s' hq' => ?_))
  rcases r with er | (_ | _ | _ | u)
  · obtain ⟨_, _, _, _, _, _, _, _, _, _, _, _, z⟩ := hq'
    exact z.elim
  · exact hq'.elim
  · exact hq'.elim
  · exact hq'.elim
  · obtain ⟨v', H2, os2, bare2, un2, hok2, rv, ev, d, fs, ea, ed, hd1, q2⟩ := hq'
    subst ev
    obtain ⟨h2, g2, d2, t2, os'⟩ := s'
    exact ⟨rv, mk_end (raises_own O.T.exC O.T.tyC) I1 hsz old un2 hok2 os2 bare2 ea ed hd1 q2⟩
/-- raise C(e) -/
def dRaiseO (C : Addr) (f : Str) (de : TEd) : TSd := fun D σ S => de σ S (fun d S1 => D.ex σ (.ref C) [(f, d)] S1) (D.ex σ)
theorem vs_raiseO (hc : X.calm = true) (tk : Takes X W) (O : OwnK X.K X.mg x f C fI) (Fn : FnG X.prog X.w X.K X.mg X.base k fI fd ps (spInit X.K f)) (hgd : X.A.guards = some []) (hr : Room (k + 1) X.A) (hb : Binds X.K fd ps []) (he : VE X W e te de) (hg : Gl X x := by rfl)
    (hdb : (x == ("__debug__" : Str)) = false := by decide) (hs : starEach [e] X.env = (false, eval e X.env) :: starEach [] X.env := by rfl) (hpl : (backTo pos (starEach [] X.env)).any (·.1) = false := by rfl) :
    VS X W (.Raise (some (.Call (.Name x p) [e] [] pos)) none pos2) (fun _ σ H => tMkR C f te σ H fun cls d H' => W cls d σ H') (dRaiseO C f de) :=
  ⟨ps_raise hc tk (pmk_ownG O Fn hgd hr hb (pa_cons he.run pa_nil hs) hg hdb hs hpl), fun {σV F H σ S Dd D} hs er h l =>
    he.snd (Q := fun v H1 => ∃ v', [v] = [v'] ∧ ∀ dx, H1 dx = none → W (.ref C) (some dx) σV (upd H1 dx (.xd [(f, v')]))) hs er h (fun v H1 d S1 g r h1 => ⟨v, rfl, fun dx hd => by
      have gn : Good X.K F H1 S1 (upd H1 dx (.xd [(f, v)])) S1 := ⟨hst_new g.hst hd, same_new g.hst hd⟩
      exact l.exs hs er (.ref C) (some dx) _ [(f, d)] S1 (g.trans gn) ⟨[(f, v)], mask_new g.hst hd, .cons (r.mono gn.same) .nil⟩ h1⟩) (l.exs hs er)⟩
end
end VL

/-! VL: try, and the exception that a clause holds. -/
namespace VL
open PySem PySem.Spec PyProof.Rows L2

section
variable {X : Cx} {W : WX} {P : Prop} {st : Stmt} {sts : List Stmt} {e : Expr} {t : TS} {td : TSd} {te : TE} {de : TEd}
/-- where P must hold -/
theorem vs_when (h : P → VS X W st t td) : VS X W st (fun D σ H => P ∧ t D σ H) (fun D σ S => P ∧ td D σ S) := ⟨⟨fun pins s σ H D I q => (h q.1).run.run pins s σ H D I q.2⟩, fun hs er q l => ⟨q.1, (h q.1).snd hs er q.2 l⟩⟩
theorem ve_when (h : P → VE X W e te de) : VE X W e (fun σ H Q => P ∧ te σ H Q) (fun σ S Q E => P ∧ de σ S Q E) := ⟨⟨fun pins s σ H Q I q => (h q.1).run.run pins s σ H Q I q.2⟩, fun hs er q lq lx => ⟨q.1, (h q.1).snd hs er q.2 lq lx⟩⟩
end

/-! ### what is read off the exception -/
def dXf (a : Addr) (cls : Value) (d : Option Addr) (C : Addr) (f : Str) (de : TEd) : TEd := fun σ S Q E => de σ S (fun x S1 => match x with
  | .exc a' d' c' fs => a' = a ∧ d' = d ∧ cls = .ref C ∧ (match fs.lookup f with
    | some v => Q v S1
    | none => False)
  | _ => False) E
section
variable {X : Cx} {W : WX} {a C : Addr} {oe : Obj} {cls : Value} {d : Option Addr} {pn : List (Addr × Obj)} {e : Expr} {te : TE} {de : TEd} {pos : Pos} {n : Str}
theorem ve_xf (T : XfC X.K C) (hno : PySem.W.findIn X.K (.ref C) n = some none) (hz : Zc cls d oe) (hf : ∃ vs, oe.data = .fields vs) (he : VE (X.suite a ((a, oe) :: pn)) W e te de) (hb : attributeBase e n X.env (eval e X.env) = eval e X.env := by rfl) :
    VE (X.suite a ((a, oe) :: pn)) W (.Attribute e n pos) (tXf a cls d C n te) (dXf a cls d C n de) := ⟨pe_xf T hno hz hf he.run hb, fun {σV F H σ S Qd E Q} hs er h hq hx =>
  he.snd hs er h (fun v H1 x S1 g r h1 => by
    split at h1
    · next a' d' c' fs =>
      obtain ⟨rfl, rfl, rfl, h1⟩ := h1
      cases r with
      | exn => simp at h1
      | exs _ _ hm rf =>
        split at h1
        · next v' ev =>
          obtain ⟨u, h2, h3⟩ := rf.lookup.1 v' ev
          exact ⟨rfl, rfl, _, _, u, rfl, mask_le _ _ hm, h2, hq u H1 v' S1 g h3 h1⟩
        · cases h1
    · cases h1) hx⟩
end

/-! isinstance of it -/
section
variable {K : PySem.W.Frag} {prog : Program} {w : World} {A : Around} {E : Value → Shared → Prop} {s : Shared} {x D : Addr} {ox : Obj} {od : Option Obj}
theorem own_class {Q : Option Value → Shared → Prop} (c : ExcC K D) (X : K.In s.heap) (I : PySem.W.InstAt s.heap x ox D od) (h : Q (some (.ref D)) { s with toks := s.toks + 1 }) : wpAny (model prog w) A (getAttr? (.ref x) "__class__") Q E s := by
  have kc : (PySem.W.clsIn K D).isSome = true := by
    obtain ⟨cd, e, _⟩ := PySem.W.any_some c.hd
    rw [e]; rfl
  have seen : PySem.W.findObj K D od "__class__" = some (.bind (.builtin "getset_descriptor.__get__") (.builtin "object.__class__")) := by
    obtain ⟨cd, e⟩ := Option.isSome_iff_exists.mp kc
    unfold PySem.W.findObj
    rw [e, Option.bind_some, c.ha, Option.bind_some]
    simp [c.hn, c.ht]
  obtain ⟨hp, g, d, t, os⟩ := s
  have l0 := I.type (M := model prog w)
  have l1 := PySem.W.looks_findIn (M := model prog w) X c.hg
  have l2 := PySem.W.looks_findIn (M := model prog w) X c.hk
  have l3 := PySem.W.looks_find (M := model prog w) X I seen
  have below : PySem.W.Looks (model prog w) hp (isInstance (.ref x) (.type "BaseException")) true := l0.andThen (PySem.W.looks_subIn X c.hs)
  have n1 : (Value.builtin "BaseException.__getattribute__" == Value.builtin "object.__getattribute__") = false := by decide +kernel
  have n2 : (onTheHeap (Value.ref D) && Value.builtin "BaseException.__getattribute__" == Value.builtin "object.__getattribute__") = false := by rw [n1]; rfl
  have n3 : (false && onTheHeap (Value.builtin "BaseException.__getattribute__")) = false := rfl
  unfold getAttr? getAttrBy? getAttrBy
  refine wpAny_bind (wpAny_mkText (wpAny_bind (wpAny_attempt (wpAny_holding (wpAny_bind (l0.at (wpAny_bind (l1.at ?_))))))))
  show wpAny _ _ (if (onTheHeap (Value.ref D) && Value.builtin "BaseException.__getattribute__" == Value.builtin "object.__getattribute__") = true then _ else _) _ _ _
  rw [n2, if_neg Bool.false_ne_true]
  unfold getAttrByItsOwn hookBefore
  refine wpAny_bind ?_
  rw [if_pos (show onTheHeap (Value.ref D) = true from rfl)]
  refine l2.at (wpAny_bind (wpAny_attempt (wpAny_holding ?_)))
  unfold callGetattribute
  rw [n3, if_neg Bool.false_ne_true]
  unfold boundAndCalled
  rw [PySem.F.excAttr_ValueError.ga.bind (.ref x)]
  refine wpAny_bind (wpAny_pure ?_)
  show wpAny _ _ (call (.builtin "BaseException.__getattribute__") [.ref x, .str "__class__" t]) _ _ _
  refine wpAny_call (codeAny_call_builtin PySem.F.excAttr_ValueError.ga.plain PySem.F.entry_bexc_ga ?_)
  refine @PySem.W.check_slot (model prog w) _ _ ⟨hp, g, d, t + 1, os⟩ "BaseException.__getattribute__" "BaseException" "__getattribute__" (.ref x) [.str "__class__" t] [] _ (by decide +kernel) (by decide +kernel) below (PySem.F.args_bexc_ga (.ref x) (.str "__class__" t)) ?_
  unfold Builtin.«object.__getattribute__»
  refine wpAny_bind (wpAny_of_eq (a := ((Value.ref x : Value), [Value.str "__class__" t])) (by first | rfl | (simp only [slotArgs]; rfl)) ?_)
  refine wpAny_bind (wpAny_pure (wpAny_bind (l0.at (wpAny_bind (l3.at ?_)))))
  show wpAny _ _ (holding [Value.builtin "object.__class__"] (call (.builtin "getset_descriptor.__get__") [.builtin "object.__class__", .ref x, .ref D]) >>= ret) _ _ _
  refine wpAny_bind (wpAny_holding (wpAny_call (PySem.W.class_get (s := ⟨hp, g, d, t + 1, os⟩) (ox := ox) (od := od) X I c.hm ?_)))
  refine wpAny_pure ?_
  show wpAny _ _ (handedOut (.ref D)) _ _ _
  rw [PySem.W.handedOut_of (v := .ref D) rfl]
  first
    | exact wpAny_pure (wpAny_pure h)
    | exact wpAny_pure h
    | exact wpAny_pure (wpAny_bind (wpAny_pure (wpAny_pure h)))
theorem own_kitx (c : ExcC K D) : PySem.W.KitX K (.ref x) (.ref D) (fun h => ∃ od, PySem.W.InstAt h x ox D od) := by
  obtain ⟨cd, e0, _⟩ := PySem.W.any_some c.hd
  refine ⟨fun _ _ _ ⟨_, I⟩ => I.type, fun _ _ X _ => ?_, fun h tp dd its n sl X htp => ?_, fun X ⟨od, I⟩ k => own_class c X I k⟩
  · unfold PySem.W.clsIn at e0
    split at e0
    · next ho =>
      intro A' Q' E' s' k q
      unfold isType loadHead
      exact wpAny_bind (wpAny_loadPart (k _ _ (X _ _ ho)) (wpAny_pure q))
    · cases e0
  · refine Bool.eq_false_iff.mpr fun q => ?_
    obtain rfl : D = tp := Value.ref.inj (beq_iff_eq.mp q)
    unfold PySem.W.clsIn at e0
    split at e0
    · next ho => have z := (X _ _ ho).symm.trans htp; cases z
    · cases e0
end
/-! isinstance(e, C): kit tells of two own classes -/
section
variable {X : Cx} {W : WX} {a : Addr} {oe : Obj} {cls : Value} {d : Option Addr} {pn : List (Addr × Obj)} {kit : Addr → Addr → Option Bool}
def rIsX' (K : PySem.W.Frag) (a : Addr) (cls : Value) (d : Option Addr) (kit : Addr → Addr → Option Bool) : List V → Hp → VK → Prop := fun xs H Q => ∃ (D c : Addr) (b : Bool), xs = [.ref a, .ref c] ∧ cls = .ref D ∧ kit D c = some b ∧ (d = none ∨ ∃ dd fs, d = some dd ∧ H dd = some (.xd fs)) ∧ Q (.bl b) H
theorem call_isX (hk : ∀ D c b, kit D c = some b → ExcC X.K D ∧ PySem.W.kitOne X.K (.ref D) (.ref c) = some b) (hz : Zc cls d oe) (hf : ∃ vs, oe.data = .fields vs) : CallR (X.suite a ((a, oe) :: pn)) (.builtin "isinstance") (rIsX' X.K a cls d kit) := by
  intro pins s σ H xs us Q I r h
  obtain ⟨D, c, b, rfl, rfl, e, hd, q⟩ := h
  obtain ⟨C, e⟩ := hk D c b e
  cases r with
  | cons rx rr =>
    cases rr with
    | cons rt rr =>
      cases rr
      cases rx
      cases rt
      obtain ⟨hget, _⟩ := I.pin (a, oe) (List.mem_append.mpr (.inl List.mem_cons_self))
      obtain ⟨vs, hv⟩ := hf
      have J : ∃ od, PySem.W.InstAt s.heap a oe D od := by
        obtain ⟨oc, odd, oda, osl⟩ := oe
        obtain ⟨h1, h2⟩ := hz
        dsimp only at h1 h2 hv
        subst h1 h2 hv
        rcases hd with rfl | ⟨dd, fs, rfl, ha⟩
        · exact ⟨none, hget, rfl, rfl, trivial⟩
        · have hx : ObjOk X.prog X.w H s.heap dd (.xd fs) := I.hok dd _ ha
          obtain ⟨mA, hns, _⟩ := hx
          obtain ⟨od, ho, _⟩ := lookIn_ns hns
          exact ⟨some od, hget, rfl, rfl, ho⟩
      exact PySem.W.kia_one (own_kitx C) I.kIn J e (fun z => nomatch z) fun tk => ⟨.bl b, H, I.kept (t' := tk) fun _ _ z => z, rfl, q⟩
def dIsX (a : Addr) (cls : Value) (d : Option Addr) (kit : Addr → Addr → Option Bool) : RCd := fun ds S Q => match ds with
  | [.exc a' d' _ _, .ref c] => a' = a ∧ d' = d ∧ (match cls with
    | .ref D => match kit D c with
      | some b => Q (.bl b) S
      | none => False
    | _ => False)
  | _ => False
theorem snd_isX : SndC X.K (rIsX' X.K a cls d kit) (dIsX a cls d kit) := fun {xs ds F H S Qd Q} hs r h hq => by
  unfold dIsX at h; split at h
  · next a' d' c' fs c =>
    obtain ⟨rfl, rfl, h⟩ := h
    cases r with
    | cons r1 r2 =>
      cases r2 with
      | cons r2 r3 =>
        cases r3
        cases r2
        split at h
        · next D =>
          split at h
          · next b eb =>
            cases r1 with
            | exn => exact ⟨D, c, b, rfl, rfl, eb, .inl rfl, hq _ H _ S (.refl hs) (.bl b) h⟩
            | exs _ _ hm rf => exact ⟨D, c, b, rfl, rfl, eb, .inr ⟨_, _, rfl, mask_le _ _ hm⟩, hq _ H _ S (.refl hs) (.bl b) h⟩
          · cases h
        · cases h
  · cases h
end

/-! ### try: .. except C as n: .. -/
def dTryAs (sub : Value → Option Bool) (i : Nat) (tb : TSd) (ts : Addr → Value → Option Addr → TSd) : TSd := fun D σ S =>
  tb { D with ex := fun σ1 cls fs S1 => match sub cls with
    | some true => ∀ a d, S1 a = none → ts a cls d { nx := fun σ2 S2 => D.nx (σ2.set i none) S2, rt := D.rt, bk := fun σ2 S2 => D.bk (σ2.set i none) S2, ct := fun σ2 S2 => D.ct (σ2.set i none) S2 } (σ1.set i (some (.exc a d cls fs))) S1
    | some false => D.ex σ1 cls fs S1
    | none => False } σ S
theorem xrep_exc {K : PySem.W.Frag} {M : Hp} {a : Addr} {cls : Value} {d : Option Addr} {fs : List (Str × D)} (h : XRep K M d fs) : Rep K M (.ref a) (.exc a d cls fs) := by
  cases d with
  | none => have z : fs = [] := h; subst z; exact .exn a cls
  | some dd => obtain ⟨fv, h1, h2⟩ := h; exact .exs a cls h1 h2
section
variable {X : Cx} {x n : Str} {c : Value} {i : Nat} {body suite : List Stmt} {b₀ : Stmt} {np pos pos' : Pos} {tb : WX → TS} {tbd : TSd} {ts : Addr → Value → Option Addr → TS} {tsd : Addr → Value → Option Addr → TSd} {W : WX} {sub : Value → Option Bool}
theorem vs_try_as (hs : X.stack = X.env :: X.outer) (hf : X.env.frame = some X.env.locals) (hN : X.N.Nodup) (hi : X.N[i]? = some n) (hln : X.env.kindOf n = some .local) (hc : Names X x c) (tk : Takes X W)
    (hsub : ∀ cls b, sub cls = some b → PySem.W.exmOne X.K cls c = some b)
    (hb : ∀ (W' : WX) (pn : List (Addr × Obj)) (xe : Value → Shared → Prop), Takes (X.tr pn xe) W' → PassesOwn (model X.prog X.w) X.A X.env xe → VSs (X.tr pn xe) W' body (tb W') tbd)
    (hbs : ∀ W' : WX, SndS X.K W' (tb W') tbd)
    (hsu : ∀ (a : Addr) (oe : Obj) (cls : Value) (d : Option Addr) (pn : List (Addr × Obj)), Zc cls d oe → (∃ vs, oe.data = .fields vs) → VSs (X.suite a ((a, oe) :: pn)) WF (b₀ :: suite) (ts a cls d) (tsd a cls d)) :
    VS X W (.Try body [.ExceptHandler (some (.Name x np)) (some n) (b₀ :: suite) pos'] [] [] pos) (fun D σ H => tb (wAs X.K c i ts W D) D σ H) (dTryAs sub i tbd tsd) :=
  ⟨ps_try_as hs hf hN hi hln hc tk (fun W' pn xe a b => (hb W' pn xe a b).run) (fun a oe cls d pn h1 h2 => (hsu a oe cls d pn h1 h2).run), fun {σV F H σ S Dd D} hst er h l => by
    refine hbs _ hst er h ⟨l.nx, l.rt, l.bk, l.ct, ?_⟩
    intro σV' H' σ' S' g er' cls d H2 fs S2 g2 xr hE
    have gg := g.trans g2
    dsimp only at hE
    split at hE
    · next e =>
      refine ⟨true, hsub _ _ e, fun _ a ha => ?_, fun z => nomatch z⟩
      have ll := l.next gg
      refine (hsu a { cls := cls, dict := d, data := .fields #[] } cls d [] ⟨rfl, rfl⟩ ⟨_, rfl⟩).snd g2.hst ((er'.mono g2.same).set (xrep_exc xr)) (hE a d (g2.hst.free ha)) ⟨fun a b c d g3 er3 h3 => ll.nx _ _ _ _ g3 er3.setNone h3, ll.rt, fun a b c d g3 er3 h3 => ll.bk _ _ _ _ g3 er3.setNone h3, fun a b c d g3 er3 h3 => ll.ct _ _ _ _ g3 er3.setNone h3, fun _ _ _ _ _ _ _ _ _ _ _ _ _ z => z.elim⟩
    · next e => exact ⟨false, hsub _ _ e, fun z => (nomatch z), fun _ => (l.next g).exs g.hst er' cls d H2 fs S2 g2 xr hE⟩
    · cases hE⟩
end
end VL

/-! VL: defs ready to be called; what the head tells; the end over a head. -/
namespace VL
open PySem PySem.Spec PyProof.Rows L2

/-! ### ready defs -/
structure Rdy (P : Program) (w : World) (K : PySem.W.Frag) (mg : Str → Option Value) (base : Heap) (k : Nat) (x : Str) (dvs : List V) (dds : List D) (spd : Spd) : Prop where
  ex : ∃ (f : Addr) (fd : FuncData) (ps : List Str) (ds0 : List Value), FnG P w K mg base k f fd ps (lift K spd) ∧ mg x = some (.ref f) ∧ PySem.W.keepIn K (.ref f) = true ∧ Binds K fd ps ds0 ∧ Vals dvs ds0 ∧ ∀ M : Hp, Reps K M dvs dds
/-- with keywords: all that follow the n positional values, in their order -/
structure RdyK (P : Program) (w : World) (K : PySem.W.Frag) (mg : Str → Option Value) (base : Heap) (k : Nat) (x : Str) (n : Nat) (ks : List Str) (gV : List V → List V → List V) (gD : List D → List D → List D) (spd : Spd) : Prop where
  ex : ∃ (f : Addr) (fd : FuncData) (ps : List Str) (g : List Value → List Value → List Value), FnG P w K mg base k f fd ps (lift K spd) ∧ mg x = some (.ref f) ∧ PySem.W.keepIn K (.ref f) = true ∧ KBn K fd ps n ks g gV
  rel : ∀ (M : Hp) (vs zs : List V) (ds es : List D), Reps K M vs ds → Reps K M zs es → Reps K M (gV vs zs) (gD ds es)
section
variable {P : Program} {w : World} {K : PySem.W.Frag} {mg : Str → Option Value} {base : Heap} {j k : Nat} {x : Str} {dvs : List V} {dds : List D} {spd : Spd} {n : Nat} {ks : List Str} {gV : List V → List V → List V} {gD : List D → List D → List D}
theorem Rdy.mono (h : Rdy P w K mg base j x dvs dds spd) (le : j ≤ k) : Rdy P w K mg base k x dvs dds spd := by
  obtain ⟨f, fd, ps, ds0, a, r⟩ := h.ex
  exact ⟨f, fd, ps, ds0, a.mono le, r⟩
theorem RdyK.mono (h : RdyK P w K mg base j x n ks gV gD spd) (le : j ≤ k) : RdyK P w K mg base k x n ks gV gD spd := by
  obtain ⟨f, fd, ps, g, a, r⟩ := h.ex
  exact ⟨⟨f, fd, ps, g, a.mono le, r⟩, h.rel⟩
end
theorem binds_nil {K : PySem.W.Frag} {fd : FuncData} {ps : List Str} (h : ∀ us : List Value, us.length = ps.length → ∀ s : Shared, BindsTo s fd ⟨us, []⟩ (ps.zip us)) : Binds K fd ps [] := fun s us X hl => by
  rw [List.append_nil] at hl ⊢
  exact h us hl s
/-- f(e, .., k = v, ..): no default is needed -/
theorem kbn_all {K : PySem.W.Frag} {x qual : Str} {params : Arguments} {body : List Stmt} {scope : Scope} {kws : List (Str × V)} {f : Addr} {fd : FuncData} {ps : List Str} (F : FunD K x qual params body scope [] kws f fd) (hk : kws ≠ []) (n : Nat) (ks : List Str)
    (h : ∀ (Dk : Addr) (doc pm : Value) (an : Option Addr) (cdv ct : Value) (us ws : List Value), us.length = n → ws.length = ks.length → bindArgs (PySem.W.fnOf x qual params body scope .none (.ref Dk) doc pm an cdv ct) ⟨us, ks.zip ws⟩ = pure (ps.zip (us ++ ws))) :
    KBn K fd ps n ks (fun us ws => us ++ ws) (fun vs zs => vs ++ zs) := by
  obtain ⟨oc, od, dV, kV, doc, pm, an, cdv, ct, osl, rfl, lk, hcd, hD, hK⟩ := F.ex
  rcases hD with ⟨_, rfl⟩ | ⟨e, _⟩
  · rcases hK with e | ⟨Dk, rfl, _⟩
    · exact absurd e hk
    · exact ⟨fun s us ws _ h1 h2 => .of_eq (h Dk doc pm an cdv ct us ws h1 h2), fun a b => a.append b⟩
  · exact absurd rfl e
section
variable {X : Cx} {W : WX} {k n : Nat} {dvs : List V} {dds : List D} {spd : Spd} {x : Str} {p pos : Pos} {e : Expr} {es : List Expr} {kws : List Keyword} {t tk' : TA} {da dk : TAd} {ks : List Str} {gV : List V → List V → List V} {gD : List D → List D → List D}
theorem ve_callR (R : Rdy X.prog X.w X.K X.mg X.base k x dvs dds spd) (hgd : X.A.guards = some []) (hr : Room k X.A) (tk : Takes X W) (ha : VA X W (e :: es) t da) (hg : Gl X x := by rfl) (hdb : (x == ("__debug__" : Str)) = false := by decide)
    (he : starEach (e :: es) X.env = (false, eval e X.env) :: starEach es X.env := by rfl) (hpl : (backTo pos (starEach es X.env)).any (·.1) = false := by rfl) : VE X W (.Call (.Name x p) (e :: es) [] pos) (tCallG (lift X.K spd) dvs W t) (dCall spd dds da) := by
  obtain ⟨f, fd, ps, ds0, G, hm, hk, hb, hd, hds⟩ := R.ex
  exact ve_call G hgd hr tk hm hk hb hd hds ha hg hdb he hpl
theorem ve_callR0 (R : Rdy X.prog X.w X.K X.mg X.base k x dvs dds spd) (hgd : X.A.guards = some []) (hr : Room k X.A) (tk : Takes X W) (hg : Gl X x := by rfl) (hdb : (x == ("__debug__" : Str)) = false := by decide) :
    VE X W (.Call (.Name x p) [] [] pos) (tCallG (lift X.K spd) dvs W tNil) (dCall spd dds dNil) := by
  obtain ⟨f, fd, ps, ds0, G, hm, hk, hb, hd, hds⟩ := R.ex
  exact ve_call0 G hgd hr tk hm hk hb hd hds hg hdb
theorem ve_callRK (R : RdyK X.prog X.w X.K X.mg X.base k x n ks gV gD spd) (hgd : X.A.guards = some []) (hr : Room k X.A) (tk : Takes X W) (ha : VA X W (e :: es) t da) (hkw : VK' X W kws tk' dk) (hg : Gl X x := by rfl)
    (hall : (backToKw pos (keywordEach kws X.env)).all (·.1.isSome) = true := by rfl) (hks : (backToKw pos (keywordEach kws X.env)).filterMap (·.1) = ks := by rfl)
    (hdb : (x == ("__debug__" : Str)) = false := by decide) (he : starEach (e :: es) X.env = (false, eval e X.env) :: starEach es X.env := by rfl)
    (hpl : ((backTo pos (starEach (e :: es) X.env)).any (·.1) || (backToKw pos (keywordEach kws X.env)).any (·.1.isNone)) = false := by rfl) :
    VE X W (.Call (.Name x p) (e :: es) kws pos) (tCallGK n ks.length (lift X.K spd) gV W t tk') (dCallK n ks.length spd gD da dk) := by
  obtain ⟨f, fd, ps, g, G, hm, hk, hb⟩ := R.ex
  exact ve_callK G hgd hr tk hm hk hb R.rel ha hkw hg hall hks hdb he hpl
end

/-! ### what the head tells -/
def oexB (K : PySem.W.Frag) (C : Addr) : Bool := match K.lookup C with
  | some o => (match o.data with
    | .cls cd => decide (o.cls = .type "type") && (decide (cd.mro.head? = some (.ref C)) && (PySem.HandSPX.refsVE cd.mro.tail && (cd.hasDict && (!cd.hasDel && (match o.slots.toList with
      | [_, _, _, _, some v, _] => decide (v = .builtin "ValueError.__new__")
      | _ => false)))))
    | _ => false)
  | none => false
def oexA (K : PySem.W.Frag) (C : Addr) : Bool := oexB K C && (decide (PySem.W.findIn K (.ref C) "__setattr__" = some (some (.builtin "object.__setattr__"))) && (decide (PySem.W.subIn K (.ref C) (.type "BaseException") = some true) &&
  (decide (PySem.W.typeIn K (.ref C) = some (.type "type")) && PySem.W.keepIn K (.ref C))))
theorem oexA_ok {K : PySem.W.Frag} {C : Addr} (h : oexA K C = true) : OexC K C := by
  obtain ⟨h1, h⟩ := He.ba h
  obtain ⟨h2, h⟩ := He.ba h
  obtain ⟨h3, h⟩ := He.ba h
  obtain ⟨h4, h5⟩ := He.ba h
  refine ⟨?_, of_decide_eq_true h2, of_decide_eq_true h3, of_decide_eq_true h4, h5⟩
  unfold oexB at h1
  split at h1
  · next o ho =>
    obtain ⟨oc, od, dt, ⟨sl⟩⟩ := o
    dsimp only at h1
    split at h1
    · next cd =>
      obtain ⟨nm, bs, mro, ns, qn, hd, sn, sb, ab, col, del⟩ := cd
      obtain ⟨a1, h1⟩ := He.ba h1
      obtain ⟨a2, h1⟩ := He.ba h1
      obtain ⟨a3, h1⟩ := He.ba h1
      obtain ⟨a4, h1⟩ := He.ba h1
      obtain ⟨a5, a6⟩ := He.ba h1
      have b1 : oc = .type "type" := of_decide_eq_true a1
      have b2 : mro.head? = some (.ref C) := of_decide_eq_true a2
      have b4 : hd = true := a4
      subst b1 b4
      cases mro with
      | nil => cases b2
      | cons m bm =>
        obtain rfl : m = .ref C := Option.some.inj b2
        have a5' : del = false := by simpa using a5
        subst a5'
        have b6 : ∃ k0 k1 k2 k3 k5, sl = [k0, k1, k2, k3, some (.builtin "ValueError.__new__"), k5] := by
          rcases sl with _ | ⟨k0, _ | ⟨k1, _ | ⟨k2, _ | ⟨k3, _ | ⟨k4, _ | ⟨k5, _ | ⟨k6, sl⟩⟩⟩⟩⟩⟩⟩ <;> first | (cases a6; done) | skip
          · cases k4 <;> cases a6
          · cases k4 with
            | none => cases a6
            | some v =>
              have ev : v = .builtin "ValueError.__new__" := of_decide_eq_true a6
              subst ev
              exact ⟨_, _, _, _, _, rfl⟩
          · cases k4 <;> cases a6
        obtain ⟨k0, k1, k2, k3, k5, rfl⟩ := b6
        exact ⟨nm, qn, ns, bs, bm, sn, sb, ab, col, od, k0, k1, k2, k3, k5, ho, a3⟩
    · cases h1
  · cases h1
/-- an own class x whose __init__ keeps what it is given in the field f -/
def ownB (x f : Str) (K : PySem.W.Frag) : Bool := (He.Fa.glo x).ok K && (oexA K (He.ga K x) && (decide (PySem.W.findIn K (.ref (He.ga K x)) f = some none) &&
  (decide (PySem.W.findIn K (.ref (He.ga K x)) "__init__" = some (some (.ref (He.ma K (He.ga K x) "__init__")))) && decide (PySem.W.typeIn K (.ref (He.ma K (He.ga K x) "__init__")) = some (.type "function")))))
theorem ownB_ok {K : PySem.W.Frag} {h : Heap} {mg : Str → Option Value} (X : K.In h) (G : h.Ns mainGlobals mg) {x f : Str} (c : ownB x f K = true) : OwnK K mg x f (He.ga K x) (He.ma K (He.ga K x) "__init__") := by
  obtain ⟨h1, c⟩ := He.ba c
  obtain ⟨h2, c⟩ := He.ba c
  obtain ⟨h3, c⟩ := He.ba c
  obtain ⟨h4, h5⟩ := He.ba c
  exact ⟨He.glo_ok X G h1, oexA_ok h2, of_decide_eq_true h3, of_decide_eq_true h4, of_decide_eq_true h5⟩
/-- the class above -/
def baseB (x : Str) (K : PySem.W.Frag) : Bool := (He.Fa.glo x).ok K && (PySem.W.readsIn K (He.ga K x) (.type "type") && (decide (PySem.W.specialIn K (.ref (He.ga K x)) "__getattribute__" = some (some (.builtin "type.__getattribute__"))) &&
  (match PySem.W.findCls K (.ref (He.ga K x)) (.type "type") "__init__" with
    | some (.val v) => decide (v = .builtin "ValueError.__init__")
    | _ => false)))
theorem baseB_ok {K : PySem.W.Frag} {h : Heap} {mg : Str → Option Value} (X : K.In h) (G : h.Ns mainGlobals mg) {x : Str} (c : baseB x K = true) : mg x = some (.ref (He.ga K x)) ∧ BaseK K (He.ga K x) := by
  obtain ⟨h1, c⟩ := He.ba c
  obtain ⟨h2, c⟩ := He.ba c
  obtain ⟨h3, h4⟩ := He.ba c
  refine ⟨He.glo_ok X G h1, h2, of_decide_eq_true h3, ?_⟩
  split at h4
  · next v e => rw [e, of_decide_eq_true h4]
  · cases h4
/-- instances of x are asked for their fields, their class -/
def askB (x : Str) (K : PySem.W.Frag) : Bool := xfB K (He.ga K x) && (decide (PySem.W.findIn K (.ref (He.ga K x)) "__class__" = some (some (.builtin "object.__class__"))) &&
  (decide (PySem.W.specialIn K (.builtin "object.__class__") "__get__" = some (some (.builtin "getset_descriptor.__get__"))) && (decide (PySem.W.takesIn K (.builtin "object.__class__") = some true) && decide (PySem.W.mroIn K (He.ga K x) (.type "object") = some true))))
theorem askB_ok {K : PySem.W.Frag} {x : Str} (c : askB x K = true) : XfC K (He.ga K x) ∧ ExcC K (He.ga K x) := by
  obtain ⟨h1, c⟩ := He.ba c
  obtain ⟨h2, c⟩ := He.ba c
  obtain ⟨h3, c⟩ := He.ba c
  obtain ⟨h4, h5⟩ := He.ba c
  have h := xfB_ok h1
  exact ⟨h, h.ga, h.gg, h.exC, h.hdC, of_decide_eq_true h2, of_decide_eq_true h3, of_decide_eq_true h4, of_decide_eq_true h5⟩
/-- is x's instance one of y -/
def kitX (x y : Str) (b : Bool) (K : PySem.W.Frag) : Bool := decide (PySem.W.kitOne K (.ref (He.ga K x)) (.ref (He.ga K y)) = some b)

abbrev AlV : Type := List (Bool × He.FnW) × Bool
def obsV (fn : List He.DefD) (ex : PySem.W.Frag → Bool) (K : PySem.W.Frag) : AlV := (fn.map fun d => (d.ok K, He.fnW K d.at_), ex K)
def valV (fn : List He.DefD) : AlV := (fn.map fun d => (true, d.val), true)
def SaysV (fn : List He.DefD) (ex : PySem.W.Frag → Bool) (K : PySem.W.Frag) : Prop := obsV fn ex K = valV fn
/-- what the module's names reach in n steps: each step looks at what the step ahead found, and a number's bits tell what was found -/
def addU : List Addr → List Addr × Nat → List Addr × Nat
  | [], s => s
  | a :: r, (l, m) => addU r (match Nat.testBit m a with
    | true => (l, m)
    | false => (a :: l, m ||| (1 <<< a)))
def stepU (g : Addr → Option Obj) : List Addr → List Addr × Nat → List Addr × Nat
  | [], s => s
  | a :: fr, s => stepU g fr (addU (match g a with
    | some o => He.refsD o
    | none => []) s)
def levU (g : Addr → Option Obj) : Nat → List Addr × Nat → List Addr
  | 0, s => s.1
  | n + 1, s => s.1 ++ levU g n (stepU g s.1 ([], s.2))
def asU (g : Addr → Option Obj) (n : Nat) : List Addr := levU g n ([mainGlobals], 1 <<< mainGlobals)
def obsVG (n : Nat) (fn : List He.DefD) (ex : PySem.W.Frag → Bool) (g : Addr → Option Obj) : AlV := obsV fn ex (He.frG g (cStatics :: asU g n))
def hookV (n : Nat) (fn : List He.DefD) (ex : PySem.W.Frag → Bool) : PySem.W.Hook where
  α := AlV
  obs := fun s => obsVG n fn ex s.heap.get?
  val := fun _ => valV fn
  says := fun _ h => ∃ K : PySem.W.Frag, K.In h ∧ SaysV fn ex K
  of := fun _ _ e => ⟨_, He.frG_in, e⟩
  keeps := fun _ _ _ ⟨K, hK, c⟩ k => ⟨K, PySem.W.Frag.In.keeps hK k, c⟩
theorem obsVG_eq {n : Nat} {fn : List He.DefD} {ex : PySem.W.Frag → Bool} {g : Addr → Option Obj} {s : Shared} (h : ∀ a, g a = s.heap.get? a) : obsVG n fn ex g = (hookV n fn ex).obs s := by
  have e : g = s.heap.get? := funext h
  rw [e] <;> rfl
section
variable {fn : List He.DefD} {ex : PySem.W.Frag → Bool} {K : PySem.W.Frag}
theorem SaysV.more (c : SaysV fn ex K) : ex K = true := congrArg (fun z : AlV => z.2) c
theorem SaysV.fund (c : SaysV fn ex K) (i : Nat) {d : He.DefD} (h : fn[i]? = some d := by rfl) : ∃ fd, FunD K d.name d.qual d.params d.body d.scope (d.dvs K) (d.kws K) (He.fAd K d.at_) fd := by
  have e : fn.map (fun d => (d.ok K, He.fnW K d.at_)) = fn.map fun d => (true, d.val) := congrArg (fun z : AlV => z.1) c
  have e2 : (fn.map fun d => (d.ok K, He.fnW K d.at_))[i]? = (fn.map fun d => (true, d.val))[i]? := by rw [e]
  rw [List.getElem?_map, List.getElem?_map, h] at e2
  have e3 := Prod.mk.inj (Option.some.inj e2)
  exact He.DefD.funD e3.2 e3.1
end
/-- the end over such a head -/
theorem walkE {l : PySem.W.OpenLaw} {n k : Nat} {q : Program} {loose : List Str} {XP : (Str → Option Value) → Heap → Prop} {YP : World → Heap → Prop} {d : DefRec} {x : Str}
    (hn : l.most = some n) (hn2 : n ≤ sizeLine) (hdf : d.params.defaults = []) (hr : Room k callerA)
    (F : ∀ (w : World) (mg : Str → Option Value) (fa : Addr) (h : Heap), YP w h → h.Ns mainGlobals mg → mg d.name = some (.ref fa) →
      ∃ (K : PySem.W.Frag) (fd : FuncData), K.In h ∧ (∀ (s : Shared) (u : Value), BindsTo s fd ⟨[u], []⟩ [(x, u)]) ∧ ∀ base : Heap, K.In base → base.Ns mainGlobals mg → FnG l.prog w K mg base k fa fd [x] (lift K (spdLaw n))) :
    PySem.W.WalkO q loose XP YP l.row.toRowW d [] (fun f vs => PySem.call f vs) := Att.attach_call hn hdf fun w s₀ s₁ mg mb fa o pm cd doc a vs ns G Y ho hd hcd hmg hobj hints hlen hg => by
  obtain ⟨K, fd, KX, hb, hF⟩ := F w mg fa _ Y G.T.g hmg
  exact law_end KX G.T.g G.T.b G.T.builtins G.T.nolimit hg hobj hints hlen hn2 hr hF hb
end VL

/-! VL: list(d.values()), a comprehension that is named. -/
namespace VL
open PySem PySem.Spec PyProof.Rows L2

def tListVals (td : TE) : TE := fun σ H Q => td σ H fun x H1 => ∃ a kvs, x = V.ref a ∧ Rd H1 a (.dK kvs) ∧ ∀ p, H1 p = none → Q (.ref p) (upd H1 p (.lst (kvs.map (·.2))))
section
variable {X : Cx} {W : WX} {o : Expr} {p pos apos mpos : Pos} {td : TE} {de : TEd}
theorem kv_vals {κ : Type} {kvs : List (κ × V)} {vs : List (κ × Value)} (r : KV kvs vs) : Vals (kvs.map (·.2)) (vs.map (·.2)) := by
  unfold KV at r
  induction r with
  | nil => exact .nil
  | cons h _ ih => exact .cons h.2 ih
theorem pe_listVals (hc : X.calm = true) (hg : Gl X "list") (hm : X.mg "list" = none) (hd : PE X o td) (hbase : attributeBase o "values" X.env (eval o X.env) = eval o X.env := by rfl) (hline : (apos.endLine == mpos.line) = true := by rfl)
    (hse : starEach [Expr.Call (.Attribute o "values" apos) [] [] mpos] X.env = [(false, eval (Expr.Call (.Attribute o "values" apos) [] [] mpos) X.env)] := by rfl) :
    PE X (.Call (.Name "list" p) [.Call (.Attribute o "values" apos) [] [] mpos] [] pos) (tListVals td) := by
  refine ⟨fun pins s σ H Q I h => ?_⟩
  refine wpAny_Call_Name_kw (ld_blt I hg hm (u := .type "list") (by first | rfl | decide +kernel) ?_ (by first | decide +kernel | decide) (by first | decide +kernel | decide))
  rw [hse]
  refine PySem.callWith_type1 (wpAny_Call_method0_late hbase hline (thn (hd.run pins s σ H _ I h) fun v s1 hh => ?_))
  obtain ⟨x, H1, I1, r1, a, kvs, rfl, ha, q⟩ := hh
  obtain rfl : v = Value.ref a := r1
  obtain ⟨hz, hsys, vs, rel, dof⟩ := dk_rd I1.hok ha
  obtain ⟨ep, dat⟩ := dof.dictAt
  have dat' := dat
  obtain ⟨ob, es, ho, cl, _, _, _, _⟩ := dat'
  refine ⟨"dict", "dict.values", F.plainAttrs_dict, F.slot_dict_values, F.type_dict_values, ⟨ob, ho, cl.1⟩, fun b e => ?_, Calls.callWith_builtin rfl (PySem.evalArgs_none ?_)⟩
  · cases e
    exact ⟨ob, ho, cl.2.1⟩
  refine call_meetsIn F.slot_dict_values ⟨ob, ho, cl.1⟩ F.entry_dict_values (F.args_dict_values_1 _) (meets_dict_values (mixKind X.prog X.w) a hsys) ⟨⟨vs, dof⟩, ?_⟩
  have up : ∀ b u, s1.heap.get? b = some u → (s1.heap.push { cls := .type "dict_values", data := .fields #[.ref a] }).get? b = some u := fun b u e => Heap.get?_push_of_some _ e
  have dat1 : (s1.heap.push { cls := .type "dict_values", data := .fields #[.ref a] }).DictAt (mixKind X.prog X.w) a vs ep := dat.keep up
  have hl : vs.length = kvs.length := (KV.length rel).symm
  refine PySem.W.kdl_call (PySem.W.kdl_values (r := s1.heap.objs.size)) (I.ok.hd hc) ⟨⟨_, Heap.get?_push_size _ rfl, rfl, rfl⟩, dat1⟩ (by rw [hl]; exact hz) fun h' tk acc c' hk hD hacc => ?_
  have ev : acc.toList = vs.map (·.2) := PySem.W.kdl_vals_eq acc.toList (by rw [Array.length_toList]; exact hacc.1) fun j u e => hacc.2 j u (by rw [← Array.getElem?_toList]; exact e)
  have sz : s1.heap.objs.size ≤ (s1.heap.push { cls := .type "dict_values", data := .fields #[.ref a] }).objs.size := by rw [Heap.size_push]; exact Nat.le_succ _
  refine ⟨.ref _, _, I1.laid (t' := tk) (fun b u e => hk b u (up b u e)) sz (show ObjOk X.prog X.w _ h' _ (.lst (kvs.map (·.2))) from ⟨by rw [List.length_map]; exact hz, vs.map (·.2), c', kv_vals rel, ?_⟩), rfl, q _ (I1.hok.fresh sz)⟩
  rw [← ev, Array.toArray_toList]
  exact hD
def dListVals (de : TEd) : TEd := fun σ S Q E => de σ S (fun x S1 => match vw S1 x with
  | .dct kds => Q (.lst (kds.map (·.2))) S1
  | _ => False) E
def dListValsM (de : TEd) : TEd := fun σ S Q E => de σ S (fun x S1 => match vw S1 x with
  | .dct kds => ∀ p, S1 p = none → Q (.ref p) (put S1 p (.lst (kds.map (·.2))))
  | _ => False) E
theorem repK_vals {K : PySem.W.Frag} {M : Hp} : ∀ {kvs : List (Key × V)} {kds : List (Key × D)}, RepK K M kvs kds → Reps K M (kvs.map (·.2)) (kds.map (·.2))
  | _, _, .nil => .nil
  | _, _, .cons h r => .cons h (repK_vals r)
theorem ve_listVals (hc : X.calm = true) (hm : X.mg "list" = none) (he : VE X W o td de) (hg : Gl X "list" := by rfl) (hbase : attributeBase o "values" X.env (eval o X.env) = eval o X.env := by rfl) (hline : (apos.endLine == mpos.line) = true := by rfl)
    (hse : starEach [Expr.Call (.Attribute o "values" apos) [] [] mpos] X.env = [(false, eval (Expr.Call (.Attribute o "values" apos) [] [] mpos) X.env)] := by rfl) :
    VE X W (.Call (.Name "list" p) [.Call (.Attribute o "values" apos) [] [] mpos] [] pos) (tListVals td) (dListVals de) := ⟨pe_listVals hc hg hm he.run hbase hline hse, fun {σV F H σ S Qd E Q} hs er h hq hx =>
  he.snd hs er h (fun x H1 dx S1 g r h1 => by
    split at h1
    · next kds e =>
      obtain ⟨a, kvs, rfl, ha, rk⟩ := see_dct g.hst r e
      exact ⟨a, kvs, rfl, ha, fun p hp => hq _ _ _ S1 (g.trans (good_new g.hst hp)) (new_lst g.hst hp (repK_vals rk)) h1⟩
    · cases h1) hx⟩
end

section
variable {X : Cx} {W : WX} {wi : TI} {id : TId} {g : TG} {gd : TGd} {tt : TT} {dt : TTd} {te : TE} {de : TEd}
/-- y = [..], y a plain local name of the def -/
theorem vs_setLc {j : Nat} {y : Str} {py : Pos} {tg iter elt : Expr} {ifs : List Expr} {scope : Scope} {own : List (Str × Nat)} {pos spos : Pos} (hc : X.calm = true) (hN : X.N.Nodup) (hi : VI X W tg iter wi id) (ok : BlkOk X.N X.env.scope scope own)
    (hg : ∀ (s : Shared) (H : Hp) (C : Addr) (cl : List (Str × Addr)) (fp : List Addr), VG (X.blk s H scope (compEnvC scope cl C X.env) fp) (own.map (·.2)) tg g gd)
    (ht : ∀ (s : Shared) (H : Hp) (C : Addr) (cl : List (Str × Addr)) (fp : List Addr), VTs (X.blk s H scope (compEnvC scope cl C X.env) fp) WF ifs tt dt)
    (he : ∀ (s : Shared) (H : Hp) (C : Addr) (cl : List (Str × Addr)) (fp : List Addr), VE (X.blk s H scope (compEnvC scope cl C X.env) fp) WF elt te de) (hy : X.N[j]? = some y := by rfl) (hyl : X.env.scope.names.lookup y = some .local := by rfl)
    (hk : X.env.scope.kind = .function := by rfl) (hln : (py.line == pos.line) = true := by rfl) (ha : (scope.names.any fun (n, k) => n == y && (k == .local || k == .cell)) = false := by rfl) (hl2 : spos.line = pos.line := by rfl) (hs : ∀ x, foldedSetIterable iter X.env x = pure x := by intro _; rfl) :
    VS X W (.Assign [.Name y py] (.ListComp elt [⟨tg, iter, ifs, 0⟩] scope pos) spos) (tAsg (tLc wi g tt te (own.map (·.2))) (gName j)) (dAsg (dLc id gd dt de (own.map (·.2))) (hName j)) :=
  vs_set (ps_setLc hc hN hy hyl (sw_true hk hyl hln ha) hi.run ok (fun s H C cl fp => (hg s H C cl fp).run) (fun s H C cl fp => (ht s H C cl fp).run) (fun s H C cl fp => (he s H C cl fp).run) hs)
    (snd_lc hi.snd (hg {} noH 0 [] []).snd (ht {} noH 0 [] []).snd (he {} noH 0 [] []).snd)
theorem vs_setLcM {j : Nat} {y : Str} {py : Pos} {tg iter elt : Expr} {ifs : List Expr} {scope : Scope} {own : List (Str × Nat)} {pos spos : Pos} (hc : X.calm = true) (hN : X.N.Nodup) (hi : VI X W tg iter wi id) (ok : BlkOk X.N X.env.scope scope own)
    (hg : ∀ (s : Shared) (H : Hp) (C : Addr) (cl : List (Str × Addr)) (fp : List Addr), VG (X.blk s H scope (compEnvC scope cl C X.env) fp) (own.map (·.2)) tg g gd)
    (ht : ∀ (s : Shared) (H : Hp) (C : Addr) (cl : List (Str × Addr)) (fp : List Addr), VTs (X.blk s H scope (compEnvC scope cl C X.env) fp) WF ifs tt dt)
    (he : ∀ (s : Shared) (H : Hp) (C : Addr) (cl : List (Str × Addr)) (fp : List Addr), VE (X.blk s H scope (compEnvC scope cl C X.env) fp) WF elt te de) (hy : X.N[j]? = some y := by rfl) (hyl : X.env.scope.names.lookup y = some .local := by rfl)
    (hk : X.env.scope.kind = .function := by rfl) (hln : (py.line == pos.line) = true := by rfl) (ha : (scope.names.any fun (n, k) => n == y && (k == .local || k == .cell)) = false := by rfl) (hl2 : spos.line = pos.line := by rfl) (hs : ∀ x, foldedSetIterable iter X.env x = pure x := by intro _; rfl) :
    VS X W (.Assign [.Name y py] (.ListComp elt [⟨tg, iter, ifs, 0⟩] scope pos) spos) (tAsg (tLc wi g tt te (own.map (·.2))) (gName j)) (dAsg (dLcM id gd dt de (own.map (·.2))) (hName j)) :=
  vs_set (ps_setLc hc hN hy hyl (sw_true hk hyl hln ha) hi.run ok (fun s H C cl fp => (hg s H C cl fp).run) (fun s H C cl fp => (ht s H C cl fp).run) (fun s H C cl fp => (he s H C cl fp).run) hs)
    (snd_lcM hi.snd (hg {} noH 0 [] []).snd (ht {} noH 0 [] []).snd (he {} noH 0 [] []).snd)
end

section
variable {K : PySem.W.Frag} {W : WX} {wi wi1 : TI} {id id1 : TId} {g g1 : TG} {gd gd1 : TGd} {tt tt1 : TT} {dt dt1 : TTd} {te : TE} {de : TEd} {vs vs1 : List Nat}
def dLc2M (id : TId) (gd : TGd) (dt : TTd) (id1 : TId) (gd1 : TGd) (dt1 : TTd) (de : TEd) (vs vs1 : List Nat) : TEd := fun σ S Q E => id σ S (fun ds S1 => dLc2L gd dt id1 gd1 dt1 de vs1 (wipeD σ vs) (fun acc S2 => ∀ p, S2 p = none → Q (.ref p) (put S2 p (.lst acc))) ds [] S1) E
theorem snd_lc2M (hi : SndI K W wi id) (hg : SndG K vs g gd) (ht : SndT K WF tt dt) (hi1 : SndI K WF wi1 id1) (hg1 : SndG K vs1 g1 gd1) (ht1 : SndT K WF tt1 dt1) (he : Snd K WF te de) :
    Snd K W (tLc2 wi g tt wi1 g1 tt1 te vs vs1) (dLc2M id gd dt id1 gd1 dt1 de vs vs1) := fun {σV F H0 σ S0 Qd E Q} hs0 er0 h0 hq hx => by
  refine hi hs0 er0 h0 (fun J H1 ds S1 g1' jr h => ?_) hx
  intro Dp hD
  have hs := g1'.hst
  have er := er0.mono g1'.same
  have fD := hs.freeF hD
  have sD := hs.free hD
  let Iv : Nat → Hp → Prop := fun i H => ∃ (S : Sto) (accV : List V) (acc : List D), HSt K (upd F Dp (.lst accV)) H S ∧ Same (mask F S1 H1) (mask (upd F Dp (.lst accV)) S H) ∧ Reps K (mask (upd F Dp (.lst accV)) S H) accV acc ∧
    dLc2L gd dt id1 gd1 dt1 de vs1 (wipeD σ vs) (fun acc S2 => ∀ p, S2 p = none → Qd (.ref p) (put S2 p (.lst acc))) (ds.drop i) acc S
  refine ⟨fun i m H => m = ds.length - i ∧ i ≤ ds.length ∧ Iv i H, ⟨ds.length, by simp, Nat.zero_le _, S1, [], [], hst_beside hs hD, mask_beside hs hD, .nil, by simpa using h⟩, ?_⟩
  rintro i m H ⟨rfl, hi', S, accV, acc, hh, sm, ra, hl⟩
  by_cases hlt : i < ds.length
  · have ed : ds.drop i = ds[i] :: ds.drop (i + 1) := List.drop_eq_getElem_cons hlt
    rw [ed] at hl
    refine .inr ⟨jr.go i _ H S hh sm hlt, Iv (i + 1), fun H' p' => ⟨ds.length - (i + 1), by omega, rfl, hlt, p'⟩, fun x H' y => ?_⟩
    obtain ⟨g1, rx⟩ := jr.yld i _ H S x H' ds[i] hh sm (List.getElem?_eq_getElem hlt) y
    refine hg g1.hst (((er_wipe er vs).mono sm).mono g1.same) rx hl fun σ2 H2 σd2 S2 g2 er2 l2 o2 h2 => ⟨wipe_eq (by rw [l2, wipe_length]) o2, ?_⟩
    have g12 := g1.trans g2
    refine ht g2.hst er2 h2 (fun b H3 S3 g3 h3 => ?_) lxF
    have g13 := g12.trans g3
    cases b with
    | false => exact ⟨S3, accV, acc, g3.hst, sm.trans g13.same, ra.mono g13.same, h3⟩
    | true =>
      have er3 := er2.mono g3.same
      refine hi1 g3.hst er3 h3 (fun J1 H4 es S4 g4 jr1 h4 => ?_) lxF
      have g14 := g13.trans g4
      have er4 := er3.mono g4.same
      -- the second source's own loop
      let Iw : Nat → Hp → Prop := fun j H5 => ∃ (S5 : Sto) (acc5V : List V) (acc5 : List D), HSt K (upd F Dp (.lst acc5V)) H5 S5 ∧ Same (mask (upd F Dp (.lst accV)) S4 H4) (mask (upd F Dp (.lst acc5V)) S5 H5) ∧ Reps K (mask (upd F Dp (.lst acc5V)) S5 H5) acc5V acc5 ∧
        dLcC gd1 dt1 de (wipeD σd2 vs1) (fun acc' S6 => dLc2L gd dt id1 gd1 dt1 de vs1 (wipeD σ vs) (fun acc S2 => ∀ p, S2 p = none → Qd (.ref p) (put S2 p (.lst acc))) (ds.drop (i + 1)) acc' S6) (es.drop j) acc5 S5
      refine ⟨fun j m H5 => m = es.length - j ∧ j ≤ es.length ∧ Iw j H5, ⟨es.length, by simp, Nat.zero_le _, S4, accV, acc, g4.hst, Same.refl _, ra.mono g14.same, by simpa using h4⟩, ?_⟩
      rintro j m H5 ⟨rfl, hj, S5, acc5V, acc5, hh5, sm5, ra5, hl5⟩
      by_cases hjt : j < es.length
      · have ee : es.drop j = es[j] :: es.drop (j + 1) := List.drop_eq_getElem_cons hjt
        rw [ee] at hl5
        have hh5' : HSt K (upd F Dp (.lst acc5V)) H5 S5 := hh5
        refine .inr ⟨jr1.go j _ H5 S5 hh5 sm5 hjt, Iw (j + 1), fun H' p' => ⟨es.length - (j + 1), by omega, rfl, hjt, p'⟩, fun x5 H6 y5 => ?_⟩
        obtain ⟨k1, rx5⟩ := jr1.yld j _ H5 S5 x5 H6 es[j] hh5 sm5 (List.getElem?_eq_getElem hjt) y5
        refine hg1 k1.hst (((er_wipe er4 vs1).mono sm5).mono k1.same) rx5 hl5 fun σ7 H7 σd7 S7 k2 er7 l7 o7 h7 => ⟨wipe_eq (by rw [l7, wipe_length]) o7, ?_⟩
        have k12 := k1.trans k2
        refine ht1 k2.hst er7 h7 (fun b H8 S8 k3 h8 => ?_) lxF
        have k13 := k12.trans k3
        cases b with
        | false => exact ⟨S8, acc5V, acc5, k3.hst, sm5.trans k13.same, ra5.mono k13.same, h8⟩
        | true =>
          refine he k3.hst (er7.mono k3.same) h8 (fun yv H9 yd S9 k4 r9 h9 => ?_) lxF
          have k14 := k13.trans k4
          have e9 := (k4.hst.side Dp _ upd_same).1
          refine ⟨acc5V, e9, by rw [ra5.length]; exact h9.1, S9, acc5V ++ [yv], acc5 ++ [yd], hst_side_chg k4.hst, ?_, ?_, h9.2⟩
          · rw [mask_side_chg (u := .lst acc5V)]; exact sm5.trans k14.same
          · rw [mask_side_chg (u := .lst acc5V)]; exact (ra5.mono k14.same).append (.cons r9 .nil)
      · have e : j = es.length := by omega
        subst e
        rw [List.drop_of_length_le (Nat.le_refl _)] at hl5
        exact .inl ⟨jr1.stop _ _ H5 S5 hh5 sm5 (Nat.le_refl _), S5, acc5V, acc5, hh5, (sm.trans g14.same).trans sm5, ra5, hl5⟩
  · have e : i = ds.length := by omega
    subst e
    rw [List.drop_of_length_le (Nat.le_refl _)] at hl
    have e2 := (hh.side Dp _ upd_same).1
    have s2 := (hh.side Dp _ upd_same).2
    have em : mask F (put S Dp (.lst acc)) H = mask (upd F Dp (.lst accV)) S H := by
      funext b
      unfold mask
      by_cases e : b = Dp
      · subst e; rw [if_pos (.inl (by rw [put_same]; rfl)), if_pos (.inr (by rw [upd_same]; rfl))]
      · rw [put_ne e, upd_ne e]
    have hh2 : HSt K F H (put S Dp (.lst acc)) := ⟨fun b o q => by
      rw [em]
      by_cases hb : b = Dp
      · subst hb
        rw [put_same] at q; cases q
        rw [e2]; exact ook_lst ra
      · rw [put_ne hb] at q
        exact hh.at_ b o q, fun b v q => by
      have hb : b ≠ Dp := fun z => by subst z; rw [fD] at q; cases q
      rw [put_ne hb]
      exact hh.side b v (by rw [upd_ne hb]; exact q)⟩
    exact .inl ⟨jr.stop _ _ H S hh sm (Nat.le_refl _), hq _ H _ _ ⟨hh2, g1'.same.trans (by rw [em]; exact sm)⟩ (.ref Dp) (hl Dp s2)⟩
end
section
variable {X : Cx} {W : WX} {pos : Pos} {wi wi1 : TI} {id id1 : TId} {g g1 : TG} {gd gd1 : TGd} {tt tt1 : TT} {dt dt1 : TTd} {te : TE} {de : TEd} {vs1 : List Nat}
theorem ve_lc2M {tg iter elt tg1 iter1 : Expr} {ifs ifs1 : List Expr} {scope : Scope} {own : List (Str × Nat)} (hc : X.calm = true) (hN : X.N.Nodup) (hi : VI X W tg iter wi id) (ok : BlkOk X.N X.env.scope scope own) (hv : ∀ i ∈ vs1, i ∈ own.map (·.2))
    (hg : ∀ (s : Shared) (H : Hp) (C : Addr) (cl : List (Str × Addr)) (fp : List Addr), VG (X.blk s H scope (compEnvC scope cl C X.env) fp) (own.map (·.2)) tg g gd)
    (ht : ∀ (s : Shared) (H : Hp) (C : Addr) (cl : List (Str × Addr)) (fp : List Addr), VTs (X.blk s H scope (compEnvC scope cl C X.env) fp) WF ifs tt dt)
    (hi1 : ∀ (s : Shared) (H : Hp) (C : Addr) (cl : List (Str × Addr)) (fp : List Addr), VI (X.blk s H scope (compEnvC scope cl C X.env) fp) WF tg1 iter1 wi1 id1)
    (hg1 : ∀ (s : Shared) (H : Hp) (C : Addr) (cl : List (Str × Addr)) (fp : List Addr), VG (X.blk s H scope (compEnvC scope cl C X.env) fp) vs1 tg1 g1 gd1)
    (ht1 : ∀ (s : Shared) (H : Hp) (C : Addr) (cl : List (Str × Addr)) (fp : List Addr), VTs (X.blk s H scope (compEnvC scope cl C X.env) fp) WF ifs1 tt1 dt1)
    (he : ∀ (s : Shared) (H : Hp) (C : Addr) (cl : List (Str × Addr)) (fp : List Addr), VE (X.blk s H scope (compEnvC scope cl C X.env) fp) WF elt te de) (hs : ∀ x, foldedSetIterable iter X.env x = pure x := by intro _; rfl) (hs1 : ∀ env x, foldedSetIterable iter1 env x = pure x := by intro _ _; rfl) :
    VE X W (.ListComp elt [⟨tg, iter, ifs, 0⟩, ⟨tg1, iter1, ifs1, 0⟩] scope pos) (tLc2 wi g tt wi1 g1 tt1 te (own.map (·.2)) vs1) (dLc2M id gd dt id1 gd1 dt1 de (own.map (·.2)) vs1) :=
  ⟨pe_lc2 hc hN hi.run ok hv (fun s H C cl fp => (hg s H C cl fp).run) (fun s H C cl fp => (ht s H C cl fp).run) (fun s H C cl fp => (hi1 s H C cl fp).run) (fun s H C cl fp => (hg1 s H C cl fp).run) (fun s H C cl fp => (ht1 s H C cl fp).run) (fun s H C cl fp => (he s H C cl fp).run) hs hs1,
    snd_lc2M hi.snd (hg {} noH 0 [] []).snd (ht {} noH 0 [] []).snd (hi1 {} noH 0 [] []).snd (hg1 {} noH 0 [] []).snd (ht1 {} noH 0 [] []).snd (he {} noH 0 [] []).snd⟩
end
end VL

/-! VL: rules in short, as the printed derivations use them. -/
namespace VL
open PySem PySem.Spec PyProof.Rows L2

theorem room1 {k : Nat} {A : Around} (r : Room k A) : A.units + 1 < cLine := by have := r.un; omega
theorem room66 {k : Nat} {A : Around} (r : Room k A) : A.units + 66 < cLine := by have := r.un; omega
section
variable {X : Cx} {W : WX} {e o : Expr} {te to : TE} {de d0 : TEd} {pos pos' : Pos}
theorem vs_name {j : Nat} {x : Str} (hN : X.N.Nodup) (he : VE X W e te de) (hi : X.N[j]? = some x := by rfl) (hx : Loc X.env.scope x := by first | exact Or.inl rfl | exact Or.inr rfl)
    (hs : swapsWith e (some (.Name x pos')) pos.line X.env = pure false := by rfl) (hf : X.fn x = true ∨ X.env.scope.names.lookup x = some .local := by first | exact .inl rfl | exact .inr rfl) :
    VS X W (.Assign [.Name x pos'] e pos) (tAsg te (gName j)) (dAsg de (hName j)) := vs_set (ps_set hN hi hx he.run hs hf) he.snd
theorem vs_augA {j : Nat} {x : Str} (hN : X.N.Nodup) (he : VE X W e te de) (hi : X.N[j]? = some x := by rfl) (hx : Loc X.env.scope x := by first | exact Or.inl rfl | exact Or.inr rfl)
    (hf : X.fn x = true ∨ X.env.scope.names.lookup x = some .local := by first | exact .inl rfl | exact .inr rfl) :
    VS X W (.AugAssign (.Name x pos') .Add e pos) (tAug j te (ipI fun a b => a + b)) (dAug j (fun a b => a + b) de) := vs_aug (ps_aug hN hi hx he.run ip_add hf) he.snd
theorem vs_pair {i j : Nat} {x y : Str} {a b : Expr} {ta : TA} {da : TAd} {px py pt : Pos} {kt k2 pt2} (hc : X.calm = true) (hN : X.N.Nodup) (ha : VA X W [a, b] ta da) (hi : X.N[i]? = some x := by rfl) (hj : X.N[j]? = some y := by rfl) (hij : i ≠ j := by decide)
    (hx : X.env.scope.names.lookup x = some .local := by rfl) (hy : X.env.scope.names.lookup y = some .local := by rfl) (hw : swappedStores [.Tuple [.Name x px, .Name y py] kt pt] (.Tuple [a, b] k2 pt2) X.env = pure (some [x, y]) := by rfl)
    (hs : swapsWithSole [.Tuple [.Name x px, .Name y py] kt pt] (.Tuple [a, b] k2 pt2) pos.line X.env = pure false := by rfl) :
    VS X W (.Assign [.Tuple [.Name x px, .Name y py] kt pt] (.Tuple [a, b] k2 pt2) pos) (tPar i j ta) (dPar i j da) := vs_par (ps_par hc hN hi hj hij hx hy ha.run hw hs) ha.snd
theorem ve_app {e1 : Expr} {apos : Pos} {ta1 : TA} {da1 : TAd} (ho : VE X W o to d0) (ha : VA X W [e1] ta1 da1) (hbase : attributeBase o "append" X.env (eval o X.env) = eval o X.env := by rfl)
    (hfew : ((backTo pos (starEach [e1] X.env)).all (fun x => !x.1) && (backToKw pos (keywordEach [] X.env)).all (fun x => x.1.isSome)
      && decide ([e1].length + ([] : List Keyword).length + (if ([] : List Keyword).isEmpty then 0 else 1) < 30)) = true := by rfl)
    (hline : (apos.endLine == pos.line) = true := by rfl) (hs : starEach [e1] X.env = (false, eval e1 X.env) :: starEach [] X.env := by rfl) (hpl : (backTo pos (starEach [] X.env)).any (·.1) = false := by rfl) :
    VE X W (.Call (.Attribute o "append" apos) [e1] [] pos) (tBM X.K "list" rAppend to ta1) (dAppend d0 da1) :=
  ve_append ho ha (pe_bm PySem.F.plainAttrs_list PySem.F.slot_list_append PySem.F.type_list_append mt_append ho.run ha.run hbase hfew hline hs hpl)
theorem vg_n {vs : List Nat} {j : Nat} {x : Str} (hN : X.N.Nodup) (hv : j ∈ vs := by decide) (hi : X.N[j]? = some x := by rfl) (hx : Loc X.env.scope x := by first | exact Or.inl rfl | exact Or.inr rfl)
    (hf : X.fn x = true ∨ X.env.scope.names.lookup x = some .local := by first | exact .inl rfl | exact .inr rfl) : VG X vs (.Name x pos) (gName j) (hName j) := vg_name hv (pg_name hN hi hx hf)
theorem ve_v (j : Nat) {x : Str} (hN : X.N[j]? = some x := by rfl) (hv : Vis X.env.scope x := by first | exact Or.inl rfl | exact Or.inr (Or.inl rfl) | exact Or.inr (Or.inr rfl)) (hd : (x == ("__debug__" : Str)) = false := by decide)
    (hcd : (x == ("__classdict__" : Str)) = false := by decide) : VE X W (.Name x pos) (tVar j) (dVar j) := ve_var (pe_var hN hv hd hcd)
/-- a whole number of the module -/
theorem ve_gi {x : Str} {i : Int} (hm : ∃ t, X.mg x = some (.int i t)) (hg : Gl X x := by rfl) (hd : (x == ("__debug__" : Str)) = false := by decide) : VE X W (.Name x pos) (tC (.int i)) (dC (.int i)) := by
  obtain ⟨t, hm⟩ := hm
  exact ve_c (pe_glob hg hm ⟨_, rfl⟩ hd) fun _ => .int i
theorem ve_gs {x z : Str} (hm : ∃ t, X.mg x = some (.str z t)) (hg : Gl X x := by rfl) (hd : (x == ("__debug__" : Str)) = false := by decide) : VE X W (.Name x pos) (tC (.str z)) (dC (.str z)) := by
  obtain ⟨t, hm⟩ := hm
  exact ve_c (pe_glob hg hm ⟨_, rfl⟩ hd) fun _ => .str z
theorem ve_go {x : Str} {a : Addr} {d : D} (hm : X.mg x = some (.ref a)) (r : ∀ M : Hp, Rep X.K M (.ref a) d) (hg : Gl X x := by rfl) (hd : (x == ("__debug__" : Str)) = false := by decide) : VE X W (.Name x pos) (tC (.ref a)) (dC d) := ve_c (pe_glob hg hm rfl hd) r
theorem ve_ty {x : Str} {n : String} (hm : X.mg x = none) (hv : bootBuiltins x = some (.type n)) (hg : Gl X x := by rfl) (hn : x ≠ "__name__" := by decide) (hd : (x == ("__debug__" : Str)) = false := by decide) :
    VE X W (.Name x pos) (tC (.ty n)) (dC (.ty n)) := ve_c (pe_bltn hg hm hv rfl hn hd) fun _ => .ty n
end
theorem boot_int : bootBuiltins "int" = some (.type "int") := by decide +kernel
theorem boot_bool : bootBuiltins "bool" = some (.type "bool") := by decide +kernel
theorem boot_str : bootBuiltins "str" = some (.type "str") := by decide +kernel
theorem boot_list : bootBuiltins "list" = some (.type "list") := by decide +kernel
theorem boot_tuple : bootBuiltins "tuple" = some (.type "tuple") := by decide +kernel
theorem boot_dict : bootBuiltins "dict" = some (.type "dict") := by decide +kernel
/-- a def of no default, of these promises -/
theorem rdy_of {P : Program} {w : World} {K : PySem.W.Frag} {mg : Str → Option Value} {base : Heap} {k : Nat} {x : Str} {fd : FuncData} {ps : List Str} {spd : Spd} {f : Addr} (G : FnG P w K mg base k f fd ps (lift K spd)) (hm : mg x = some (.ref f)) (hk : PySem.W.keepIn K (.ref f) = true)
    (hb : Binds K fd ps []) : Rdy P w K mg base k x [] [] spd := ⟨f, fd, ps, [], G, hm, hk, hb, .nil, fun _ => .nil⟩
end VL

/-! VL: a reading over data gives a reading over the heap by itself: within a block the derivations need not tell theirs. -/
namespace VL
open PySem PySem.Spec PyProof.Rows L2

def tOf (K : PySem.W.Frag) (W : WX) (de : TEd) : TE := fun σV H Q => ∃ (F : Hp) (σ : Sd) (S : Sto) (Qd : QD) (E : XD), HSt K F H S ∧ ER K (mask F S H) σV σ ∧ de σ S Qd E ∧ LQ K F H S Qd Q ∧ LX K F W σV H S E
def tOfT (K : PySem.W.Frag) (W : WX) (de : TTd) : TT := fun σV H Q => ∃ (F : Hp) (σ : Sd) (S : Sto) (Qd : Bool → Sto → Prop) (E : XD), HSt K F H S ∧ ER K (mask F S H) σV σ ∧ de σ S Qd E ∧ (∀ b H' S', Good K F H S H' S' → Qd b S' → Q b H') ∧ LX K F W σV H S E
def gOf (K : PySem.W.Frag) (vs : List Nat) (gd : TGd) : TG := fun v σV H Q => ∃ (F : Hp) (σ : Sd) (S : Sto) (d : D) (Qd : Sd → Sto → Prop), HSt K F H S ∧ ER K (mask F S H) σV σ ∧ Rep K (mask F S H) v d ∧ gd d σ S Qd ∧
  ∀ σV' H' σ' S', Good K F H S H' S' → ER K (mask F S' H') σV' σ' → σV'.length = σV.length → (∀ i, i ∉ vs → σV'[i]? = σV[i]?) → Qd σ' S' → Q σV' H'
def iOf (K : PySem.W.Frag) (W : WX) (id : TId) : TI := fun σV H R => ∃ (F : Hp) (σ : Sd) (S : Sto) (Rd : List D → Sto → Prop) (E : XD), HSt K F H S ∧ ER K (mask F S H) σV σ ∧ id σ S Rd E ∧ (∀ J H' ds S', Good K F H S H' S' → JR K J ds (mask F S' H') → Rd ds S' → R J H') ∧ LX K F W σV H S E
section
variable {X : Cx} {W : WX} {e tg iter : Expr} {es ifs : List Expr} {vs : List Nat} {de : TEd} {dt : TTd} {gd : TGd} {id : TId} {K : PySem.W.Frag}
theorem ve_of (h : ∃ t, VE X W e t de) : VE X W e (tOf X.K W de) de := h.elim fun t v => ⟨⟨fun pins s σ H Q I ⟨F, σd, S, Qd, E, a, b, c, d, f⟩ => v.run.run pins s σ H Q I (v.snd a b c d f)⟩, fun {σV F H σ S Qd E Q} a b c d f => ⟨F, σ, S, Qd, E, a, b, c, d, f⟩⟩
theorem vts_of (h : ∃ t, VTs X W ifs t dt) : VTs X W ifs (tOfT X.K W dt) dt := h.elim fun t v => ⟨⟨fun pins s σ H Q I ⟨F, σd, S, Qd, E, a, b, c, d, f⟩ => v.run.run pins s σ H Q I (v.snd a b c d f)⟩, fun {σV F H σ S Qd E Q} a b c d f => ⟨F, σ, S, Qd, E, a, b, c, d, f⟩⟩
theorem vg_of (h : ∃ g, VG X vs e g gd) : VG X vs e (gOf X.K vs gd) gd := h.elim fun t v => ⟨⟨fun pins s σ H x u Q I r ⟨F, σd, S, d, Qd, a, b, c, k, f⟩ => v.run.run pins s σ H x u Q I r (v.snd a b c k f)⟩, fun {x d σV F H σ S Qd Q} a b c k f => ⟨F, σ, S, d, Qd, a, b, c, k, f⟩⟩
theorem vi_of (h : ∃ wi, VI X W tg iter wi id) : VI X W tg iter (iOf X.K W id) id := h.elim fun t v => ⟨⟨fun pins s σ H R I ⟨F, σd, S, Rd, E, a, b, c, d, f⟩ => v.run.run pins s σ H R I (v.snd a b c d f)⟩, fun {σV F H σ S Rd E R} a b c d f => ⟨F, σ, S, Rd, E, a, b, c, d, f⟩⟩
end
section
variable {X : Cx} {W : WX} {pos : Pos} {wi : TI} {id id1 : TId} {gd gd1 : TGd} {dt dt1 : TTd} {de : TEd} {tg iter elt tg1 iter1 : Expr} {ifs ifs1 : List Expr} {scope : Scope} {own : List (Str × Nat)} {vs1 : List Nat}
/-- what a comprehension's block must do: its target, its tests, its item -/
abbrev BlkG (X : Cx) (scope : Scope) (vs : List Nat) (tg : Expr) (gd : TGd) : Prop := ∀ (s : Shared) (H : Hp) (C : Addr) (cl : List (Str × Addr)) (fp : List Addr), ∃ g, VG (X.blk s H scope (compEnvC scope cl C X.env) fp) vs tg g gd
abbrev BlkT (X : Cx) (scope : Scope) (ifs : List Expr) (dt : TTd) : Prop := ∀ (s : Shared) (H : Hp) (C : Addr) (cl : List (Str × Addr)) (fp : List Addr), ∃ t, VTs (X.blk s H scope (compEnvC scope cl C X.env) fp) WF ifs t dt
abbrev BlkE (X : Cx) (scope : Scope) (elt : Expr) (de : TEd) : Prop := ∀ (s : Shared) (H : Hp) (C : Addr) (cl : List (Str × Addr)) (fp : List Addr), ∃ t, VE (X.blk s H scope (compEnvC scope cl C X.env) fp) WF elt t de
abbrev BlkI (X : Cx) (scope : Scope) (tg iter : Expr) (id : TId) : Prop := ∀ (s : Shared) (H : Hp) (C : Addr) (cl : List (Str × Addr)) (fp : List Addr), ∃ wi, VI (X.blk s H scope (compEnvC scope cl C X.env) fp) WF tg iter wi id
theorem ve_lcX (hc : X.calm = true) (hN : X.N.Nodup) (hi : VI X W tg iter wi id) (ok : BlkOk X.N X.env.scope scope own) (hg : BlkG X scope (own.map (·.2)) tg gd) (ht : BlkT X scope ifs dt) (he : BlkE X scope elt de) (hs : ∀ x, foldedSetIterable iter X.env x = pure x := by intro _; rfl) :
    VE X W (.ListComp elt [⟨tg, iter, ifs, 0⟩] scope pos) (tLc wi (gOf X.K (own.map (·.2)) gd) (tOfT X.K WF dt) (tOf X.K WF de) (own.map (·.2))) (dLc id gd dt de (own.map (·.2))) :=
  ve_lc hc hN hi ok (fun s H C cl fp => vg_of (hg s H C cl fp)) (fun s H C cl fp => vts_of (ht s H C cl fp)) (fun s H C cl fp => ve_of (he s H C cl fp)) hs
theorem ve_lcMX (hc : X.calm = true) (hN : X.N.Nodup) (hi : VI X W tg iter wi id) (ok : BlkOk X.N X.env.scope scope own) (hg : BlkG X scope (own.map (·.2)) tg gd) (ht : BlkT X scope ifs dt) (he : BlkE X scope elt de) (hs : ∀ x, foldedSetIterable iter X.env x = pure x := by intro _; rfl) :
    VE X W (.ListComp elt [⟨tg, iter, ifs, 0⟩] scope pos) (tLc wi (gOf X.K (own.map (·.2)) gd) (tOfT X.K WF dt) (tOf X.K WF de) (own.map (·.2))) (dLcM id gd dt de (own.map (·.2))) :=
  ve_lcM hc hN hi ok (fun s H C cl fp => vg_of (hg s H C cl fp)) (fun s H C cl fp => vts_of (ht s H C cl fp)) (fun s H C cl fp => ve_of (he s H C cl fp)) hs
theorem ve_lc2X (hc : X.calm = true) (hN : X.N.Nodup) (hi : VI X W tg iter wi id) (ok : BlkOk X.N X.env.scope scope own) (hv : ∀ i ∈ vs1, i ∈ own.map (·.2)) (hg : BlkG X scope (own.map (·.2)) tg gd) (ht : BlkT X scope ifs dt) (hi1 : BlkI X scope tg1 iter1 id1) (hg1 : BlkG X scope vs1 tg1 gd1) (ht1 : BlkT X scope ifs1 dt1)
    (he : BlkE X scope elt de) (hs : ∀ x, foldedSetIterable iter X.env x = pure x := by intro _; rfl) (hs1 : ∀ env x, foldedSetIterable iter1 env x = pure x := by intro _ _; rfl) :
    VE X W (.ListComp elt [⟨tg, iter, ifs, 0⟩, ⟨tg1, iter1, ifs1, 0⟩] scope pos) (tLc2 wi (gOf X.K (own.map (·.2)) gd) (tOfT X.K WF dt) (iOf X.K WF id1) (gOf X.K vs1 gd1) (tOfT X.K WF dt1) (tOf X.K WF de) (own.map (·.2)) vs1) (dLc2 id gd dt id1 gd1 dt1 de (own.map (·.2)) vs1) :=
  ve_lc2 hc hN hi ok hv (fun s H C cl fp => vg_of (hg s H C cl fp)) (fun s H C cl fp => vts_of (ht s H C cl fp)) (fun s H C cl fp => vi_of (hi1 s H C cl fp)) (fun s H C cl fp => vg_of (hg1 s H C cl fp)) (fun s H C cl fp => vts_of (ht1 s H C cl fp)) (fun s H C cl fp => ve_of (he s H C cl fp)) hs hs1
theorem ve_lc2MX (hc : X.calm = true) (hN : X.N.Nodup) (hi : VI X W tg iter wi id) (ok : BlkOk X.N X.env.scope scope own) (hv : ∀ i ∈ vs1, i ∈ own.map (·.2)) (hg : BlkG X scope (own.map (·.2)) tg gd) (ht : BlkT X scope ifs dt) (hi1 : BlkI X scope tg1 iter1 id1) (hg1 : BlkG X scope vs1 tg1 gd1) (ht1 : BlkT X scope ifs1 dt1)
    (he : BlkE X scope elt de) (hs : ∀ x, foldedSetIterable iter X.env x = pure x := by intro _; rfl) (hs1 : ∀ env x, foldedSetIterable iter1 env x = pure x := by intro _ _; rfl) :
    VE X W (.ListComp elt [⟨tg, iter, ifs, 0⟩, ⟨tg1, iter1, ifs1, 0⟩] scope pos) (tLc2 wi (gOf X.K (own.map (·.2)) gd) (tOfT X.K WF dt) (iOf X.K WF id1) (gOf X.K vs1 gd1) (tOfT X.K WF dt1) (tOf X.K WF de) (own.map (·.2)) vs1) (dLc2M id gd dt id1 gd1 dt1 de (own.map (·.2)) vs1) :=
  ve_lc2M hc hN hi ok hv (fun s H C cl fp => vg_of (hg s H C cl fp)) (fun s H C cl fp => vts_of (ht s H C cl fp)) (fun s H C cl fp => vi_of (hi1 s H C cl fp)) (fun s H C cl fp => vg_of (hg1 s H C cl fp)) (fun s H C cl fp => vts_of (ht1 s H C cl fp)) (fun s H C cl fp => ve_of (he s H C cl fp)) hs hs1
theorem vs_setLcX {j : Nat} {y : Str} {py spos : Pos} (hc : X.calm = true) (hN : X.N.Nodup) (hi : VI X W tg iter wi id) (ok : BlkOk X.N X.env.scope scope own) (hg : BlkG X scope (own.map (·.2)) tg gd) (ht : BlkT X scope ifs dt) (he : BlkE X scope elt de) (hy : X.N[j]? = some y := by rfl) (hyl : X.env.scope.names.lookup y = some .local := by rfl)
    (hk : X.env.scope.kind = .function := by rfl) (hln : (py.line == pos.line) = true := by rfl) (ha : (scope.names.any fun (n, k) => n == y && (k == .local || k == .cell)) = false := by rfl) (hl2 : spos.line = pos.line := by rfl) (hs : ∀ x, foldedSetIterable iter X.env x = pure x := by intro _; rfl) :
    VS X W (.Assign [.Name y py] (.ListComp elt [⟨tg, iter, ifs, 0⟩] scope pos) spos) (tAsg (tLc wi (gOf X.K (own.map (·.2)) gd) (tOfT X.K WF dt) (tOf X.K WF de) (own.map (·.2))) (gName j)) (dAsg (dLc id gd dt de (own.map (·.2))) (hName j)) :=
  vs_setLc hc hN hi ok (fun s H C cl fp => vg_of (hg s H C cl fp)) (fun s H C cl fp => vts_of (ht s H C cl fp)) (fun s H C cl fp => ve_of (he s H C cl fp)) hy hyl hk hln ha hl2 hs
theorem vs_setLcMX {j : Nat} {y : Str} {py spos : Pos} (hc : X.calm = true) (hN : X.N.Nodup) (hi : VI X W tg iter wi id) (ok : BlkOk X.N X.env.scope scope own) (hg : BlkG X scope (own.map (·.2)) tg gd) (ht : BlkT X scope ifs dt) (he : BlkE X scope elt de) (hy : X.N[j]? = some y := by rfl) (hyl : X.env.scope.names.lookup y = some .local := by rfl)
    (hk : X.env.scope.kind = .function := by rfl) (hln : (py.line == pos.line) = true := by rfl) (ha : (scope.names.any fun (n, k) => n == y && (k == .local || k == .cell)) = false := by rfl) (hl2 : spos.line = pos.line := by rfl) (hs : ∀ x, foldedSetIterable iter X.env x = pure x := by intro _; rfl) :
    VS X W (.Assign [.Name y py] (.ListComp elt [⟨tg, iter, ifs, 0⟩] scope pos) spos) (tAsg (tLc wi (gOf X.K (own.map (·.2)) gd) (tOfT X.K WF dt) (tOf X.K WF de) (own.map (·.2))) (gName j)) (dAsg (dLcM id gd dt de (own.map (·.2))) (hName j)) :=
  vs_setLcM hc hN hi ok (fun s H C cl fp => vg_of (hg s H C cl fp)) (fun s H C cl fp => vts_of (ht s H C cl fp)) (fun s H C cl fp => ve_of (he s H C cl fp)) hy hyl hk hln ha hl2 hs
end

/-! the same of suites -/
def sOf (K : PySem.W.Frag) (W : WX) (td : TSd) : TS := fun D σV H => ∃ (F : Hp) (σ : Sd) (S : Sto) (Dd : EndsD), HSt K F H S ∧ ER K (mask F S H) σV σ ∧ td Dd σ S ∧ LS K F W H S Dd D
theorem vss_of {X : Cx} {W : WX} {l : List Stmt} {td : TSd} (h : ∃ t, VSs X W l t td) : VSs X W l (sOf X.K W td) td := h.elim fun t v => ⟨⟨fun pins s σ H D I ⟨F, σd, S, Dd, a, b, c, d⟩ => v.run.run pins s σ H D I (v.snd a b c d)⟩, fun {σV F H σ S Dd D} a b c d => ⟨F, σ, S, Dd, a, b, c, d⟩⟩
theorem vs_tryX {X : Cx} {x n : Str} {c : Value} {i : Nat} {body suite : List Stmt} {b₀ : Stmt} {np pos pos' : Pos} {tbd : TSd} {tsd : Addr → Value → Option Addr → TSd} {W : WX} {sub : Value → Option Bool} (hs : X.stack = X.env :: X.outer) (hf : X.env.frame = some X.env.locals) (hN : X.N.Nodup) (hi : X.N[i]? = some n) (hln : X.env.kindOf n = some .local)
    (hc : Names X x c) (tk : Takes X W) (hsub : ∀ cls b, sub cls = some b → PySem.W.exmOne X.K cls c = some b)
    (hb : ∀ (W' : WX) (pn : List (Addr × Obj)) (xe : Value → Shared → Prop), Takes (X.tr pn xe) W' → PassesOwn (model X.prog X.w) X.A X.env xe → ∃ t, VSs (X.tr pn xe) W' body t tbd)
    (hsu : ∀ (a : Addr) (oe : Obj) (cls : Value) (d : Option Addr) (pn : List (Addr × Obj)), Zc cls d oe → (∃ vs, oe.data = .fields vs) → ∃ t, VSs (X.suite a ((a, oe) :: pn)) WF (b₀ :: suite) t (tsd a cls d)) :
    VS X W (.Try body [.ExceptHandler (some (.Name x np)) (some n) (b₀ :: suite) pos'] [] [] pos) (fun D σ H => sOf X.K (wAs X.K c i (fun a cls d => sOf X.K WF (tsd a cls d)) W D) tbd D σ H) (dTryAs sub i tbd tsd) :=
  vs_try_as (tb := fun W' => sOf X.K W' tbd) (ts := fun a cls d => sOf X.K WF (tsd a cls d)) hs hf hN hi hln hc tk hsub (fun W' pn xe a b => vss_of (hb W' pn xe a b)) (fun W' => fun {σV F H σ S Dd D} a b c d => ⟨F, σ, S, Dd, a, b, c, d⟩) (fun a oe cls d pn h1 h2 => vss_of (hsu a oe cls d pn h1 h2))
end VL

/-! VL: the readings, as simp reads them. -/
namespace VL
open PySem PySem.Spec PyProof.Rows L2

@[simp ↓] theorem z_dSeq {t u : TSd} {D : EndsD} {σ : Sd} {S : Sto} : dSeq t u D σ S = t { D with nx := u D } σ S := rfl
@[simp ↓] theorem z_dNext {D : EndsD} {σ : Sd} {S : Sto} : dNext D σ S = D.nx σ S := rfl
@[simp ↓] theorem z_dNever {D : EndsD} {σ : Sd} {S : Sto} : dNever D σ S = False := rfl
@[simp ↓] theorem z_dBreak {D : EndsD} {σ : Sd} {S : Sto} : dBreak D σ S = D.bk σ S := rfl
@[simp ↓] theorem z_dCont {D : EndsD} {σ : Sd} {S : Sto} : dCont D σ S = D.ct σ S := rfl
@[simp ↓] theorem z_dDrop {de : TEd} {D : EndsD} {σ : Sd} {S : Sto} : dDrop de D σ S = de σ S (fun _ S1 => D.nx σ S1) (D.ex σ) := rfl
@[simp ↓] theorem z_dRet {de : TEd} {D : EndsD} {σ : Sd} {S : Sto} : dRet de D σ S = de σ S D.rt (D.ex σ) := rfl
@[simp ↓] theorem z_dRetN {D : EndsD} {σ : Sd} {S : Sto} : dRetN D σ S = D.rt .non S := rfl
@[simp ↓] theorem z_dIf {c : TTd} {t u : TSd} {D : EndsD} {σ : Sd} {S : Sto} : dIf c t u D σ S = c σ S (fun b S1 => if b = true then t D σ S1 else u D σ S1) (D.ex σ) := rfl
@[simp ↓] theorem z_dAsg {de : TEd} {gd : TGd} {D : EndsD} {σ : Sd} {S : Sto} : dAsg de gd D σ S = de σ S (fun d S1 => gd d σ S1 D.nx) (D.ex σ) := rfl
@[simp ↓] theorem z_dPar {j k : Nat} {da : TAd} {D : EndsD} {σ : Sd} {S : Sto} : dPar j k da D σ S = da σ S (fun ds S1 => match ds with | [x, y] => D.nx ((σ.set j (some x)).set k (some y)) S1 | _ => False) (D.ex σ) := rfl
@[simp ↓] theorem z_dAug {j : Nat} {f : Int → Int → Int} {de : TEd} {D : EndsD} {σ : Sd} {S : Sto} : dAug j f de D σ S = (match σ[j]? with | some (some (.int i)) => de σ S (fun d S1 => match d with | .int k => D.nx (σ.set j (some (.int (f i k)))) S1 | _ => False) (D.ex σ) | _ => False) := rfl
@[simp ↓] theorem z_hName {i : Nat} {d : D} {σ : Sd} {S : Sto} {Q : Sd → Sto → Prop} : hName i d σ S Q = Q (σ.set i (some d)) S := rfl
@[simp ↓] theorem z_hNil0 {σ : Sd} {S : Sto} {Q : Sd → Sto → Prop} : hNil [] σ S Q = Q σ S := rfl
@[simp ↓] theorem z_hCons {t : TGd} {u : TGsd} {d : D} {ds : List D} {σ : Sd} {S : Sto} {Q : Sd → Sto → Prop} : hCons t u (d :: ds) σ S Q = t d σ S fun σ1 S1 => u ds σ1 S1 Q := rfl
@[simp ↓] theorem z_dVar {i : Nat} {σ : Sd} {S : Sto} {Q : QD} {E : XD} : dVar i σ S Q E = (match σ[i]? with | some (some d) => Q d S | _ => False) := rfl
@[simp ↓] theorem z_dC {d : D} {σ : Sd} {S : Sto} {Q : QD} {E : XD} : dC d σ S Q E = Q d S := rfl
@[simp ↓] theorem z_dOp {rd : R2d} {ta tb : TEd} {σ : Sd} {S : Sto} {Q : QD} {E : XD} : dOp rd ta tb σ S Q E = ta σ S (fun x S1 => tb σ S1 (fun y S2 => rd x y S2 Q) E) E := rfl
@[simp ↓] theorem z_dAdd {x y : D} {S : Sto} {Q : QD} : dAdd x y S Q = (match vw S x, vw S y with | .int i, .int j => Q (.int (i + j)) S | .str i, .str j => i.length + j.length ≤ sizeLine ∧ Q (.str (i ++ j)) S | .lst i, .lst j => i.length ≤ sizeLine ∧ j.length ≤ sizeLine ∧ i.length + j.length ≤ sizeLine ∧ Q (.lst (i ++ j)) S | _, _ => False) := rfl
@[simp ↓] theorem z_dNil {σ : Sd} {S : Sto} {Q : List D → Sto → Prop} {E : XD} : dNil σ S Q E = Q [] S := rfl
@[simp ↓] theorem z_dCons {de : TEd} {dr : TAd} {σ : Sd} {S : Sto} {Q : List D → Sto → Prop} {E : XD} : dCons de dr σ S Q E = de σ S (fun d S1 => dr σ S1 (fun ds S2 => Q (d :: ds) S2) E) E := rfl
@[simp ↓] theorem z_dTup {da : TAd} {σ : Sd} {S : Sto} {Q : QD} {E : XD} : dTup da σ S Q E = da σ S (fun ds S1 => ds.length ≤ sizeLine ∧ Q (.tup ds) S1) E := rfl
@[simp ↓] theorem z_dLst {da : TAd} {σ : Sd} {S : Sto} {Q : QD} {E : XD} : dLst da σ S Q E = da σ S (fun ds S1 => ds.length ≤ sizeLine ∧ Q (.lst ds) S1) E := rfl
@[simp ↓] theorem z_dLstM {da : TAd} {σ : Sd} {S : Sto} {Q : QD} {E : XD} : dLstM da σ S Q E = da σ S (fun ds S1 => ds.length ≤ sizeLine ∧ ∀ p, S1 p = none → Q (.ref p) (put S1 p (.lst ds))) E := rfl
@[simp ↓] theorem z_dDctM {σ : Sd} {S : Sto} {Q : QD} {E : XD} : dDctM σ S Q E = ∀ p, S p = none → Q (.ref p) (put S p (.dct [])) := rfl
@[simp ↓] theorem z_dCB {rd : RCd} {da : TAd} {σ : Sd} {S : Sto} {Q : QD} {E : XD} : dCB rd da σ S Q E = da σ S (fun ds S1 => rd ds S1 Q) E := rfl
@[simp ↓] theorem z_dCall {spd : Spd} {dds : List D} {da : TAd} {σ : Sd} {S : Sto} {Q : QD} {E : XD} : dCall spd dds da σ S Q E = da σ S (fun ds S1 => spd (ds ++ dds) S1 Q E) E := rfl
@[simp ↓] theorem z_dCallK {n m : Nat} {spd : Spd} {gD : List D → List D → List D} {da dk : TAd} {σ : Sd} {S : Sto} {Q : QD} {E : XD} : dCallK n m spd gD da dk σ S Q E = da σ S (fun ds S1 => dk σ S1 (fun zs S2 => ds.length = n ∧ zs.length = m ∧ spd (gD ds zs) S2 Q E) E) E := rfl
@[simp ↓] theorem z_dYes {σ : Sd} {S : Sto} {Q : Bool → Sto → Prop} {E : XD} : dYes σ S Q E = Q true S := rfl
@[simp ↓] theorem z_dIfE {dt : TTd} {da db : TEd} {σ : Sd} {S : Sto} {Q : QD} {E : XD} : dIfE dt da db σ S Q E = dt σ S (fun c S1 => if c = true then da σ S1 Q E else db σ S1 Q E) E := rfl
@[simp ↓] theorem z_dAndT {t u : TTd} {σ : Sd} {S : Sto} {Q : Bool → Sto → Prop} {E : XD} : dAndT t u σ S Q E = t σ S (fun c S1 => if c = true then u σ S1 Q E else Q false S1) E := rfl
@[simp ↓] theorem z_dOrT {t u : TTd} {σ : Sd} {S : Sto} {Q : Bool → Sto → Prop} {E : XD} : dOrT t u σ S Q E = t σ S (fun c S1 => if c = true then Q true S1 else u σ S1 Q E) E := rfl
@[simp ↓] theorem z_dNotT {t : TTd} {σ : Sd} {S : Sto} {Q : Bool → Sto → Prop} {E : XD} : dNotT t σ S Q E = t σ S (fun c S1 => Q (!c) S1) E := rfl
@[simp ↓] theorem z_dNoPart {σ : Sd} {S : Sto} {Q : Option Int → Sto → Prop} {E : XD} : dNoPart σ S Q E = Q none S := rfl
@[simp ↓] theorem z_dRaiseO {C : Addr} {f : Str} {de : TEd} {D : EndsD} {σ : Sd} {S : Sto} : dRaiseO C f de D σ S = de σ S (fun d S1 => D.ex σ (.ref C) [(f, d)] S1) (D.ex σ) := rfl
@[simp ↓] theorem z_dFor {id : TId} {gd : TGd} {tb : TSd} {D : EndsD} {σ : Sd} {S : Sto} : dFor id gd tb D σ S = id σ S (fun ds S1 => dForL gd tb D ds σ S1) (D.ex σ) := rfl
@[simp ↓] theorem z_dForL0 {gd : TGd} {tb : TSd} {Z : EndsD} {σ : Sd} {S : Sto} : dForL gd tb Z [] σ S = Z.nx σ S := rfl
@[simp ↓] theorem z_dLc {id : TId} {gd : TGd} {dt : TTd} {de : TEd} {vs : List Nat} {σ : Sd} {S : Sto} {Q : QD} {E : XD} : dLc id gd dt de vs σ S Q E = id σ S (fun ds S1 => ds.length ≤ sizeLine ∧ dLcL gd dt de (wipeD σ vs) (fun acc S2 => Q (.lst acc) S2) ds [] S1) E := rfl
@[simp ↓] theorem z_dLcM {id : TId} {gd : TGd} {dt : TTd} {de : TEd} {vs : List Nat} {σ : Sd} {S : Sto} {Q : QD} {E : XD} : dLcM id gd dt de vs σ S Q E = id σ S (fun ds S1 => ds.length ≤ sizeLine ∧ dLcL gd dt de (wipeD σ vs) (fun acc S2 => ∀ p, S2 p = none → Q (.ref p) (put S2 p (.lst acc))) ds [] S1) E := rfl
@[simp ↓] theorem z_dPart {td : TEd} {σ : Sd} {S : Sto} {Q : Option Int → Sto → Prop} {E : XD} : dPart td σ S Q E = (td σ S (fun d S1 => match d with
  | .int i => Q (some i) S1
  | _ => False) E) := rfl
@[simp ↓] theorem z_dSlice {de : TEd} {dl dh : TOd} {σ : Sd} {S : Sto} {Q : QD} {E : XD} : dSlice de dl dh σ S Q E = (de σ S (fun x S1 => dl σ S1 (fun lo S2 => dh σ S2 (fun hi S3 => match vw S3 x with
  | .lst ds => Q (.lst (cutD ds lo hi)) S3
  | .tup ds => ¬ (HT.sIx ds.length 0 lo = 0 ∧ HT.sIx ds.length ds.length hi = ds.length) ∧ Q (.tup (cutD ds lo hi)) S3
  | .str z => z.length ≤ sizeLine ∧ Q (.str (cutS z lo hi)) S3
  | _ => False) E) E) E) := rfl
@[simp ↓] theorem z_dIx  {x y : D} {S : Sto} {Q : QD} : dIx  x y S Q = (match vw S x with
  | .lst ds => match y with
    | .int i => match atI ds i with
      | some d => Q d S
      | none => False
    | _ => False
  | .tup ds => match y with
    | .int i => match atI ds i with
      | some d => Q d S
      | none => False
    | _ => False
  | .str z => match y with
    | .int i => z.length ≤ sizeLine ∧ match atI z.cps.toList i with
      | some c => Q (.str ⟨#[c]⟩) S
      | none => False
    | _ => False
  | .dct kds => match keyD y with
    | some k => match getK kds k with
      | some d => Q d S
      | none => False
    | none => False
  | _ => False) := rfl
@[simp ↓] theorem z_dInG {g : Bool → Bool} {x y : D} {S : Sto} {Q : QD} : dInG g x y S Q = (match vw S y with
  | .lst ds => flatD x = true ∧ ds.all flatD = true ∧ Q (.bl (g (inD x ds))) S
  | .tup ds => flatD x = true ∧ ds.all flatD = true ∧ Q (.bl (g (inD x ds))) S
  | .dct kds => match keyD x with
    | some k => Q (.bl (g (getK kds k).isSome)) S
    | none => False
  | .str z => match signD x with
    | some c => Q (.bl (g (decide (c ∈ z.cps.toList)))) S
    | none => False
  | _ => False) := rfl
@[simp ↓] theorem z_iOp {C : Int → Int → Prop} {g : Int → Int → Int} {x y : D} {S : Sto} {Q : QD} : iOp C g x y S Q = (match vw S x, vw S y with
  | .int i, .int j => C i j ∧ Q (.int (g i j)) S
  | _, _ => False) := rfl
@[simp ↓] theorem z_iCmp {g : Int → Int → Bool} {x y : D} {S : Sto} {Q : QD} : iCmp g x y S Q = (match vw S x, vw S y with
  | .int i, .int j => Q (.bl (g i j)) S
  | _, _ => False) := rfl
@[simp ↓] theorem z_dIsG {g : Bool → Bool} {x y : D} {S : Sto} {Q : QD} : dIsG g x y S Q = (match x, y with
  | d, .non => Q (.bl (g (isNon d))) S
  | .bl i, .bl j => Q (.bl (g (decide (i = j)))) S
  | _, _ => False) := rfl
@[simp ↓] theorem z_dTest {de : TEd} {σ : Sd} {S : Sto} {Q : Bool → Sto → Prop} {E : XD} : dTest de σ S Q E = (de σ S (fun x S1 => match x with
  | .bl k => Q k S1
  | _ => False) E) := rfl
@[simp ↓] theorem z_dAndV {da db : TEd} {σ : Sd} {S : Sto} {Q : QD} {E : XD} : dAndV da db σ S Q E = (da σ S (fun x S1 => match x with
  | .bl c => if c = true then db σ S1 Q E else Q (.bl false) S1
  | _ => False) E) := rfl
@[simp ↓] theorem z_dOrV {da db : TEd} {σ : Sd} {S : Sto} {Q : QD} {E : XD} : dOrV da db σ S Q E = (da σ S (fun x S1 => match x with
  | .bl c => if c = true then Q (.bl true) S1 else db σ S1 Q E
  | _ => False) E) := rfl
@[simp ↓] theorem z_dNotV {da : TEd} {σ : Sd} {S : Sto} {Q : QD} {E : XD} : dNotV da σ S Q E = (da σ S (fun x S1 => match x with
  | .bl c => Q (.bl (!c)) S1
  | _ => False) E) := rfl
@[simp ↓] theorem z_dNeg {da : TEd} {σ : Sd} {S : Sto} {Q : QD} {E : XD} : dNeg da σ S Q E = (da σ S (fun x S1 => match x with | .int i => Q (.int (-i)) S1 | _ => False) E) := rfl
@[simp ↓] theorem z_dChain (rd rd' : R2d) {da db dc : TEd} {σ : Sd} {S : Sto} {Q : QD} {E : XD} : dChain rd rd' da db dc σ S Q E = (da σ S (fun x S1 => db σ S1 (fun y S2 => rd x y S2 (fun z S3 => match z with
  | .bl k => if k = true then dc σ S3 (fun u S4 => rd' y u S4 Q) E else Q (.bl false) S3
  | _ => False)) E) E) := rfl
@[simp ↓] theorem z_hTup {n : Nat} {t : TGsd} {d : D} {σ : Sd} {S : Sto} {Q : Sd → Sto → Prop} : hTup n t d σ S Q = (match vw S d with
  | .tup ds => ds.length = n ∧ t ds σ S Q
  | .lst ds => ds.length = n ∧ t ds σ S Q
  | _ => False) := rfl
@[simp ↓] theorem z_nAny {de : TEd} {σ : Sd} {S : Sto} {R : List D → Sto → Prop} {E : XD} : nAny de σ S R E = (de σ S (fun d S1 => match d with
  | .lst ds => R ds S1
  | .tup ds => R ds S1
  | .str x => R (signs x) S1
  | _ => False) E) := rfl
@[simp ↓] theorem z_nZip {da : TAd} {σ : Sd} {S : Sto} {R : List D → Sto → Prop} {E : XD} : nZip da σ S R E = (da σ S (fun ds S1 => match ds with
  | [.lst xs, .lst ys] => R (zipD xs ys) S1
  | [.tup xs, .tup ys] => R (zipD xs ys) S1
  | _ => False) E) := rfl
@[simp ↓] theorem z_nEnum {da : TAd} {σ : Sd} {S : Sto} {R : List D → Sto → Prop} {E : XD} : nEnum da σ S R E = (da σ S (fun ds S1 => match ds with
  | [.lst xs] => R (enumD 0 xs) S1
  | _ => False) E) := rfl
@[simp ↓] theorem z_nRng1 {da : TAd} {σ : Sd} {S : Sto} {R : List D → Sto → Prop} {E : XD} : nRng1 da σ S R E = (da σ S (fun ds S1 => match ds with
  | [.int j] => (-(2 ^ 62) ≤ j ∧ j < 2 ^ 62) ∧ R (rangeD 0 j.toNat) S1
  | _ => False) E) := rfl
@[simp ↓] theorem z_nRng2 {da : TAd} {σ : Sd} {S : Sto} {R : List D → Sto → Prop} {E : XD} : nRng2 da σ S R E = (da σ S (fun ds S1 => match ds with
  | [.int i, .int j] => (-(2 ^ 62) ≤ i ∧ i < 2 ^ 62 ∧ -(2 ^ 62) ≤ j ∧ j < 2 ^ 62) ∧ R (rangeD i (j - i).toNat) S1
  | _ => False) E) := rfl
@[simp ↓] theorem z_dLen  {ds : List D} {S : Sto} {Q : QD} : dLen  ds S Q = (match ds with
  | [x] => match vw S x with
    | .lst l => Q (.int l.length) S
    | .tup l => Q (.int l.length) S
    | .dct l => Q (.int l.length) S
    | .str z => z.length ≤ sizeLine ∧ Q (.int z.length) S
    | _ => False
  | _ => False) := rfl
@[simp ↓] theorem z_dAll  {ds : List D} {S : Sto} {Q : QD} : dAll  ds S Q = (match ds with
  | [x] => match vw S x with
    | .lst l => match bools l with
      | some bs => Q (.bl (bs.all id)) S
      | none => False
    | _ => False
  | _ => False) := rfl
@[simp ↓] theorem z_dAny  {ds : List D} {S : Sto} {Q : QD} : dAny  ds S Q = (match ds with
  | [x] => match vw S x with
    | .lst l => match bools l with
      | some bs => Q (.bl (bs.any id)) S
      | none => False
    | _ => False
  | _ => False) := rfl
@[simp ↓] theorem z_dSum  {ds : List D} {S : Sto} {Q : QD} : dSum  ds S Q = (match ds with
  | [x] => match vw S x with
    | .lst l => match intsD l with
      | some bs => Q (.int bs.sum) S
      | none => False
    | _ => False
  | _ => False) := rfl
@[simp ↓] theorem z_dIsi  {ds : List D} {S : Sto} {Q : QD} : dIsi  ds S Q = (match ds with
  | [x, .ty n] => match tyN (vw S x) with
    | some t => kindsB.contains n = true ∧ Q (.bl (isT t n)) S
    | none => False
  | [x, .tup ns] => match tyN (vw S x), tysD ns with
    | some t, some l => l.all kindsB.contains = true ∧ Q (.bl (l.any (isT t))) S
    | _, _ => False
  | _ => False) := rfl
@[simp ↓] theorem z_dListOf  {ds : List D} {S : Sto} {Q : QD} : dListOf  ds S Q = (match ds with
  | [x] => match vw S x with
    | .lst l => Q (.lst l) S
    | .tup l => Q (.lst l) S
    | _ => False
  | _ => False) := rfl
@[simp ↓] theorem z_dListOfM  {ds : List D} {S : Sto} {Q : QD} : dListOfM  ds S Q = (match ds with
  | [x] => match vw S x with
    | .lst l => ∀ p, S p = none → Q (.ref p) (put S p (.lst l))
    | .tup l => ∀ p, S p = none → Q (.ref p) (put S p (.lst l))
    | _ => False
  | _ => False) := rfl
@[simp ↓] theorem z_dTupOf  {ds : List D} {S : Sto} {Q : QD} : dTupOf  ds S Q = (match ds with
  | [x] => match vw S x with
    | .lst l => Q (.tup l) S
    | .tup l => Q (.tup l) S
    | _ => False
  | _ => False) := rfl
@[simp ↓] theorem z_dStr  {ds : List D} {S : Sto} {Q : QD} : dStr  ds S Q = (match ds with
  | [.int i] => i.natAbs.log2 < 1920 ∧ Q (.str (toString i)) S
  | _ => False) := rfl
@[simp ↓] theorem z_dInt  {ds : List D} {S : Sto} {Q : QD} : dInt  ds S Q = (match ds with
  | [.int i] => Q (.int i) S
  | [.bl k] => Q (.int (if k then 1 else 0)) S
  | [.str a] => match PySem.intText? a with
    | some n => a.length ≤ 640 ∧ Q (.int n) S
    | none => False
  | _ => False) := rfl
@[simp ↓] theorem z_dMM {g : Int → Int → Int} {ds : List D} {S : Sto} {Q : QD} : dMM g ds S Q = (match ds with
  | [.int i, .int j] => Q (.int (g i j)) S
  | _ => False) := rfl
@[simp ↓] theorem z_dAbs  {ds : List D} {S : Sto} {Q : QD} : dAbs  ds S Q = (match ds with
  | [.int i] => Q (.int (if i < 0 then -i else i)) S
  | _ => False) := rfl
@[simp ↓] theorem z_dSetI {de d0 di : TEd} {D : EndsD} {σ : Sd} {S : Sto} : dSetI de d0 di D σ S = (de σ S (fun v S1 => d0 σ S1 (fun x S2 => di σ S2 (fun y S3 => match x with
  | .ref p => match S3 p with
    | some (.lst ds) => match y with
      | .int k => match ixN ds.length k with
        | some j => D.nx σ (put S3 p (.lst (ds.set j v)))
        | none => False
      | _ => False
    | some (.dct kds) => match keyD y with
      | some k => kds.length < sizeLine ∧ D.nx σ (put S3 p (.dct (putKD kds k v)))
      | none => False
    | _ => False
  | _ => False) (D.ex σ)) (D.ex σ)) (D.ex σ)) := rfl
@[simp ↓] theorem z_dAppend {d0 : TEd} {da : TAd} {σ : Sd} {S : Sto} {Q : QD} {E : XD} : dAppend d0 da σ S Q E = (d0 σ S (fun x S1 => match x with
  | .ref p => (∃ es, S1 p = some (.lst es)) ∧ da σ S1 (fun vs S2 => match vs with
    | [v] => match S2 p with
      | some (.lst ds) => ds.length < sizeLine ∧ Q .non (put S2 p (.lst (ds ++ [v])))
      | _ => False
    | _ => False) E
  | _ => False) E) := rfl
@[simp ↓] theorem z_dListVals {de : TEd} {σ : Sd} {S : Sto} {Q : QD} {E : XD} : dListVals de σ S Q E = (de σ S (fun x S1 => match vw S1 x with
  | .dct kds => Q (.lst (kds.map (·.2))) S1
  | _ => False) E) := rfl
@[simp ↓] theorem z_dRepr  {ds : List D} {S : Sto} {Q : QD} : dRepr  ds S Q = (match ds with
  | [x] => match toP (vw S x) with
    | some p => p.showable = true ∧ p.depth ≤ 64 ∧ p.shown.length ≤ sizeLine ∧ Q (.str p.shown) S
    | none => False
  | _ => False) := rfl
@[simp ↓] theorem z_dSee {j : Nat} {td : TSd} {D : EndsD} {σ : Sd} {S : Sto} : dSee j td D σ S = (match σ[j]? with
  | some (some (.ref a)) => match S a with
    | some (.lst ds) => td D (σ.set j (some (.lst ds))) (era S a)
    | some (.dct ds) => td D (σ.set j (some (.dct ds))) (era S a)
    | _ => False
  | _ => False) := rfl

/-! equality of data -/
section
variable {g : Bool → Bool} {S : Sto} {Q : QD}
@[simp ↓] theorem z_eqI {i j : Int} : dEqG g (.int i) (.int j) S Q = Q (.bl (g (decide (i = j)))) S := rfl
@[simp ↓] theorem z_eqS {i j : Str} : dEqG g (.str i) (.str j) S Q = Q (.bl (g (decide (i = j)))) S := rfl
@[simp ↓] theorem z_eqB {i j : Bool} : dEqG g (.bl i) (.bl j) S Q = Q (.bl (g (decide (i = j)))) S := rfl
theorem eqG_of {x y : D} {p q : PyData} (hx : toP (vw S x) = some p) (hy : toP (vw S y) = some q) (h : ∀ b, b = PyData.eqv p q → Q (.bl (g b)) S) (hp : SeqAt.shaped p = true) (hq : SeqAt.shaped q = true)
    (ni : ∀ i j, vw S x = .int i → vw S y ≠ .int j) (ns : ∀ i j, vw S x = .str i → vw S y ≠ .str j) (nb : ∀ i j, vw S x = .bl i → vw S y ≠ .bl j) : dEqG g x y S Q := by
  unfold dEqG
  split
  · next i j e1 e2 => exact absurd e2 (ni i j e1)
  · next i j e1 e2 => exact absurd e2 (ns i j e1)
  · next i j e1 e2 => exact absurd e2 (nb i j e1)
  · rw [hx, hy]; exact ⟨hp, hq, h _ rfl⟩
end

/-! comprehensions whose turns change nothing -/
def oneD (gd : TGd) (dt : TTd) (de : TEd) (σ0 : Sd) (d : D) (S : Sto) (R : Option D → Sto → Prop) : Prop := gd d σ0 S fun σ1 S1 => dt σ1 S1 (fun b S2 => if b = true then de σ1 S2 (fun y S3 => R (some y) S3) XF else R none S2) XF
theorem lcL_of {gd : TGd} {dt : TTd} {de : TEd} {σ0 : Sd} {Q : List D → Sto → Prop} {S : Sto} (f : D → Option D) : ∀ (ds acc : List D), (∀ d ∈ ds, ∀ R : Option D → Sto → Prop, R (f d) S → oneD gd dt de σ0 d S R) → Q (acc ++ ds.filterMap f) S → dLcL gd dt de σ0 Q ds acc S
  | [], acc, _, h => by rw [List.filterMap_nil, List.append_nil] at h; exact h
  | d :: ds, acc, st, h => by
    have z := st d (List.mem_cons_self ..) (fun o S' => match o with
      | some y => dLcL gd dt de σ0 Q ds (acc ++ [y]) S'
      | none => dLcL gd dt de σ0 Q ds acc S')
    refine z ?_
    rw [List.filterMap_cons] at h
    cases e : f d with
    | none => rw [e] at h; exact lcL_of f ds acc (fun d hd => st d (List.mem_cons_of_mem _ hd)) h
    | some y =>
      rw [e] at h
      exact lcL_of f ds (acc ++ [y]) (fun d hd => st d (List.mem_cons_of_mem _ hd)) (by rw [List.append_assoc]; exact h)
theorem lcC_of {gd : TGd} {dt : TTd} {de : TEd} {σ0 : Sd} {Q : List D → Sto → Prop} {S : Sto} (f : D → Option D) : ∀ (ds acc : List D), (∀ d ∈ ds, ∀ R : Option D → Sto → Prop, R (f d) S → oneD gd dt de σ0 d S R) → (acc ++ ds.filterMap f).length ≤ sizeLine → Q (acc ++ ds.filterMap f) S → dLcC gd dt de σ0 Q ds acc S
  | [], acc, _, _, h => by rw [List.filterMap_nil, List.append_nil] at h; exact h
  | d :: ds, acc, st, hl, h => by
    have z := st d (List.mem_cons_self ..) (fun o S' => match o with
      | some y => acc.length < sizeLine ∧ dLcC gd dt de σ0 Q ds (acc ++ [y]) S'
      | none => dLcC gd dt de σ0 Q ds acc S')
    refine z ?_
    rw [List.filterMap_cons] at h hl
    cases e : f d with
    | none => rw [e] at h hl; exact lcC_of f ds acc (fun d hd => st d (List.mem_cons_of_mem _ hd)) hl h
    | some y =>
      rw [e] at h hl
      refine ⟨?_, lcC_of f ds (acc ++ [y]) (fun d hd => st d (List.mem_cons_of_mem _ hd)) (by rw [List.append_assoc]; exact hl) (by rw [List.append_assoc]; exact h)⟩
      rw [List.length_append, List.length_cons] at hl
      omega
end VL

/-! VL: plain data, shown and compared. -/
namespace VL
open PySem PySem.Spec PyProof.Rows L2

/-- d is plain data p, of depth at most k, of bulk at most b -/
structure Tame (d : D) (p : PyData) (k b : Nat) : Prop where
  is : toP d = some p
  lay : p.canLay0 = true
  deep : p.depth ≤ k
  show_ : p.showable = true
  leaf : p.leavesShort 13 = true
  bulk : p.bulk ≤ b
structure Tames (ds : List D) (ps : List PyData) (k b : Nat) : Prop where
  is : toPs ds = some ps
  lay : PyData.canLayAll0 ps = true
  deep : PyData.depthAll ps ≤ k
  show_ : PyData.showableAll ps = true
  leaf : PyData.leavesShortAll 13 ps = true
  bulk : PyData.bulkAll ps ≤ ds.length * (b + 1)
theorem tame_int {i : Int} (h : i.natAbs < 10 ^ 12) : Tame (.int i) (.int i) 0 0 := by
  refine ⟨rfl, rfl, Nat.le_refl _, ?_, ?_, Nat.le_refl _⟩
  · rw [PyData.showable, decide_eq_true_eq]
    by_cases z : i.natAbs = 0
    · rw [z]; decide
    · have : i.natAbs.log2 < 64 := (Nat.log2_lt z).mpr (Nat.lt_trans h (by decide))
      omega
  · rw [PyData.leavesShort, decide_eq_true_eq]
    exact PyData.shown_int_le h
theorem tame_str {x : Str} {b : Nat} (h : (PyData.str x).canLay0 = true) (h2 : (PyData.str x).leavesShort 13 = true) (h3 : x.cps.size ≤ b) : Tame (.str x) (.str x) 0 b := ⟨rfl, h, Nat.le_refl _, rfl, h2, h3⟩
theorem Tame.up {d : D} {p : PyData} {k b k' b' : Nat} (h : Tame d p k b) (hk : k ≤ k') (hb : b ≤ b') : Tame d p k' b' := ⟨h.is, h.lay, Nat.le_trans h.deep hk, h.show_, h.leaf, Nat.le_trans h.bulk hb⟩
theorem tames_nil {k b : Nat} : Tames [] [] k b := ⟨rfl, rfl, Nat.zero_le _, rfl, rfl, Nat.zero_le _⟩
theorem tames_cons {d : D} {p : PyData} {ds : List D} {ps : List PyData} {k b : Nat} (h : Tame d p k b) (r : Tames ds ps k b) : Tames (d :: ds) (p :: ps) k b := by
  refine ⟨by rw [toPs, h.is, r.is], ?_, ?_, ?_, ?_, ?_⟩
  · rw [PyData.canLayAll0, h.lay, r.lay]; rfl
  · rw [PyData.depthAll]; exact Nat.max_le.mpr ⟨h.deep, r.deep⟩
  · rw [PyData.showableAll, h.show_, r.show_]; rfl
  · rw [PyData.leavesShortAll, h.leaf, r.leaf]; rfl
  · rw [PyData.bulkAll, List.length_cons]
    have h1 := h.bulk
    have h2 := r.bulk
    have e : (ds.length + 1) * (b + 1) = ds.length * (b + 1) + (b + 1) := by rw [Nat.add_mul, Nat.one_mul]
    omega
theorem tame_tup {ds : List D} {ps : List PyData} {k b c : Nat} (r : Tames ds ps k b) (hc : ds.length * (b + 1) ≤ c) : Tame (.tup ds) (.tuple ps) (k + 1) c := by
  refine ⟨by rw [toP, r.is]; rfl, ?_, ?_, ?_, ?_, ?_⟩
  · rw [PyData.canLay0]; exact r.lay
  · rw [PyData.depth]; exact Nat.succ_le_succ r.deep
  · rw [PyData.showable]; exact r.show_
  · rw [PyData.leavesShort]; exact r.leaf
  · rw [PyData.bulk]; exact Nat.le_trans r.bulk hc
theorem tame_lst {ds : List D} {ps : List PyData} {k b c : Nat} (r : Tames ds ps k b) (hc : ds.length * (b + 1) ≤ c) : Tame (.lst ds) (.list ps) (k + 1) c := by
  refine ⟨by rw [toP, r.is]; rfl, ?_, ?_, ?_, ?_, ?_⟩
  · rw [PyData.canLay0]; exact r.lay
  · rw [PyData.depth]; exact Nat.succ_le_succ r.deep
  · rw [PyData.showable]; exact r.show_
  · rw [PyData.leavesShort]; exact r.leaf
  · rw [PyData.bulk]; exact Nat.le_trans r.bulk hc
theorem tames_map {α : Type} {f : α → D} {k b : Nat} : ∀ {l : List α}, (∀ x ∈ l, ∃ p, Tame (f x) p k b) → ∃ ps, Tames (l.map f) ps k b
  | [], _ => ⟨[], tames_nil⟩
  | x :: l, h => by
    obtain ⟨p, hp⟩ := h x (List.mem_cons_self ..)
    obtain ⟨ps, hps⟩ := tames_map (l := l) fun y hy => h y (List.mem_cons_of_mem _ hy)
    exact ⟨p :: ps, tames_cons hp hps⟩
theorem Tame.shaped {d : D} {p : PyData} {k b : Nat} (h : Tame d p k b) (hk : k ≤ 64) : SeqAt.shaped p = true := by
  show (p.canLay0 && decide (p.depth ≤ 64)) = true
  rw [h.lay, decide_eq_true (Nat.le_trans h.deep hk)]; rfl
/-- repr(x) of such data -/
theorem repr_of {x : D} {S : Sto} {Q : QD} {p : PyData} {k b : Nat} (h : Tame (vw S x) p k b) (hk : k ≤ 64) (hb : b ≤ 1000000) (q : Q (.str p.shown) S) : dRepr [x] S Q := by
  show (match toP (vw S x) with
    | some p => p.showable = true ∧ p.depth ≤ 64 ∧ p.shown.length ≤ sizeLine ∧ Q (.str p.shown) S
    | none => False)
  rw [h.is]
  refine ⟨h.show_, Nat.le_trans h.deep hk, ?_, q⟩
  have h1 := PyData.shown_le_bulk 13 (by decide) p h.leaf
  have h2 := h.bulk
  rw [sizeLine_eq]
  omega
theorem Tame.shows {d : D} {p : PyData} {k b : Nat} (h : Tame d p k b) (hk : k ≤ 64) (hb : b ≤ 1000000) : p.showable = true ∧ p.depth ≤ 64 ∧ p.shown.length ≤ sizeLine := by
  refine ⟨h.show_, Nat.le_trans h.deep hk, ?_⟩
  have h1 := PyData.shown_le_bulk 13 (by decide) p h.leaf
  have h2 := h.bulk
  rw [sizeLine_eq]
  omega
theorem shown_of {x y : D} {p q : PyData} (hx : toP x = some p) (hy : toP y = some q) (e : x = y) : p.shown = q.shown := by
  subst e
  rw [hx] at hy
  cases hy; rfl
/-- l == [], l != [] -/
theorem eqG_nil {g : Bool → Bool} {ds : List D} {S : Sto} {Q : QD} {p : PyData} {k b : Nat} (h : Tame (.lst ds) p k b) (hk : k ≤ 64) (q : Q (.bl (g (decide (ds = [])))) S) : dEqG g (.lst ds) (.lst []) S Q := by
  refine eqG_of (p := p) (q := .list []) h.is rfl (fun c hc => ?_) (h.shaped hk) rfl (fun _ _ z => nomatch z) (fun _ _ z => nomatch z) (fun _ _ z => nomatch z)
  subst hc
  have e : PyData.eqv p (.list []) = decide (ds = []) := by
    have hi := h.is
    cases ds with
    | nil => rw [toP, toPs] at hi; cases hi; rfl
    | cons d ds =>
      rw [toP, toPs] at hi
      cases e1 : toP d with
      | none => rw [e1] at hi; cases hi
      | some p1 =>
        cases e2 : toPs ds with
        | none => rw [e1, e2] at hi; cases hi
        | some p2 => rw [e1, e2] at hi; cases hi; simp [PyData.eqv, PyData.eqvAll]
  rw [e]; exact q
/-- pairs of whole numbers -/
theorem eqG_pair {g : Bool → Bool} {a b c d : Int} {S : Sto} {Q : QD} (q : Q (.bl (g (decide (a = c ∧ b = d)))) S) : dEqG g (.tup [.int a, .int b]) (.tup [.int c, .int d]) S Q := by
  refine eqG_of (p := .tuple [.int a, .int b]) (q := .tuple [.int c, .int d]) rfl rfl (fun z hz => ?_) rfl rfl (fun _ _ z => nomatch z) (fun _ _ z => nomatch z) (fun _ _ z => nomatch z)
  subst hz
  have e : PyData.eqv (.tuple [.int a, .int b]) (.tuple [.int c, .int d]) = decide (a = c ∧ b = d) := by
    simp [PyData.eqv, PyData.eqvAll]; rfl
  rw [e]; exact q
end VL

/-! VL: instances: their fields, their methods, their making. -/
namespace VL
open PySem PySem.Spec PyProof.Rows L2

section
variable {X : Cx} {W : WX} {C : Addr} {f m x : Str} {e o : Expr} {es : List Expr} {te to : TE} {de d0 : TEd} {t : TA} {da : TAd} {pos p pos' apos : Pos} {k : Nat} {fI : Addr} {fd : FuncData} {ps : List Str} {sp : Sp} {spd : Spd} {ds0 : List Value} {dvs : List V} {dds : List D}
/-! ### o.f -/
def dFld (C : Addr) (f : Str) (d0 : TEd) : TEd := fun σ S Q E => d0 σ S (fun x S1 => match insV S1 x with
  | some (C', fs) => C' = C ∧ (match fs.lookup f with
    | some v => Q v S1
    | none => False)
  | none => False) E
theorem ve_fld (c : Cls X.K C) (n : NoAttr X.K C f) (ho : VE X W o to d0) (hb : attributeBase o f X.env (eval o X.env) = eval o X.env := by rfl) : VE X W (.Attribute o f pos) (tFld X.K to f) (dFld C f d0) := ⟨pe_fld ho.run hb, fun {σV F H σ S Qd E Q} hs er h hq hx =>
  ho.snd hs er h (fun v H1 d S1 g r h1 => by
    split at h1
    · next C' fs es =>
      obtain ⟨rfl, h1⟩ := h1
      obtain ⟨a, dx, fv, rfl, e1, rf⟩ := see_ins g.hst r es
      split at h1
      · next w ew =>
        obtain ⟨u, h2, h3⟩ := rf.lookup.1 w ew
        exact ⟨a, C', dx, fv, u, rfl, e1, c, n, h2, hq u H1 w S1 g h3 h1⟩
      · cases h1
    · cases h1) hx⟩
/-! ### o.f = e -/
def dSetF (C : Addr) (f : Str) (d0 de : TEd) : TSd := fun D σ S => de σ S (fun v S1 => d0 σ S1 (fun x S2 => match x with
  | .ref a => match S2 a with
    | some (.ins C' fs) => C' = C ∧ fs.length < 1000 ∧ D.nx σ (put S2 a (.ins C' (putG f v fs)))
    | _ => False
  | _ => False) (D.ex σ)) (D.ex σ)
theorem vs_fld (c : Cls X.K C) (n : NoAttr X.K C f) (ho : VE X W o to d0) (he : VE X W e te de) (hs : swapsWith e (some (.Attribute o f pos')) pos.line X.env = pure false := by rfl) : VS X W (.Assign [.Attribute o f pos'] e pos) (sFld X.K to te f) (dSetF C f d0 de) := ⟨ps_fld ho.run he.run hs, fun {σV F H σ S Dd D} hs er h l => by
  refine he.snd hs er h (fun v H1 d S1 g1 r1 h1 => ?_) (l.exs hs er)
  refine ho.snd g1.hst (er.mono g1.same) h1 (fun x H2 dx S2 g2 r2 h2 => ?_) ((l.exs hs er).next g1)
  have g12 := g1.trans g2
  have r1' := r1.mono g2.same
  split at h2
  · next a =>
    cases r2
    split at h2
    · next C' fs es =>
      obtain ⟨rfl, hl, h2⟩ := h2
      obtain ⟨dxx, fv, e1, rf⟩ := g2.hst.at_ a _ es
      have gc : Good X.K F H2 S2 (upd H2 a (.ins C' dxx (putF f v fv))) (put S2 a (.ins C' (putG f d fs))) := ⟨hst_chg g2.hst es (ook_ins (rf.put r1')), by rw [mask_chg es]; exact Same.refl _⟩
      exact ⟨a, C', dxx, fv, rfl, e1, c, n, by rw [rf.length]; exact hl, l.nx _ _ _ _ (g12.trans gc) ((er.mono g12.same).mono gc.same) h2⟩
    · cases h2
  · cases h2⟩

/-! ### o.m(..) -/
theorem runG {pins : List (Addr × Obj)} {σ : L2.St} {H : Hp} {s : Shared} {Q : VK} {us : List Value} {vs : List V} (Fn : FnG X.prog X.w X.K X.mg X.base k fI fd ps sp) (hgd : X.A.guards = some []) (hr : Room k X.A) (tk : Takes X W) (hb : Binds X.K fd ps ds0) (hd : Vals dvs ds0)
    (I : Inv X pins σ H s) (r : Vals vs us) (h : sp (vs ++ dvs) H Q (WE W σ)) : wpAny (model X.prog X.w) X.A (call (.ref fI) us) (EP X pins σ Q) X.xe s := by
  have r2 : Vals (vs ++ dvs) (us ++ ds0) := r.append hd
  have len : (us ++ ds0).length = ps.length := by rw [← r2.length]; exact Fn.len _ _ _ _ h
  exact wpAny_call (run_G Fn hgd hr tk I (hb s us I.kIn len) r2 h)
def tMethG (C : Addr) (m : Str) (sp : Sp) (dvs : List V) (W : WX) (to : TE) (t : TA) : TE := fun σ H Q => to σ H fun x H1 => ∃ a dx fs, x = .ref a ∧ H1 a = some (.ins C dx fs) ∧ fs.lookup m = none ∧ t σ H1 fun vs H2 => sp (x :: (vs ++ dvs)) H2 Q (WE W σ)
theorem pe_methG {pl : Sem Bool} (ho : PE X o to) (c : Cls X.K C) (hm : Meth X.K C m fI) (Fn : FnG X.prog X.w X.K X.mg X.base k fI fd ps sp) (hgd : X.A.guards = some []) (hr : Room k X.A) (tk : Takes X W) (hb : Binds X.K fd ps ds0) (hd : Vals dvs ds0) (ha : PA X (e :: es) t)
    (hst : starEach (e :: es) X.env = (false, eval e X.env) :: starEach es X.env := by rfl) (hpl : (backTo pos (starEach es X.env)).any (·.1) = false := by rfl)
    (ht : eval (.Call (.Attribute o m apos) (e :: es) [] pos) X.env = (do
      let ov ← eval o X.env
      standAt apos.atName
      let (f, first) ← holding [ov] (getMethod ov m pl)
      callWith pos f first (backTo pos (starEach (e :: es) X.env)) (backToKw pos (keywordEach [] X.env))) := by rfl) : PE X (.Call (.Attribute o m apos) (e :: es) [] pos) (tMethG C m sp dvs W to t) := by
  refine ⟨fun pins s σ H Q I h => PySem.W.methodCall_KW (pl := pl) (thn (ho.run pins s σ H _ I h) fun u s1 hh => ?_) ht⟩
  obtain ⟨x, H1, I1, rx, a, dx, fs, rfl, ea, l, q⟩ := hh
  cases rx
  refine getmeth_ok I1 ea c hm l ?_
  refine PySem.W.callWith_K (first := [.ref a]) (h₀ := X.base) I.ok.mod.kin hm.kp (thn (ha.run pos pins s1 σ H1 _ I1 q) fun us s2 hh2 => ?_) hst hpl
  obtain ⟨vs, H2, I2, r, q2⟩ := hh2
  exact ⟨I2.kIn, runG (us := .ref a :: us) (vs := .ref a :: vs) Fn hgd hr tk hb hd I2 (.cons rfl r) q2⟩
theorem pe_methG0 {pl : Sem Bool} (ho : PE X o to) (c : Cls X.K C) (hm : Meth X.K C m fI) (Fn : FnG X.prog X.w X.K X.mg X.base k fI fd ps sp) (hgd : X.A.guards = some []) (hr : Room k X.A) (tk : Takes X W) (hb : Binds X.K fd ps ds0) (hd : Vals dvs ds0)
    (ht : eval (.Call (.Attribute o m apos) [] [] pos) X.env = (do
      let ov ← eval o X.env
      standAt apos.atName
      let (f, first) ← holding [ov] (getMethod ov m pl)
      callWith pos f first (backTo pos (starEach [] X.env)) (backToKw pos (keywordEach [] X.env))) := by rfl) : PE X (.Call (.Attribute o m apos) [] [] pos) (tMethG C m sp dvs W to tNil) := by
  refine ⟨fun pins s σ H Q I h => PySem.W.methodCall_KW (pl := pl) (thn (ho.run pins s σ H _ I h) fun u s1 hh => ?_) ht⟩
  obtain ⟨x, H1, I1, rx, a, dx, fs, rfl, ea, l, q⟩ := hh
  cases rx
  refine getmeth_ok I1 ea c hm l ?_
  exact PySem.W.callWith_K0 (first := [.ref a]) I1.kIn hm.kp (runG (us := [.ref a]) (vs := [.ref a]) Fn hgd hr tk hb hd I1 (.cons rfl .nil) q)
def dMeth (C : Addr) (m : Str) (spd : Spd) (dds : List D) (d0 : TEd) (da : TAd) : TEd := fun σ S Q E => d0 σ S (fun x S1 => match insV S1 x with
  | some (C', fs) => C' = C ∧ fs.lookup m = none ∧ da σ S1 (fun ds S2 => spd (x :: (ds ++ dds)) S2 Q E) E
  | none => False) E
theorem snd_meth (hds : ∀ M : Hp, Reps X.K M dvs dds) (ho : Snd X.K W to d0) (ha : SndA X.K W t da) : Snd X.K W (tMethG C m (lift X.K spd) dvs W to t) (dMeth C m spd dds d0 da) := fun {σV F H σ S Qd E Q} hs er h hq hx =>
  ho hs er h (fun v H1 d S1 g1 r1 h1 => by
    split at h1
    · next C' fs es =>
      obtain ⟨rfl, hl, h1⟩ := h1
      obtain ⟨a, dxx, fv, rfl, e1, rf⟩ := see_ins g1.hst r1 es
      refine ⟨a, dxx, fv, rfl, e1, rf.lookup.2 hl, ?_⟩
      refine ha g1.hst (er.mono g1.same) h1 (fun vs H2 ds S2 g2 r2 h2 => ?_) (hx.next g1)
      have g12 := g1.trans g2
      exact ⟨F, d :: (ds ++ dds), S2, Qd, E, g2.hst, .cons (r1.mono g2.same) (r2.append (hds _)), h2, hq.next g12, fun cls a' H' fs' S' g' xr q => hx cls a' H' fs' S' (g12.trans g') xr q⟩
    · cases h1) hx
/-! ### C(..) -/
def tMakeG (C : Addr) (sp : Sp) (dvs : List V) (W : WX) (t : TA) : TE := fun σ H Q => t σ H fun vs H1 => ∀ x dx, H1 x = none → H1 dx = none → dx ≠ x → sp (.ref x :: (vs ++ dvs)) (upd (upd H1 dx (.own x)) x (.ins C dx [])) (fun v H2 => v = .non ∧ Q (.ref x) H2) (WE W σ)
theorem pe_makeG (M : Mk X.K C fI) (Fn : FnG X.prog X.w X.K X.mg X.base k fI fd ps sp) (hgd : X.A.guards = some []) (hr : Room (k + 1) X.A) (tk : Takes X W) (hm : X.mg x = some (.ref C)) (hb : Binds X.K fd ps ds0) (hd : Vals dvs ds0) (ha : PA X (e :: es) t) (hg : Gl X x := by rfl)
    (hdb : (x == ("__debug__" : Str)) = false := by decide) (he : starEach (e :: es) X.env = (false, eval e X.env) :: starEach es X.env := by rfl) (hpl : (backTo pos (starEach es X.env)).any (·.1) = false := by rfl) :
    PE X (.Call (.Name x p) (e :: es) [] pos) (tMakeG C sp dvs W t) := by
  refine ⟨fun pins s σ H Q I h => wpAny_Call_Name_kw (ld_glob I hg hm ?_ hdb)⟩
  refine PySem.W.callWith_K (h₀ := X.base) I.ok.mod.kin M.kp (thn (ha.run pos pins s σ H _ I h) fun us s1 hh => ?_) he hpl
  obtain ⟨vs, H1, I1, r, q⟩ := hh
  refine ⟨I1.kIn, ?_⟩
  have hq := q (s1.heap.objs.size + 1) s1.heap.objs.size (I1.hok.fresh (Nat.le_succ _)) (I1.hok.fresh (Nat.le_refl _)) (Nat.ne_of_lt (Nat.lt_succ_self _))
  have I2 := Inv.made (C := C) I1
  have r2 : Vals (V.ref (s1.heap.objs.size + 1) :: (vs ++ dvs)) (Value.ref (s1.heap.objs.size + 1) :: (us ++ ds0)) := .cons rfl (r.append hd)
  have len : (Value.ref (s1.heap.objs.size + 1) :: us ++ ds0).length = ps.length := by
    have e1 := r2.length
    rw [Fn.len _ _ _ _ hq] at e1
    exact e1.symm
  refine wpAny_call (make_map (f := fI) I1.kIn M.makes M.init (beq_iff_eq.mp M.fn) (codeAny_mono (Fn.run _ X.stack _ _ ⟨Value.ref (s1.heap.objs.size + 1) :: us, []⟩ (Value.ref (s1.heap.objs.size + 1) :: (us ++ ds0)) _ _ (WE W σ) hgd (hr.make C us [])
    (I2.env0.make C us []) (hb _ (Value.ref (s1.heap.objs.size + 1) :: us) I2.kIn len) r2 hq) fun r s' hq' => ?_))
  rcases r with er | (_ | _ | _ | u)
  · exact passAt tk σ pins _ _ er s' I2 hq'
  · exact hq'.elim
  · exact hq'.elim
  · exact hq'.elim
  · obtain ⟨v, H', I3, rv, ev, q3⟩ := I2.after hq'
    subst ev
    exact ⟨rv, ⟨V.ref (s1.heap.objs.size + 1), H', I3, rfl, q3⟩⟩
def dMake (C : Addr) (spd : Spd) (dds : List D) (da : TAd) : TEd := fun σ S Q E => da σ S (fun ds S1 => ∀ x, S1 x = none → spd (.ref x :: (ds ++ dds)) (put S1 x (.ins C [])) (fun v S2 => v = .non ∧ Q (.ref x) S2) E) E
theorem snd_make (hds : ∀ M : Hp, Reps X.K M dvs dds) (ha : SndA X.K W t da) : Snd X.K W (tMakeG C (lift X.K spd) dvs W t) (dMake C spd dds da) := fun {σV F H σ S Qd E Q} hs er h hq hx =>
  ha hs er h (fun vs H1 ds S1 g1 r1 h1 => by
    intro x dx hx0 hd0 hne
    have e0 : upd H1 dx (.own x) x = none := by rw [upd_ne (Ne.symm hne)]; exact hx0
    have ga : Good X.K F H1 S1 (upd H1 dx (.own x)) S1 := good_new g1.hst hd0
    have gb : Good X.K F (upd H1 dx (.own x)) S1 (upd (upd H1 dx (.own x)) x (.ins C dx [])) (put S1 x (.ins C [])) := good_newM ga.hst e0 (ook_ins .nil)
    have g := (g1.trans ga).trans gb
    refine ⟨F, .ref x :: (ds ++ dds), put S1 x (.ins C []), fun v S2 => v = .non ∧ Qd (.ref x) S2, E, gb.hst, .cons (.ref x) (((r1.append (hds _)).mono ga.same).mono gb.same), h1 x (g1.hst.free hx0), ?_, fun cls a' H' fs' S' g' xr q => hx cls a' H' fs' S' (g.trans g') xr q⟩
    intro v H2 d S2 g2 r2 q
    obtain ⟨rfl, q⟩ := q
    cases r2
    exact ⟨rfl, hq _ H2 _ S2 (g.trans g2) (.ref x) q⟩) hx
end
end VL

/-! VL: methods and classes ready to be called. -/
namespace VL
open PySem PySem.Spec PyProof.Rows L2

structure RdyM (P : Program) (w : World) (K : PySem.W.Frag) (mg : Str → Option Value) (base : Heap) (k : Nat) (C : Addr) (m : Str) (dvs : List V) (dds : List D) (spd : Spd) : Prop where
  ex : ∃ (f : Addr) (fd : FuncData) (ps : List Str) (ds0 : List Value), FnG P w K mg base k f fd ps (lift K spd) ∧ Meth K C m f ∧ Binds K fd ps ds0 ∧ Vals dvs ds0 ∧ ∀ M : Hp, Reps K M dvs dds
structure RdyC (P : Program) (w : World) (K : PySem.W.Frag) (mg : Str → Option Value) (base : Heap) (k : Nat) (x : Str) (C : Addr) (dvs : List V) (dds : List D) (spd : Spd) : Prop where
  ex : ∃ (f : Addr) (fd : FuncData) (ps : List Str) (ds0 : List Value), FnG P w K mg base k f fd ps (lift K spd) ∧ Mk K C f ∧ mg x = some (.ref C) ∧ Binds K fd ps ds0 ∧ Vals dvs ds0 ∧ ∀ M : Hp, Reps K M dvs dds
section
variable {P : Program} {w : World} {K : PySem.W.Frag} {mg : Str → Option Value} {base : Heap} {j k : Nat} {x m : Str} {C : Addr} {dvs : List V} {dds : List D} {spd : Spd}
theorem RdyM.mono (h : RdyM P w K mg base j C m dvs dds spd) (le : j ≤ k) : RdyM P w K mg base k C m dvs dds spd := by
  obtain ⟨f, fd, ps, ds0, a, r⟩ := h.ex
  exact ⟨f, fd, ps, ds0, a.mono le, r⟩
theorem RdyC.mono (h : RdyC P w K mg base j x C dvs dds spd) (le : j ≤ k) : RdyC P w K mg base k x C dvs dds spd := by
  obtain ⟨f, fd, ps, ds0, a, r⟩ := h.ex
  exact ⟨f, fd, ps, ds0, a.mono le, r⟩
end
section
variable {X : Cx} {W : WX} {C : Addr} {f m x : Str} {e o : Expr} {es : List Expr} {te to : TE} {de d0 : TEd} {t : TA} {da : TAd} {pos p apos tpos : Pos} {k : Nat} {spd : Spd} {dvs : List V} {dds : List D}
theorem ve_methR {pl : Sem Bool} (R : RdyM X.prog X.w X.K X.mg X.base k C m dvs dds spd) (c : Cls X.K C) (hgd : X.A.guards = some []) (hr : Room k X.A) (tk : Takes X W) (ho : VE X W o to d0) (ha : VA X W (e :: es) t da)
    (hst : starEach (e :: es) X.env = (false, eval e X.env) :: starEach es X.env := by rfl) (hpl : (backTo pos (starEach es X.env)).any (·.1) = false := by rfl)
    (ht : eval (.Call (.Attribute o m apos) (e :: es) [] pos) X.env = (do
      let ov ← eval o X.env
      standAt apos.atName
      let (f, first) ← holding [ov] (getMethod ov m pl)
      callWith pos f first (backTo pos (starEach (e :: es) X.env)) (backToKw pos (keywordEach [] X.env))) := by rfl) :
    VE X W (.Call (.Attribute o m apos) (e :: es) [] pos) (tMethG C m (lift X.K spd) dvs W to t) (dMeth C m spd dds d0 da) := by
  obtain ⟨fa, fd, ps, ds0, G, hm, hb, hd, hds⟩ := R.ex
  exact ⟨pe_methG ho.run c hm G hgd hr tk hb hd ha.run hst hpl ht, snd_meth hds ho.snd ha.snd⟩
theorem ve_methR0 {pl : Sem Bool} (R : RdyM X.prog X.w X.K X.mg X.base k C m dvs dds spd) (c : Cls X.K C) (hgd : X.A.guards = some []) (hr : Room k X.A) (tk : Takes X W) (ho : VE X W o to d0)
    (ht : eval (.Call (.Attribute o m apos) [] [] pos) X.env = (do
      let ov ← eval o X.env
      standAt apos.atName
      let (f, first) ← holding [ov] (getMethod ov m pl)
      callWith pos f first (backTo pos (starEach [] X.env)) (backToKw pos (keywordEach [] X.env))) := by rfl) :
    VE X W (.Call (.Attribute o m apos) [] [] pos) (tMethG C m (lift X.K spd) dvs W to tNil) (dMeth C m spd dds d0 dNil) := by
  obtain ⟨fa, fd, ps, ds0, G, hm, hb, hd, hds⟩ := R.ex
  exact ⟨pe_methG0 ho.run c hm G hgd hr tk hb hd ht, snd_meth hds ho.snd (va_nil (X := X) (W := W)).snd⟩
theorem ve_makeR (R : RdyC X.prog X.w X.K X.mg X.base k x C dvs dds spd) (hgd : X.A.guards = some []) (hr : Room (k + 1) X.A) (tk : Takes X W) (ha : VA X W (e :: es) t da) (hg : Gl X x := by rfl) (hdb : (x == ("__debug__" : Str)) = false := by decide)
    (he : starEach (e :: es) X.env = (false, eval e X.env) :: starEach es X.env := by rfl) (hpl : (backTo pos (starEach es X.env)).any (·.1) = false := by rfl) :
    VE X W (.Call (.Name x p) (e :: es) [] pos) (tMakeG C (lift X.K spd) dvs W t) (dMake C spd dds da) := by
  obtain ⟨fa, fd, ps, ds0, G, hm, hc, hb, hd, hds⟩ := R.ex
  exact ⟨pe_makeG hm G hgd hr tk hc hb hd ha.run hg hdb he hpl, snd_make hds ha.snd⟩
/-- o.f += e (whole numbers) -/
def dAugF (C : Addr) (f : Str) (g : Int → Int → Int) (d0 de : TEd) : TSd := fun D σ S => d0 σ S (fun x S1 => match x with
  | .ref a => match S1 a with
    | some (.ins C' fs) => C' = C ∧ (match fs.lookup f with
      | some (.int i) => de σ S1 (fun y S2 => match y with
        | .int k => match S2 a with
          | some (.ins C2 fs2) => fs2.length < 1000 ∧ D.nx σ (put S2 a (.ins C2 (putG f (.int (g i k)) fs2)))
          | _ => False
        | _ => False) (D.ex σ)
      | _ => False)
    | _ => False
  | _ => False) (D.ex σ)
end
section
variable {σ : Sd} {S : Sto} {Q : QD} {E : XD} {C : Addr} {f m : Str} {d0 de : TEd} {da : TAd} {spd : Spd} {dds : List D} {D : EndsD}
@[simp ↓] theorem z_dFld : dFld C f d0 σ S Q E = (d0 σ S (fun x S1 => match insV S1 x with
  | some (C', fs) => C' = C ∧ (match fs.lookup f with
    | some v => Q v S1
    | none => False)
  | none => False) E) := rfl
@[simp ↓] theorem z_dSetF : dSetF C f d0 de D σ S = (de σ S (fun v S1 => d0 σ S1 (fun x S2 => match x with
  | .ref a => match S2 a with
    | some (.ins C' fs) => C' = C ∧ fs.length < 1000 ∧ D.nx σ (put S2 a (.ins C' (putG f v fs)))
    | _ => False
  | _ => False) (D.ex σ)) (D.ex σ)) := rfl
@[simp ↓] theorem z_dMeth : dMeth C m spd dds d0 da σ S Q E = (d0 σ S (fun x S1 => match insV S1 x with
  | some (C', fs) => C' = C ∧ fs.lookup m = none ∧ da σ S1 (fun ds S2 => spd (x :: (ds ++ dds)) S2 Q E) E
  | none => False) E) := rfl
@[simp ↓] theorem z_dMake : dMake C spd dds da σ S Q E = (da σ S (fun ds S1 => ∀ x, S1 x = none → spd (.ref x :: (ds ++ dds)) (put S1 x (.ins C [])) (fun v S2 => v = .non ∧ Q (.ref x) S2) E) E) := rfl
end
/-- what the head tells of a class: attributes, methods, its making -/
theorem rdym_of {P : Program} {w : World} {K : PySem.W.Frag} {mg : Str → Option Value} {base : Heap} {k : Nat} {m : Str} {C f : Addr} {fd : FuncData} {ps : List Str} {spd : Spd} (G : FnG P w K mg base k f fd ps (lift K spd)) (hm : Meth K C m f) (hb : Binds K fd ps []) :
    RdyM P w K mg base k C m [] [] spd := ⟨f, fd, ps, [], G, hm, hb, .nil, fun _ => .nil⟩
theorem rdyc_of {P : Program} {w : World} {K : PySem.W.Frag} {mg : Str → Option Value} {base : Heap} {k : Nat} {x : Str} {C f : Addr} {fd : FuncData} {ps : List Str} {spd : Spd} (G : FnG P w K mg base k f fd ps (lift K spd)) (hm : Mk K C f) (hx : mg x = some (.ref C)) (hb : Binds K fd ps []) :
    RdyC P w K mg base k x C [] [] spd := ⟨f, fd, ps, [], G, hm, hx, hb, .nil, fun _ => .nil⟩
end VL
namespace VL
open PySem PySem.Spec PyProof.Rows L2
/-! ### o.f as a target among others -/
def gAtt (C : Addr) (f : Str) (to : TE) : TG := fun v σ H Q => to σ H fun x H1 => ∃ a dx fs, x = .ref a ∧ H1 a = some (.ins C dx fs) ∧ fs.length < 1000 ∧ Q σ (upd H1 a (.ins C dx (putF f v fs)))
def hAtt (C : Addr) (f : Str) (d0 : TEd) : TGd := fun v σ S Q => d0 σ S (fun x S1 => match x with
  | .ref a => match S1 a with
    | some (.ins C' fs) => C' = C ∧ fs.length < 1000 ∧ Q σ (put S1 a (.ins C' (putG f v fs)))
    | _ => False
  | _ => False) XF
section
variable {X : Cx} {W : WX} {C : Addr} {f : Str} {o : Expr} {to : TE} {d0 : TEd} {pos : Pos} {vs : List Nat}
theorem vg_att (c : Cls X.K C) (n : NoAttr X.K C f) (ho : VE X W o to d0) : VG X vs (.Attribute o f pos) (gAtt C f to) (hAtt C f d0) := by
  refine ⟨⟨fun pins s σ H v u Q I r h => ?_⟩, fun {v d σV F H σ S Qd Q} hs er r h hq => ?_⟩
  · rw [PySem.assign_Attribute]
    refine wpAny_bind (wpAny_holding (thn (ho.run.run pins s σ H _ I h) fun ov s1 hh => ?_))
    obtain ⟨x, H1, I1, r1, a, dx, fs, rfl, ea, hl, q⟩ := hh
    cases r1
    refine wpAny_bind (wpAny_standAt (wpAny_bind (wpAny_holding (setattr_ok I1 ea c n hl r fun s2 I2 => ?_))))
    exact wpAny_release ⟨σ, _, I2, q⟩
  · refine ho.snd hs er h (fun x H1 dx S1 g1 r1 h1 => ?_) (fun _ _ _ _ _ _ _ z => z.elim)
    have r' := r.mono g1.same
    split at h1
    · next a =>
      cases r1
      split at h1
      · next C' fs es =>
        obtain ⟨rfl, hl, h1⟩ := h1
        obtain ⟨dxx, fv, e1, rf⟩ := g1.hst.at_ a _ es
        have gc : Good X.K F H1 S1 (upd H1 a (.ins C' dxx (putF f v fv))) (put S1 a (.ins C' (putG f d fs))) := ⟨hst_chg g1.hst es (ook_ins (rf.put r')), by rw [mask_chg es]; exact Same.refl _⟩
        exact ⟨a, dxx, fv, rfl, e1, by rw [rf.length]; exact hl, hq _ _ _ _ (g1.trans gc) ((er.mono g1.same).mono gc.same) rfl (fun _ _ => rfl) h1⟩
      · cases h1
    · cases h1
@[simp ↓] theorem z_hAtt {d : D} {σ : Sd} {S : Sto} {Q : Sd → Sto → Prop} : hAtt C f d0 d σ S Q = (d0 σ S (fun x S1 => match x with
  | .ref a => match S1 a with
    | some (.ins C' fs) => C' = C ∧ fs.length < 1000 ∧ Q σ (put S1 a (.ins C' (putG f d fs)))
    | _ => False
  | _ => False) XF) := rfl
end
end VL

/-! VL: further methods of dicts, lists, texts. -/
namespace VL
open PySem PySem.Spec PyProof.Rows L2

section
variable {X : Cx} {W : WX} {o e e1 : Expr} {to te tx : TE} {d0 de dx : TEd} {pos apos : Pos}
/-! ### d.get(k, z), d.get(k) -/
def dGet2 (d0 de dx : TEd) : TEd := fun σ S Q E => d0 σ S (fun x S1 => (∃ kds, vw S1 x = .dct kds) ∧ de σ S1 (fun y S2 => dx σ S2 (fun z S3 => match vw S3 x with
  | .dct kds => match keyD y with
    | some k => Q ((getK kds k).getD z) S3
    | none => False
  | _ => False) E) E) E
def dGet1 (d0 de : TEd) : TEd := fun σ S Q E => d0 σ S (fun x S1 => (∃ kds, vw S1 x = .dct kds) ∧ de σ S1 (fun y S2 => match vw S2 x with
  | .dct kds => match keyD y with
    | some k => Q ((getK kds k).getD .non) S2
    | none => False
  | _ => False) E) E
theorem m2_of {m : Str} (h1 : attributeBase o m X.env (eval o X.env) = eval o X.env := by rfl) (h2 : ((backTo pos (starEach [e, e1] X.env)).all (fun x => !x.1) && (backToKw pos (keywordEach [] X.env)).all (fun x => x.1.isSome)
    && decide (([e, e1] : List Expr).length + ([] : List Keyword).length + (if ([] : List Keyword).isEmpty then 0 else 1) < 30)) = true := by rfl) (h3 : (apos.endLine == pos.line) = true := by rfl)
    (h4 : backTo pos (starEach [e, e1] X.env) = [(false, eval e X.env), (false, eval e1 X.env)] := by rfl) : M2 X o m apos e e1 pos := ⟨h1, h2, h3, h4⟩
theorem m1_of {m : Str} (h1 : attributeBase o m X.env (eval o X.env) = eval o X.env := by rfl) (h2 : ((backTo pos (starEach [e] X.env)).all (fun x => !x.1) && (backToKw pos (keywordEach [] X.env)).all (fun x => x.1.isSome)
    && decide (([e] : List Expr).length + ([] : List Keyword).length + (if ([] : List Keyword).isEmpty then 0 else 1) < 30)) = true := by rfl) (h3 : (apos.endLine == pos.line) = true := by rfl)
    (h4 : backTo pos (starEach [e] X.env) = [(false, eval e X.env)] := by rfl) : M1 X o m apos e pos := ⟨h1, h2, h3, h4⟩
theorem see_isd {K : PySem.W.Frag} {F H : Hp} {S : Sto} {v : V} {d : D} (hs : HSt K F H S) (r : Rep K (mask F S H) v d) {kds : List (Key × D)} (e : vw S d = .dct kds) : ∃ a, v = .ref a ∧ IsD H a := by
  obtain ⟨a, kvs, h1, h2, _⟩ := see_dct hs r e
  exact ⟨a, h1, .inl ⟨kvs, h2⟩⟩
/-- what d[k] or z is -/
theorem get_or {K : PySem.W.Frag} {M : Hp} {kvs : List (Key × V)} {kds : List (Key × D)} (r : RepK K M kvs kds) {v : V} {d : D} (h : Rep K M v d) (k : Key) : Rep K M ((L2.valV kvs k).getD v) ((getK kds k).getD d) := by
  cases q : getK kds k with
  | some w =>
    obtain ⟨u, e, ru⟩ := (repK_valV r).1 w q
    rw [e]; exact ru
  | none => rw [(repK_valV r).2 q]; exact h
theorem ve_get2 (hu : X.A.units + 1 < cLine) (ho : VE X W o to d0) (he : VE X W e te de) (hx : VE X W e1 tx dx) (m : M2 X o "get" apos e e1 pos) : VE X W (.Call (.Attribute o "get" apos) [e, e1] [] pos) (tDGet2 to te tx) (dGet2 d0 de dx) :=
  ⟨pe_dget2 hu ho.run he.run hx.run m, fun {σV F H σ S Qd E Q} hs er h hq hxx => by
    refine ho.snd hs er h (fun x H1 d1 S1 g1 r1 h1 => ?_) hxx
    obtain ⟨⟨kd, ek⟩, h1⟩ := h1
    obtain ⟨a, rfl, isd⟩ := see_isd g1.hst r1 ek
    refine ⟨a, rfl, isd, he.snd g1.hst (er.mono g1.same) h1 (fun y H2 d2 S2 g2 r2 h2 => ?_) (hxx.next g1)⟩
    have g12 := g1.trans g2
    refine hx.snd g2.hst (er.mono g12.same) h2 (fun z H3 d3 S3 g3 r3 h3 => ?_) (hxx.next g12)
    have g13 := g12.trans g3
    split at h3
    · next kds e3 =>
      obtain ⟨a', kvs, ea, hk, rk⟩ := see_dct g3.hst ((r1.mono g2.same).mono g3.same) e3
      cases ea
      split at h3
      · next k ek2 =>
        have ey := key_of r2 ek2
        subst ey
        exact ⟨_, (.inl ⟨kvs, k, hk, rfl, rfl⟩), hq _ H3 _ S3 g13 (get_or rk r3 k) h3⟩
      · cases h3
    · cases h3⟩
theorem ve_get1 (hu : X.A.units + 1 < cLine) (ho : VE X W o to d0) (he : VE X W e te de) (m : M1 X o "get" apos e pos) : VE X W (.Call (.Attribute o "get" apos) [e] [] pos) (tDGet1 to te) (dGet1 d0 de) :=
  ⟨pe_dget1 hu ho.run he.run m, fun {σV F H σ S Qd E Q} hs er h hq hxx => by
    refine ho.snd hs er h (fun x H1 d1 S1 g1 r1 h1 => ?_) hxx
    obtain ⟨⟨kd, ek⟩, h1⟩ := h1
    obtain ⟨a, rfl, isd⟩ := see_isd g1.hst r1 ek
    refine ⟨a, rfl, isd, he.snd g1.hst (er.mono g1.same) h1 (fun y H2 d2 S2 g2 r2 h2 => ?_) (hxx.next g1)⟩
    have g12 := g1.trans g2
    split at h2
    · next kds e3 =>
      obtain ⟨a', kvs, ea, hk, rk⟩ := see_dct g2.hst (r1.mono g2.same) e3
      cases ea
      split at h2
      · next k ek2 =>
        have ey := key_of r2 ek2
        subst ey
        exact ⟨_, (.inl ⟨kvs, k, hk, rfl, rfl⟩), hq _ H2 _ S2 g12 (get_or rk .non k) h2⟩
      · cases h2
    · cases h2⟩

/-! ### l.pop() -/
def dPop (d0 : TEd) : TEd := fun σ S Q E => d0 σ S (fun x S1 => match x with
  | .ref p => match S1 p with
    | some (.lst ds) => match ds.getLast? with
      | some d => Q d (put S1 p (.lst ds.dropLast))
      | none => False
    | _ => False
  | _ => False) E
theorem ve_pop (ho : VE X W o to d0) (hbase : attributeBase o "pop" X.env (eval o X.env) = eval o X.env := by rfl) (hline : (apos.endLine == pos.line) = true := by rfl) :
    VE X W (.Call (.Attribute o "pop" apos) [] [] pos) (tBM0 X.K "list" rPop to) (dPop d0) := ⟨pe_bm0 PySem.F.plainAttrs_list PySem.F.slot_list_pop PySem.F.type_list_pop mt_pop ho.run hbase hline, fun {σV F H σ S Qd E Q} hs er h hq hx => by
  refine ho.snd hs er h (fun x H1 d1 S1 g1 r1 h1 => ?_) hx
  split at h1
  · next p =>
    cases r1
    split at h1
    · next ds es =>
      obtain ⟨xs, e1, q1⟩ := g1.hst.at_ p _ es
      split at h1
      · next d ed =>
        rw [List.getLast?_eq_getElem?] at ed
        obtain ⟨v, ev, rv⟩ := q1.get ed
        rw [← q1.length] at ev
        have gc : Good X.K F H1 S1 (upd H1 p (.lst xs.dropLast)) (put S1 p (.lst ds.dropLast)) := ⟨hst_chg g1.hst es (ook_lst q1.dropLast), by rw [mask_chg es]; exact Same.refl _⟩
        exact ⟨.inl ⟨rfl, xs, SqL.of e1⟩, p, xs, v, rfl, rfl, e1, ev, hq _ _ _ _ (g1.trans gc) (rv.mono gc.same) h1⟩
      · cases h1
    · cases h1
  · cases h1⟩

/-! ### texts: a.split(b), a.join(l) -/
def dSplit (d0 de : TEd) : TEd := fun σ S Q E => d0 σ S (fun x S1 => match x with
  | .str a => de σ S1 (fun y S2 => match y with
    | .str b => (b.length == 0) = false ∧ a.length + 2 ≤ sizeLine ∧ Q (.lst ((Txt.split a b).map D.str)) S2
    | _ => False) E
  | _ => False) E
def dSplitM (d0 de : TEd) : TEd := fun σ S Q E => d0 σ S (fun x S1 => match x with
  | .str a => de σ S1 (fun y S2 => match y with
    | .str b => (b.length == 0) = false ∧ a.length + 2 ≤ sizeLine ∧ ∀ p, S2 p = none → Q (.ref p) (put S2 p (.lst ((Txt.split a b).map D.str)))
    | _ => False) E
  | _ => False) E
theorem rep_strs {K : PySem.W.Frag} {M : Hp} : ∀ l : List Str, Reps K M (l.map V.str) (l.map D.str)
  | [] => .nil
  | x :: l => .cons (.str x) (rep_strs l)
theorem ve_split (ho : VE X W o to d0) (he : VE X W e te de) (hs : starEach [e] X.env = [(false, eval e X.env)] := by rfl) (hbase : attributeBase o "split" X.env (eval o X.env) = eval o X.env := by rfl) (hline : (apos.endLine == pos.line) = true := by rfl) :
    VE X W (.Call (.Attribute o "split" apos) [e] [] pos) (tM1 (fun x xs H Q => ∃ a b, x = .str a ∧ xs = [.str b] ∧ (b.length == 0) = false ∧ a.length + 2 ≤ sizeLine ∧ rNewStrs (Txt.split a b) H Q) to te) (dSplit d0 de) := ⟨pe_split ho.run he.run hs hbase hline, fun {σV F H σ S Qd E Q} hs er h hq hx => by
  refine ho.snd hs er h (fun x H1 d1 S1 g1 r1 h1 => ?_) hx
  split at h1
  · next a =>
    cases r1
    refine ⟨⟨a, rfl⟩, he.snd g1.hst (er.mono g1.same) h1 (fun y H2 d2 S2 g2 r2 h2 => ?_) (hx.next g1)⟩
    split at h2
    · next b =>
      cases r2
      have g12 := g1.trans g2
      exact ⟨a, b, rfl, rfl, h2.1, h2.2.1, fun p hp => hq _ _ _ S2 (g12.trans (good_new g2.hst hp)) (new_lst g2.hst hp (rep_strs _)) h2.2.2⟩
    · cases h2
  · cases h1⟩
theorem ve_splitM (ho : VE X W o to d0) (he : VE X W e te de) (hs : starEach [e] X.env = [(false, eval e X.env)] := by rfl) (hbase : attributeBase o "split" X.env (eval o X.env) = eval o X.env := by rfl) (hline : (apos.endLine == pos.line) = true := by rfl) :
    VE X W (.Call (.Attribute o "split" apos) [e] [] pos) (tM1 (fun x xs H Q => ∃ a b, x = .str a ∧ xs = [.str b] ∧ (b.length == 0) = false ∧ a.length + 2 ≤ sizeLine ∧ rNewStrs (Txt.split a b) H Q) to te) (dSplitM d0 de) := ⟨pe_split ho.run he.run hs hbase hline, fun {σV F H σ S Qd E Q} hs er h hq hx => by
  refine ho.snd hs er h (fun x H1 d1 S1 g1 r1 h1 => ?_) hx
  split at h1
  · next a =>
    cases r1
    refine ⟨⟨a, rfl⟩, he.snd g1.hst (er.mono g1.same) h1 (fun y H2 d2 S2 g2 r2 h2 => ?_) (hx.next g1)⟩
    split at h2
    · next b =>
      cases r2
      have g12 := g1.trans g2
      exact ⟨a, b, rfl, rfl, h2.1, h2.2.1, fun p hp => hq _ _ _ _ (g12.trans (good_newM g2.hst hp (ook_lst (rep_strs _)))) (.ref p) (h2.2.2 p (g2.hst.free hp))⟩
    · cases h2
  · cases h1⟩
def dJoin (d0 de : TEd) : TEd := fun σ S Q E => d0 σ S (fun x S1 => match x with
  | .str a => de σ S1 (fun y S2 => match vw S2 y with
    | .lst ds => match strsD ds with
      | some ys => (ys.map (·.length)).sum + ys.length * a.length ≤ 16777216 ∧ Q (.str (Txt.join a ys)) S2
      | none => False
    | _ => False) E
  | _ => False) E
theorem strs_reps {K : PySem.W.Frag} {M : Hp} {xs : List V} {l : List Str} (r : Reps K M xs (l.map D.str)) : xs = l.map V.str := by
  induction l generalizing xs with
  | nil => cases r; rfl
  | cons a l ih =>
    cases r with
    | cons h r => cases h; rw [ih r]; rfl
theorem ve_join (ho : VE X W o to d0) (he : VE X W e te de) (hs : starEach [e] X.env = [(false, eval e X.env)] := by rfl) (hbase : attributeBase o "join" X.env (eval o X.env) = eval o X.env := by rfl) (hline : (apos.endLine == pos.line) = true := by rfl) :
    VE X W (.Call (.Attribute o "join" apos) [e] [] pos) (tM1 (fun x xs H Q => ∃ a p, ∃ ys : List Str, x = .str a ∧ xs = [.ref p] ∧ (SqL X.K H p (ys.map V.str) ∨ SqT X.K H p (ys.map V.str)) ∧ (ys.map (·.length)).sum + ys.length * a.length ≤ 16777216 ∧ Q (.str (Txt.join a ys)) H) to te) (dJoin d0 de) :=
  ⟨pe_join ho.run he.run hs hbase hline, fun {σV F H σ S Qd E Q} hs er h hq hx => by
    refine ho.snd hs er h (fun x H1 d1 S1 g1 r1 h1 => ?_) hx
    split at h1
    · next a =>
      cases r1
      refine ⟨⟨a, rfl⟩, he.snd g1.hst (er.mono g1.same) h1 (fun y H2 d2 S2 g2 r2 h2 => ?_) (hx.next g1)⟩
      split at h2
      · next ds ev =>
        obtain ⟨p, xs, rfl, sq, q⟩ := see_lst g2.hst r2 ev
        split at h2
        · next ys ey =>
          have e1 := strs_of ey
          subst e1
          have e2 := strs_reps q
          subst e2
          exact ⟨a, p, ys, rfl, rfl, .inl sq, h2.1, hq _ H2 _ S2 (g1.trans g2) (.str _) h2.2⟩
        · cases h2
      · cases h2
    · cases h1⟩
end
end VL

/-! VL: sorted(x) of ints: a list's, or a dict's keys; any number of them. -/
namespace VL
open PySem PySem.Spec PyProof.Rows L2

def sortI (ns : List Int) : List Int := ns.mergeSort (fun a b => decide (a ≤ b))
theorem sortI_perm (ns : List Int) : (sortI ns).Perm ns := List.mergeSort_perm _ _
theorem sortI_pw (ns : List Int) : (sortI ns).Pairwise (· ≤ ·) := by
  have h := List.pairwise_mergeSort (le := fun a b : Int => decide (a ≤ b)) (fun a b c h1 h2 => by simp at *; omega) (fun a b => by simp; omega) ns
  exact h.imp fun h => by simpa using h
theorem sortI_of : ∀ {ys ns : List Int}, ys.Perm ns → ys.Pairwise (· ≤ ·) → ns.Pairwise (· ≤ ·) → ys = ns
  | [], ns, p, _, _ => (List.nil_perm.mp p).symm
  | y :: ys, [], p, _, _ => absurd p.length_eq (by simp)
  | y :: ys, n :: ns, p, h1, h2 => by
    have hy : y ∈ n :: ns := p.mem_iff.mp List.mem_cons_self
    have hn : n ∈ y :: ys := p.mem_iff.mpr List.mem_cons_self
    have e : y = n := by
      rcases List.mem_cons.mp hy with e | m1
      · exact e
      · rcases List.mem_cons.mp hn with e | m2
        · exact e.symm
        · have a := (List.pairwise_cons.mp h1).1 n m2
          have b := (List.pairwise_cons.mp h2).1 y m1
          omega
    subst e
    rw [sortI_of (List.perm_cons y |>.mp p) (List.pairwise_cons.mp h1).2 (List.pairwise_cons.mp h2).2]
theorem sortI_eq {ys ns : List Int} (p : ys.Perm ns) (h : ys.Pairwise (· ≤ ·)) : ys = sortI ns := sortI_of (p.trans (sortI_perm ns).symm) h (sortI_pw ns)

/-- the int keys of a dict -/
def kintsD {α : Type} : List (Key × α) → Option (List Int)
  | [] => some []
  | (.inl i, _) :: r => (kintsD r).map (i :: ·)
  | _ :: _ => none
theorem kints_of {α : Type} : ∀ {kds : List (Key × α)} {l : List Int}, kintsD kds = some l → kds.map (·.1) = l.map Sum.inl
  | [], l, h => by cases h; rfl
  | (.inl i, _) :: r, l, h => by
    obtain ⟨l', h1, h2⟩ := Option.map_eq_some_iff.mp (show (kintsD r).map (i :: ·) = some l from h)
    subst h2
    show Sum.inl i :: r.map (·.1) = Sum.inl i :: l'.map Sum.inl
    rw [kints_of h1]
  | (.inr _, _) :: _, _, h => by cases h

def rSortedDK (K : PySem.W.Frag) : List V → Hp → VK → Prop := fun xs H Q => ∃ (a : Addr) (kvs : List (Key × V)) (ks : List Int), xs = [.ref a] ∧ Rd H a (.dK kvs) ∧ kvs.map (·.1) = ks.map Sum.inl ∧ ks.length ≤ sizeLine ∧
    ∀ (ys : List Int) (p : Addr), ys.Perm ks → ys.Pairwise (· ≤ ·) → H p = none → Q (.ref p) (upd H p (.lst (ys.map V.int)))
section
variable {X : Cx}
theorem call_sortedDK (hcalm : X.calm = true) : CallR X (.builtin "sorted") (rSortedDK X.K) := by
  intro pins s σ H xs us Q I r q
  obtain ⟨a, kvs, ks, ex, hd, hks, hz, q⟩ := q
  subst ex
  obtain ⟨u, eu, rx⟩ := vals1 r
  subst eu
  cases rx
  obtain ⟨z, lo, vs, rel, dd⟩ := dk_rd I.hok hd
  obtain ⟨ep, hat⟩ := dd.dictAt
  have hkeys : vs.map (·.1) = ks.map Sum.inl := rel.keys.symm.trans hks
  have hl : vs.length = ks.length := by
    have e := congrArg List.length hkeys
    rw [List.length_map, List.length_map] at e
    exact e
  have h16 : vs.length ≤ sizeLine := by rw [hl]; exact hz
  refine Calls.call_function_entry PyProof.Rows.kind_sorted PyProof.Rows.plain_sorted PyProof.Rows.entry_sorted (PyProof.Rows.args_sorted1 _) ?_
  unfold Builtin.«sorted»
  refine wpAny_bind (m := checkCount "sorted" 1 1 _) (wpAny_pure ?_)
  refine wpAny_bind (PySem.W.kdu_collect (A := X.A.in1) (PySem.W.kdl_dict (knd := mixKind X.prog X.w) (kvs := vs) (ep := ep) lo) (I.ok.hd hcalm) hat h16 fun h' tk acc hk hacc => ?_)
  have hal : acc.toList.length = ks.length := by rw [Array.length_toList, hacc.1, hl]
  have hS : IntsAre acc.toList ks := ints_each hal fun j v e => by
    obtain ⟨k, x, e1, e2⟩ := hacc.2 j v (by rw [← Array.getElem?_toList]; exact e)
    have e3 : (vs.map (·.1))[j]? = some k := by rw [List.getElem?_map, e1]; rfl
    rw [hkeys, List.getElem?_map] at e3
    cases e4 : ks[j]? with
    | none => rw [e4] at e3; cases e3
    | some y =>
      rw [e4] at e3
      have e5 : Sum.inl y = k := Option.some.inj e3
      subst e5
      rcases keyIs_shape (show keyIs (Sum.inl y) v = true from e2) with ⟨i, t, ek, ev⟩ | ⟨z, t, ek, ev⟩
      · cases ek
        exact ⟨y, t, rfl, ev⟩
      · cases ek
  have I1 : Inv X pins σ H { s with heap := h', toks := tk } := I.kept hk
  refine wpAny_bind (wpAny_newList ?_ (by rw [hal]; exact hz))
  have hoL : (h'.push (seqObj "list" acc.toList.toArray 0)).get? h'.objs.size = some (seqObj "list" acc.toList.toArray 0) := Heap.get?_push_size _ rfl
  show wpAny _ _ _ _ _ { s with heap := h'.push (seqObj "list" acc.toList.toArray 0), toks := tk }
  refine wpAny_bind (wpAny_holding (wpAny_call_entry PyProof.Rows.slot_list_sort ⟨_, hoL, rfl⟩ PyProof.Rows.entry_list_sort
    (SrtO.list_sort_ord (s := { s with heap := h'.push (seqObj "list" acc.toList.toArray 0), toks := tk }) SrtO.swo_int hoL (by rw [hal]; exact hz) (fun h2 => SrtO.ints_sortable hS h2) fun out g1 g2 => ⟨_, rfl, ?_⟩) (PyProof.Rows.args_list_sort _)))
  obtain ⟨k1, k2, k3⟩ := SrtO.ints_out hS g1 g2
  obtain ⟨e', he'⟩ := PyProof.Rows.sortedHeap_at (vs := acc.toList) (out := out.toArray) hoL
  have hlen : ((out.map SrtO.iv).map V.int).length ≤ sizeLine := by
    rw [List.length_map, k2.length_eq]
    exact hz
  refine wpAny_pure ⟨_, rfl, .ref h'.objs.size, upd H h'.objs.size (.lst ((out.map SrtO.iv).map V.int)), I1.laid (t' := tk) (fun b u e => ?_) (Nat.le_refl _)
    (show ObjOk X.prog X.w _ _ _ (.lst ((out.map SrtO.iv).map V.int)) from ⟨hlen, out, e', vals_of_ints k1, he'⟩), rfl, q _ _ k2 k3 (I1.hok.fresh (Nat.le_refl _))⟩
  have hb : b < h'.objs.size := Heap.lt_size e
  rw [PyProof.Rows.sortedHeap_old (Nat.ne_of_lt hb) (by rw [size_push']; exact Nat.lt_succ_of_lt hb)]
  exact Heap.get?_push_of_some _ e
theorem repK_keys {K : PySem.W.Frag} {M : Hp} : ∀ {kvs : List (Key × V)} {kds : List (Key × D)}, RepK K M kvs kds → kvs.map (·.1) = kds.map (·.1)
  | _, _, .nil => rfl
  | _, _, .cons (k := k) h r => congrArg (k :: ·) (repK_keys r)
def dSorted : RCd := fun ds S Q => match ds with
  | [x] => match vw S x with
    | .lst l => match intsD l with
      | some ns => Q (.lst ((sortI ns).map D.int)) S
      | none => False
    | .dct l => match kintsD l with
      | some ns => ns.length ≤ sizeLine ∧ Q (.lst ((sortI ns).map D.int)) S
      | none => False
    | _ => False
  | _ => False
theorem snd_sorted : SndC X.K (c2 (rSortedI X.K) (rSortedDK X.K)) dSorted := fun {xs ds F H S Qd Q} hs r h hq => by
  unfold dSorted at h; split at h
  · cases r with
    | cons r1 r2 =>
      cases r2
      split at h
      · next l e =>
        obtain ⟨a1, ys, rfl, h1, q1⟩ := see_lst hs r1 e
        split at h
        · next ns en =>
          have e1 := ints_of en
          subst e1
          have e2 := reps_ints q1
          subst e2
          refine .inl ⟨a1, ns, rfl, h1, fun ns' p hp hw hn => ?_⟩
          rw [sortI_eq hp hw]
          exact hq _ _ _ S (good_new hs hn) (new_lst hs hn (reps_of_ints _)) h
        · cases h
      · next l e =>
        obtain ⟨a1, ys, rfl, h1, q1⟩ := see_dct hs r1 e
        split at h
        · next ns en =>
          refine .inr ⟨a1, ys, ns, rfl, h1, (repK_keys q1).trans (kints_of en), h.1, fun ns' p hp hw hn => ?_⟩
          rw [sortI_eq hp hw]
          exact hq _ _ _ S (good_new hs hn) (new_lst hs hn (reps_of_ints _)) h.2
        · cases h
      · cases h
  · cases h
theorem call_sortedA (hcalm : X.calm = true) : CallR X (.builtin "sorted") (c2 (rSortedI X.K) (rSortedDK X.K)) := CallR.or cr_sortedI (call_sortedDK hcalm)
theorem ve_sorted {W : WX} {p pos : Pos} {e : Expr} {t : TA} {d : TAd} (hcalm : X.calm = true) (hm : X.mg "sorted" = none) (ha : VA X W [e] t d)
    (hg : Gl X "sorted" := by rfl) (he : starEach [e] X.env = (false, eval e X.env) :: starEach [] X.env := by rfl) (hpl : (backTo pos (starEach [] X.env)).any (·.1) = false := by rfl) :
    VE X W (.Call (.Name "sorted" p) [e] [] pos) (tCB (c2 (rSortedI X.K) (rSortedDK X.K)) t) (dCB dSorted d) :=
  ve_cb snd_sorted (call_sortedA hcalm) hm ha hg (by decide +kernel) (by decide) (by decide) he hpl
end
end VL

/-! VL: d.setdefault(k, x), max(l), min(l), sorted(d.items()) of a dict with int keys, list(d.values()) that may change. -/
namespace VL
open PySem PySem.Spec PyProof.Rows L2

section
variable {X : Cx} {W : WX} {o e f : Expr} {to te tx : TE} {d0 de dx : TEd} {p pos apos mpos : Pos}
theorem ve_listValsM (hc : X.calm = true) (hm : X.mg "list" = none) (he : VE X W o to d0) (hg : Gl X "list" := by rfl) (hbase : attributeBase o "values" X.env (eval o X.env) = eval o X.env := by rfl) (hline : (apos.endLine == mpos.line) = true := by rfl)
    (hse : starEach [Expr.Call (.Attribute o "values" apos) [] [] mpos] X.env = [(false, eval (Expr.Call (.Attribute o "values" apos) [] [] mpos) X.env)] := by rfl) :
    VE X W (.Call (.Name "list" p) [.Call (.Attribute o "values" apos) [] [] mpos] [] pos) (tListVals to) (dListValsM d0) := ⟨pe_listVals hc hg hm he.run hbase hline hse, fun {σV F H σ S Qd E Q} hs er h hq hx =>
  he.snd hs er h (fun x H1 dx S1 g r h1 => by
    split at h1
    · next kds e =>
      obtain ⟨a, kvs, rfl, ha, rk⟩ := see_dct g.hst r e
      exact ⟨a, kvs, rfl, ha, fun p hp => hq _ _ _ _ (g.trans (good_newM g.hst hp (ook_lst (repK_vals rk)))) (.ref p) (h1 p (g.hst.free hp))⟩
    · cases h1) hx⟩

/-! ### max(l), min(l) of one list of whole numbers -/
def dMaxL : RCd := fun ds S Q => match ds with
  | [x] => match vw S x with
    | .lst l => match intsD l with
      | some ns => 0 < ns.length ∧ ∀ m, m ∈ ns → (∀ y, y ∈ ns → y ≤ m) → Q (.int m) S
      | none => False
    | _ => False
  | _ => False
def dMinL : RCd := fun ds S Q => match ds with
  | [x] => match vw S x with
    | .lst l => match intsD l with
      | some ns => 0 < ns.length ∧ ∀ m, m ∈ ns → (∀ y, y ∈ ns → m ≤ y) → Q (.int m) S
      | none => False
    | _ => False
  | _ => False
theorem snd_maxL : SndC X.K (rMax X.K) dMaxL := fun {xs ds F H S Qd Q} hs r h hq => by
  unfold dMaxL at h; split at h
  · cases r with
    | cons r1 r2 =>
      cases r2
      split at h
      · next l e =>
        split at h
        · next bs eb =>
          obtain rfl := ints_of eb
          obtain ⟨a1, ys, rfl, h1, q1⟩ := see_lst hs r1 e
          obtain rfl := reps_ints q1
          exact ⟨a1, bs, rfl, h1, h.1, fun m m1 m2 => hq _ H _ S (.refl hs) (.int _) (h.2 m m1 m2)⟩
        · cases h
      · cases h
  · cases h
theorem snd_minL : SndC X.K (rMin X.K) dMinL := fun {xs ds F H S Qd Q} hs r h hq => by
  unfold dMinL at h; split at h
  · cases r with
    | cons r1 r2 =>
      cases r2
      split at h
      · next l e =>
        split at h
        · next bs eb =>
          obtain rfl := ints_of eb
          obtain ⟨a1, ys, rfl, h1, q1⟩ := see_lst hs r1 e
          obtain rfl := reps_ints q1
          exact ⟨a1, bs, rfl, h1, h.1, fun m m1 m2 => hq _ H _ S (.refl hs) (.int _) (h.2 m m1 m2)⟩
        · cases h
      · cases h
  · cases h

/-! ### d.setdefault(k, x), d a dict that may change -/
def dSetd (d0 de dx : TEd) : TEd := fun σ S Q E => d0 σ S (fun x S1 => (∃ kds, vw S1 x = .dct kds) ∧ de σ S1 (fun y S2 => dx σ S2 (fun z S3 => match x with
  | .ref p => match S3 p with
    | some (.dct kds) => match keyD y with
      | some k => kds.length < sizeLine ∧ (match getK kds k with
        | some d => Q d S3
        | none => Q z (put S3 p (.dct (putKD kds k z))))
      | none => False
    | _ => False
  | _ => False) E) E) E
theorem ve_setd (ho : VE X W o to d0) (he : VE X W e te de) (hx : VE X W f tx dx) (m : M2 X o "setdefault" apos e f pos) : VE X W (.Call (.Attribute o "setdefault" apos) [e, f] [] pos) (tDSetd to te tx) (dSetd d0 de dx) :=
  ⟨pe_dsetd ho.run he.run hx.run m, fun {σV F H σ S Qd E Q} hs er h hq hxx => by
    refine ho.snd hs er h (fun x H1 d1 S1 g1 r1 h1 => ?_) hxx
    obtain ⟨⟨kd, ek⟩, h1⟩ := h1
    obtain ⟨a, rfl, isd⟩ := see_isd g1.hst r1 ek
    refine ⟨a, rfl, isd, he.snd g1.hst (er.mono g1.same) h1 (fun y H2 d2 S2 g2 r2 h2 => ?_) (hxx.next g1)⟩
    have g12 := g1.trans g2
    refine hx.snd g2.hst (er.mono g12.same) h2 (fun z H3 d3 S3 g3 r3 h3 => ?_) (hxx.next g12)
    have g13 := g12.trans g3
    split at h3
    · next p =>
      cases r1
      split at h3
      · next kds es =>
        obtain ⟨xs, e1, q1⟩ := g3.hst.at_ _ _ es
        split at h3
        · next k ek2 =>
          have ey := key_of (r2.mono g3.same) ek2
          subst ey
          obtain ⟨hl, h3⟩ := h3
          refine ⟨xs, k, e1, rfl, by rw [repK_len q1]; exact hl, fun v hv => ?_, fun hn => ?_⟩
          · cases q : getK kds k with
            | some w =>
              rw [q] at h3
              obtain ⟨u, eu, ru⟩ := (repK_valV q1).1 w q
              rw [eu] at hv; cases hv
              exact hq _ H3 _ S3 g13 ru h3
            | none =>
              rw [(repK_valV q1).2 q] at hv; cases hv
          · cases q : getK kds k with
            | some w =>
              obtain ⟨u, eu, ru⟩ := (repK_valV q1).1 w q
              rw [eu] at hn; cases hn
            | none =>
              rw [q] at h3
              have gc : Good X.K F H3 S3 (upd H3 _ (.dK (putK xs k z))) (put S3 _ (.dct (putKD kds k d3))) := ⟨hst_chg g3.hst es (ook_dct (repK_put r3 q1)), by rw [mask_chg es]; exact Same.refl _⟩
              exact hq _ _ _ _ (g13.trans gc) (r3.mono gc.same) h3
        · cases h3
      · cases h3
    · cases h3⟩
end
@[simp ↓] theorem z_dListValsM {de : TEd} {σ : Sd} {S : Sto} {Q : QD} {E : XD} : dListValsM de σ S Q E = (de σ S (fun x S1 => match vw S1 x with
  | .dct kds => ∀ p, S1 p = none → Q (.ref p) (put S1 p (.lst (kds.map (·.2))))
  | _ => False) E) := rfl
@[simp ↓] theorem z_dMaxL {ds : List D} {S : Sto} {Q : QD} : dMaxL ds S Q = (match ds with
  | [x] => match vw S x with
    | .lst l => match intsD l with
      | some ns => 0 < ns.length ∧ ∀ m, m ∈ ns → (∀ y, y ∈ ns → y ≤ m) → Q (.int m) S
      | none => False
    | _ => False
  | _ => False) := rfl
@[simp ↓] theorem z_dMinL {ds : List D} {S : Sto} {Q : QD} : dMinL ds S Q = (match ds with
  | [x] => match vw S x with
    | .lst l => match intsD l with
      | some ns => 0 < ns.length ∧ ∀ m, m ∈ ns → (∀ y, y ∈ ns → m ≤ y) → Q (.int m) S
      | none => False
    | _ => False
  | _ => False) := rfl
@[simp ↓] theorem z_dSetd {d0 de dx : TEd} {σ : Sd} {S : Sto} {Q : QD} {E : XD} : dSetd d0 de dx σ S Q E = (d0 σ S (fun x S1 => (∃ kds, vw S1 x = .dct kds) ∧ de σ S1 (fun y S2 => dx σ S2 (fun z S3 => match x with
  | .ref p => match S3 p with
    | some (.dct kds) => match keyD y with
      | some k => kds.length < sizeLine ∧ (match getK kds k with
        | some d => Q d S3
        | none => Q z (put S3 p (.dct (putKD kds k z))))
      | none => False
    | _ => False
  | _ => False) E) E) E) := rfl
end VL

/-! VL: sorted(d.items()), d a dict with int keys. -/
namespace VL
open PySem PySem.Spec PyProof.Rows L2

section
variable {prog : Program} {w : World} {A : Around} {E : Value → Shared → Prop} {s : Shared}
def KeyTup (h : Heap) (kf : Value → Int) (v : Value) : Prop := ∃ a o t x n, v = Value.ref a ∧ h.get? a = some o ∧ o.cls = .type "tuple" ∧ o.data = .seq #[.int (kf v) t, x] n
theorem kt_cmp {vs : List Value} {kf : Value → Int} (hp : ∀ v ∈ vs, KeyTup s.heap kf v) (inj : ∀ v ∈ vs, ∀ u ∈ vs, kf v = kf u → v = u) : SrtO.Cmp prog w A s (tuples' true) (fun p => p.1 ∈ vs) (SrtO.lt2 fun v u => decide (kf v < kf u)) := by
  intro p q hm hm'
  have h1 := hp _ hm
  have h2 := hp _ hm'
  have hi := inj _ hm _ hm'
  show wpAny (model prog w) A (keyLt' (tuples' true) p.1 q.1) (fun r s' => s' = s ∧ r = decide (kf p.1 < kf q.1)) (fun _ _ => False) s
  generalize p.1 = v at h1 hi ⊢
  generalize q.1 = u at h2 hi ⊢
  obtain ⟨a, o, t, x, n, e, ho, hc, hd⟩ := h1
  obtain ⟨a', o', t', x', n', e', ho', hc', hd'⟩ := h2
  generalize hk : kf v = k at hi hd ⊢
  generalize hk' : kf u = k' at hi hd' ⊢
  rw [e, e']
  refine PySem.W.kat_lt ho hd ho' hd' ?_
  show PySem.W.KatLex prog w A true (decide (2 < 2)) _ [(.int k t, .int k' t'), (x, x')] 0 s
  refine PySem.W.kat_cons (SeqAt.EqAt.int_int k t k' t' prog w _ _ ?_)
  refine PySem.W.kat_go (fun e1 => ?_) (fun e1 => ?_)
  · have ex : k = k' := by simpa using e1
    have ev := hi ex
    rw [e, e'] at ev
    cases ev
    rw [ho] at ho'; cases ho'
    rw [hd] at hd'
    have exx : x = x' := by
      injection hd' with z1 z2
      have := congrArg (fun a => a.toList[1]?) z1
      simpa using this
    subst exx
    refine PySem.W.kat_yes (PySem.W.kat_cons (SeqAt.EqAt.same x prog w _ _ ?_))
    refine PySem.W.kat_yes (PySem.W.kat_nil ⟨rfl, ?_⟩)
    rw [ex]; simp
  · have ex : ¬ k = k' := by simpa using e1
    exact PySem.W.kat_no (oneLt_int ⟨rfl, rfl⟩)
theorem kt_firsts {h : Heap} {kf : Value → Int} : ∀ {vs : List Value}, (∀ v ∈ vs, KeyTup h kf v) → ∃ fs, PySem.W.KatTups h vs fs ∧ fs.length = vs.length ∧ ∀ f ∈ fs, ∃ x t, f = Value.int x t
  | [], _ => ⟨[], .nil, rfl, fun _ h => nomatch h⟩
  | v :: vs, hp => by
    obtain ⟨a, o, t, x, n, e, ho, hc, hd⟩ := hp v (List.mem_cons_self ..)
    obtain ⟨fs, h1, h2, h3⟩ := kt_firsts (vs := vs) fun u hu => hp u (List.mem_cons_of_mem _ hu)
    refine ⟨.int (kf v) t :: fs, ?_, by rw [List.length_cons, List.length_cons, h2], fun f hf => ?_⟩
    · rw [e]; exact PySem.W.KatTups.cons ho hc (by rw [hd, e]) rfl h1
    · rcases List.mem_cons.mp hf with z | z
      · exact ⟨_, _, z⟩
      · exact h3 f z
theorem kt_sortable {a : Addr} {vs : List Value} {kf : Value → Int} (h0 : 0 < vs.length) (hp : ∀ v ∈ vs, KeyTup s.heap kf v) (inj : ∀ v ∈ vs, ∀ u ∈ vs, kf v = kf u → v = u) (ha : ∀ o, s.heap.get? a = some o → o.cls ≠ .type "tuple") :
    SrtO.SortableO prog w A s a vs fun v u => decide (kf v < kf u) := by
  intro h' keep
  have hp' : ∀ v ∈ vs, KeyTup h' kf v := fun v hm => by
    obtain ⟨b, o, t, x, n, e, ho, hc, hd⟩ := hp v hm
    exact ⟨b, o, t, x, n, e, keep b o (fun z => by subst z; exact ha o ho hc) ho, hc, hd⟩
  obtain ⟨fs, h1, h2, h3⟩ := kt_firsts hp'
  refine ⟨tuples' true, fun Q E hq => ?_, kt_cmp hp' inj⟩
  refine PySem.W.kat_kind (T := .type "int") h1 (by omega) (fun f hm => ?_) (by rfl) ?_
  · obtain ⟨x, t, rfl⟩ := h3 f hm
    exact PySem.W.Looks.now
  · have e : (Value.type "int" != Value.type "tuple") = true := by first | decide +kernel | rfl | decide
    rw [e]
    exact hq
theorem swo_kf (kf : Value → Int) : SrtO.Swo fun v u => decide (kf v < kf u) := by
  refine ⟨fun x y h => ?_, fun x y z h1 h2 => ?_⟩
  · have a := of_decide_eq_true (p := kf x < kf y) h
    exact decide_eq_false (p := kf y < kf x) (by omega)
  · have a := of_decide_eq_false (p := kf y < kf x) h1
    have b := of_decide_eq_false (p := kf z < kf y) h2
    exact decide_eq_false (p := kf z < kf x) (by omega)
end
def tSortIt (td : TE) : TE := fun σ H Q => td σ H fun x H1 => ∃ (a : Addr) (kvs : List (Key × V)) (ks : List Int), x = V.ref a ∧ Rd H1 a (.dK kvs) ∧ kvs.map (·.1) = ks.map Sum.inl ∧ ks.Nodup ∧
  ∀ (H2 : Hp) (p : Addr) (adr : Int → Addr), (∀ b o, H1 b = some o → H2 b = some o) → H1 p = none → H2 p = some (.lst ((sortI ks).map fun k => V.ref (adr k))) →
    (∀ k v, (Sum.inl k, v) ∈ kvs → H1 (adr k) = none ∧ H2 (adr k) = some (.tup [.int k, v])) → Q (.ref p) H2
theorem idx_get {α : Type} [DecidableEq α] {l : List α} (nd : l.Nodup) {j : Nat} {a : α} (h : l[j]? = some a) : l.idxOf a = j := by
  obtain ⟨hj, e⟩ := List.getElem?_eq_some_iff.mp h
  subst e
  exact nd.idxOf_getElem j hj
section
variable {X : Cx} {W : WX} {o : Expr} {p pos apos mpos : Pos} {td : TE} {d0 : TEd}
theorem pe_sortIt (hc : X.calm = true) (hg : Gl X "sorted") (hm : X.mg "sorted" = none) (hd : PE X o td) (hbase : attributeBase o "items" X.env (eval o X.env) = eval o X.env := by rfl) (hline : (apos.endLine == mpos.line) = true := by rfl)
    (hse : starEach [Expr.Call (.Attribute o "items" apos) [] [] mpos] X.env = [(false, eval (Expr.Call (.Attribute o "items" apos) [] [] mpos) X.env)] := by rfl) :
    PE X (.Call (.Name "sorted" p) [.Call (.Attribute o "items" apos) [] [] mpos] [] pos) (tSortIt td) := by
  refine ⟨fun pins s σ H Q I h => ?_⟩
  refine wpAny_Call_Name_kw (ld_blt I hg hm (u := .builtin "sorted") (by first | rfl | decide +kernel) ?_ (by first | decide +kernel | decide) (by first | decide +kernel | decide))
  rw [hse]
  refine PySem.callWith_builtin1 (wpAny_Call_method0_late hbase hline (thn (hd.run pins s σ H _ I h) fun v s1 ⟨x, H1, I1, r1, a, kvs, ks, ex, ha, hks, nd, q⟩ => ?_))
  subst ex
  obtain rfl : v = Value.ref a := r1
  obtain ⟨hz, hsys, vs, rel, dof⟩ := dk_rd I1.hok ha
  obtain ⟨es, ep, ⟨ob, ho, hx, hdat⟩, hsz, hent⟩ := Heap.DictOf.raw dof
  refine ⟨"dict", "dict.items", F.plainAttrs_dict, F.slot_dict_items, F.type_dict_items, ⟨ob, ho, hx.1⟩, fun b e => ?_, Calls.callWith_builtin rfl (PySem.evalArgs_none ?_)⟩
  · cases e
    exact ⟨ob, ho, hx.2.1⟩
  refine DT.callItems (es := es) (ep := ep) hsys ⟨ob, ho, hx, hdat⟩ ?_
  have up : ∀ b u, s1.heap.get? b = some u → (s1.heap.push { cls := .type "dict_items", data := .fields #[.ref a] }).get? b = some u := fun b u e => Heap.get?_push_of_some _ e
  have hlk : vs.length = ks.length := by
    have e1 := congrArg List.length hks
    rw [List.length_map, List.length_map] at e1
    rw [← e1]; exact (KV.length rel).symm
  refine DT.sortedI (es := es) (ep := ep) (I.ok.hd hc) ⟨_, Heap.get?_push_size _ rfl, rfl, rfl⟩ ⟨ob, up _ _ ho, hx, hdat⟩ (by rw [hsz, (KV.length rel).symm]; exact hz) fun h' tk as hk hlt hl hG => ?_
  have lak : as.length = ks.length := by omega
  have nda : as.Nodup := List.Pairwise.imp (fun h => Nat.ne_of_lt h) hG.rise
  let kf : Value → Int := fun v => match v with | .ref b => ks.getD (as.idxOf b) 0 | _ => 0
  let adr : Int → Addr := fun k => as.getD (ks.idxOf k) 0
  have pr : ∀ (j : Nat) (b : Addr), as[j]? = some b → ∃ (k : Int) (t : Tok) (v : V) (u : Value), ks[j]? = some k ∧ kvs[j]? = some (Sum.inl k, v) ∧ RelV v u ∧ h'.get? b = some { cls := .type "tuple", data := .seq #[Value.int k t, u] } := by
    intro j b hj
    obtain ⟨en, he, hg'⟩ := hG.pairs j b hj
    obtain ⟨hj2, ee⟩ := Array.getElem?_eq_some_iff.mp he
    obtain ⟨⟨ky, vy⟩, hy⟩ : ∃ y, vs[j]? = some y := ⟨_, List.getElem?_eq_getElem (by rw [← hsz]; exact hj2)⟩
    obtain ⟨e1, e2⟩ := hent j hj2 ky vy hy
    obtain ⟨x, x1, x2⟩ := KV.at' rel hy
    have hk1 : (kvs.map (·.1))[j]? = some ky := by rw [List.getElem?_map, x1]; rfl
    rw [hks, List.getElem?_map] at hk1
    obtain ⟨k, k1, k2⟩ := Option.map_eq_some_iff.mp hk1
    rw [← k2] at e1 x1
    rcases keyIs_shape (show keyIs (Sum.inl k) es[j].key = true from e1) with ⟨i, t, ek, ev⟩ | ⟨z, t, ek, ev⟩
    · cases ek
      refine ⟨k, t, x, vy, k1, x1, x2, ?_⟩
      rw [hg', ← ee, ev, e2]
    · cases ek
  have kfa : ∀ (j : Nat) (b : Addr) (k : Int), as[j]? = some b → ks[j]? = some k → kf (.ref b) = k := by
    intro j b k h1 h2
    show ks.getD (as.idxOf b) 0 = k
    rw [idx_get nda h1, List.getD_eq_getElem?_getD, h2]; rfl
  have adk : ∀ (j : Nat) (b : Addr) (k : Int), as[j]? = some b → ks[j]? = some k → adr k = b := by
    intro j b k h1 h2
    show as.getD (ks.idxOf k) 0 = b
    rw [idx_get nd h2, List.getD_eq_getElem?_getD, h1]; rfl
  have hob : (h'.push { cls := .type "list", data := .seq (as.map Value.ref).toArray }).get? h'.objs.size = some (seqObj "list" (as.map Value.ref).toArray 0) := Heap.get?_push_size _ rfl
  have ne0 : ∀ b o, h'.get? b = some o → b ≠ h'.objs.size := fun b o e => Nat.ne_of_lt (Heap.lt_size e)
  generalize hh2 : h'.push { cls := .type "list", data := .seq (as.map Value.ref).toArray } = h2 at hob ⊢
  have ka : ∀ b o, h'.get? b = some o → h2.get? b = some o := fun b o e => by rw [← hh2]; exact Heap.get?_push_of_some _ e
  have at_ : ∀ v ∈ as.map Value.ref, ∃ (j : Nat) (b : Addr) (k : Int), v = .ref b ∧ as[j]? = some b ∧ ks[j]? = some k := by
    intro v hv'
    obtain ⟨b, hb, rfl⟩ := List.mem_map.mp hv'
    obtain ⟨j, hj⟩ := List.mem_iff_getElem?.mp hb
    obtain ⟨k, _, _, _, hk, _⟩ := pr j b hj
    exact ⟨j, b, k, rfl, hj, hk⟩
  have hkt : ∀ v ∈ as.map Value.ref, KeyTup h2 kf v := by
    intro v hv
    obtain ⟨j, b, k, rfl, hj, hk⟩ := at_ v hv
    obtain ⟨k', t, v', u, k1, k2, k3, k4⟩ := pr j b hj
    rw [hk] at k1; cases k1
    exact ⟨b, _, t, u, 0, rfl, ka _ _ k4, rfl, by rw [kfa j b k hj hk]⟩
  have inj : ∀ v ∈ as.map Value.ref, ∀ u ∈ as.map Value.ref, kf v = kf u → v = u := by
    intro v hv u hu e
    obtain ⟨j, b, k, rfl, hj, hk⟩ := at_ v hv
    obtain ⟨j2, b2, k2, rfl, hj2, hk2⟩ := at_ u hu
    rw [kfa j b k hj hk, kfa j2 b2 k2 hj2 hk2] at e
    rw [← adk j b k hj hk, ← adk j2 b2 k2 hj2 hk2, e]
  refine wpAny_call_entry PyProof.Rows.slot_list_sort ⟨_, hob, rfl⟩ PyProof.Rows.entry_list_sort
    (SrtO.list_sort_ord (s := { s1 with heap := h2, toks := tk }) (swo_kf kf) hob (by rw [List.length_map, lak, ← hlk, ← KV.length rel]; exact hz) (fun h2' => kt_sortable (by omega) hkt inj fun o e => ?_) fun out g1 g2 => ⟨.none, rfl, ?_⟩) (PyProof.Rows.args_list_sort _)
  · have e' : some o = some (seqObj "list" (as.map Value.ref).toArray 0) := e.symm.trans hob
    cases e'
    intro c
    exact absurd (Value.type.inj c) (by decide)
  show EP X pins σ Q (.ref h'.objs.size) { s1 with heap := sortedHeap h2 h'.objs.size (as.map Value.ref) out.toArray, toks := tk }
  have hkm : (as.map Value.ref).map kf = ks := by
    apply List.ext_getElem?
    intro j
    rw [List.getElem?_map, List.getElem?_map]
    cases e : as[j]? with
    | none =>
      have : ks[j]? = none := by
        rw [List.getElem?_eq_none_iff] at e ⊢; omega
      rw [this]; rfl
    | some b =>
      obtain ⟨k, _, _, _, k1, _⟩ := pr j b e
      rw [k1]
      show some (kf (.ref b)) = _
      rw [kfa j b k e k1]
  have ho1 : out.map kf = sortI ks := by
    refine sortI_eq ?_ ?_
    · have := g2.perm.map kf
      rwa [hkm] at this
    · exact List.pairwise_map.mpr (g1.imp fun {x y} h => Int.not_lt.mp (of_decide_eq_false (p := kf y < kf x) h))
  have ho2 : out = (sortI ks).map fun k => Value.ref (adr k) := by
    rw [← ho1, List.map_map]
    have e : out.map ((fun k => Value.ref (adr k)) ∘ kf) = out.map id := by
      apply List.map_congr_left
      intro v hv
      obtain ⟨j, b, k, rfl, hj, hk'⟩ := at_ v (g2.perm.mem_iff.mp hv)
      show Value.ref (adr (kf (.ref b))) = .ref b
      rw [kfa j b k hj hk', adk j b k hj hk']
    rw [e, List.map_id]
  have hlen : ((sortI ks).map fun k => V.ref (adr k)).length ≤ sizeLine := by
    rw [List.length_map, (sortI_perm ks).length_eq, ← hlk, ← KV.length rel]; exact hz
  have rv : Vals ((sortI ks).map fun k => V.ref (adr k)) out := by
    rw [ho2]
    exact vals_maps (fun k => V.ref (adr k)) (fun k => Value.ref (adr k)) (sortI ks) fun _ _ => rfl
  have sz1 : (s1.heap.push { cls := .type "dict_items", data := .fields #[.ref a] }).objs.size = s1.heap.objs.size + 1 := Heap.size_push _ _
  have hlt1 : s1.heap.objs.size ≤ h'.objs.size := by
    have : (s1.heap.push { cls := .type "dict_items", data := .fields #[.ref a] }).objs.size < h'.objs.size := hlt
    rw [sz1] at this; omega
  have kF : ∀ b o, b ≠ h'.objs.size → h2.get? b = some o → (sortedHeap h2 h'.objs.size (as.map Value.ref) out.toArray).get? b = some o := fun b o hb e => (PyProof.Rows.sortedHeap_old hb (Heap.lt_size e)).trans e
  have kS : ∀ b o, s1.heap.get? b = some o → (sortedHeap h2 h'.objs.size (as.map Value.ref) out.toArray).get? b = some o := fun b o e => kF b o (ne0 _ _ (hk b o (up b o e))) (ka _ _ (hk b o (up b o e)))
  obtain ⟨eF, heF⟩ := PyProof.Rows.sortedHeap_at (vs := as.map Value.ref) (out := out.toArray) hob
  have I1' : Inv X pins σ H1 { s1 with heap := sortedHeap h2 h'.objs.size (as.map Value.ref) out.toArray, toks := tk } := I1.kept (t' := tk) kS
  have hn0 : H1 h'.objs.size = none := I1.hok.fresh hlt1
  have I2 : Inv X pins σ (upd H1 h'.objs.size (.lst ((sortI ks).map fun k => V.ref (adr k)))) { s1 with heap := sortedHeap h2 h'.objs.size (as.map Value.ref) out.toArray, toks := tk } :=
    I1'.take (h' := sortedHeap h2 h'.objs.size (as.map Value.ref) out.toArray) (t' := tk) (fun b ob _ e => e) (I1.fpOk hlt1 hn0) ⟨hlen, out, eF, rv, heF⟩
  obtain ⟨H2, I3, g, qt⟩ := L2.DX.takeT (P := fun b vs => ∃ (j : Nat) (k : Int) (v : V), as[j]? = some b ∧ kvs[j]? = some (Sum.inl k, v) ∧ vs = [.int k, v]) I1 as _ I2 nda fun b hb => by
    obtain ⟨j, hj⟩ := List.mem_iff_getElem?.mp hb
    obtain ⟨k, t, v, u, k1, k2, k3, k4⟩ := pr j b hj
    have hbl : s1.heap.objs.size ≤ b := by
      have : (s1.heap.push { cls := .type "dict_items", data := .fields #[.ref a] }).objs.size < b := hG.above b hb
      rw [sz1] at this; omega
    refine ⟨hbl, ?_, [.int k, v], ⟨j, k, v, hj, k2, rfl⟩, fun H3 => ⟨(by rw [sizeLine_eq]; show 2 ≤ 16777216; omega), [Value.int k t, u], .cons ⟨t, rfl⟩ (.cons k3 .nil), ⟨_, kF _ _ (ne0 _ _ k4) (ka _ _ k4), rfl, 0, rfl⟩⟩⟩
    rw [upd_ne (ne0 _ _ k4)]
    exact I1.hok.fresh hbl
  have gr : ∀ b o, H1 b = some o → H2 b = some o := fun b o e => g b o (by rw [upd_ne (ne_of_none e hn0)]; exact e)
  refine ⟨.ref h'.objs.size, H2, I3, rfl, q H2 h'.objs.size adr gr hn0 (g _ _ upd_same) fun k v hkv => ?_⟩
  obtain ⟨j, hj⟩ := List.mem_iff_getElem?.mp hkv
  have hkj : ks[j]? = some k := by
    have e : (kvs.map (·.1))[j]? = some (Sum.inl k) := by rw [List.getElem?_map, hj]; rfl
    rw [hks, List.getElem?_map] at e
    obtain ⟨k', e1, e2⟩ := Option.map_eq_some_iff.mp e
    cases e2; exact e1
  obtain ⟨b, hbj⟩ : ∃ b, as[j]? = some b := ⟨_, List.getElem?_eq_getElem (by rw [lak]; exact (List.getElem?_eq_some_iff.mp hkj).1)⟩
  rw [adk j b k hbj hkj]
  have hbl : s1.heap.objs.size ≤ b := by
    have : (s1.heap.push { cls := .type "dict_items", data := .fields #[.ref a] }).objs.size < b := hG.above b (List.mem_of_getElem? hbj)
    rw [sz1] at this; omega
  refine ⟨I1.hok.fresh hbl, ?_⟩
  obtain ⟨vs', ⟨j2, k2, v2, a1, a2, rfl⟩, hH⟩ := qt b (List.mem_of_getElem? hbj)
  have eij : j2 = j := (List.getElem?_inj (List.getElem?_eq_some_iff.mp a1).1 nda).mp (a1.trans hbj.symm)
  subst eij
  rw [hj] at a2; cases a2
  exact hH
/-! over data -/
def dSortIt (de : TEd) : TEd := fun σ S Q E => de σ S (fun x S1 => match vw S1 x with
  | .dct kds => match kintsD kds with
    | some ks => ks.Nodup ∧ Q (.lst ((sortI ks).map fun k => .tup [.int k, (getK kds (.inl k)).getD .non])) S1
    | none => False
  | _ => False) E
theorem same_grow {K : PySem.W.Frag} {F H H2 : Hp} {S : Sto} (gr : ∀ b o, H b = some o → H2 b = some o) : Same (mask F S H) (mask F S H2) := fun b v q => by
  obtain ⟨q1, q0, q2⟩ := mask_free q
  rw [mask_none q1 q0]; exact gr b v q2
theorem good_grow {K : PySem.W.Frag} {F H H2 : Hp} {S : Sto} (hs : HSt K F H S) (gr : ∀ b o, H b = some o → H2 b = some o) : Good K F H S H2 S := ⟨⟨fun a o q => by
  have k := hs.at_ a o q
  obtain ⟨u, hu, _⟩ := k.some
  have e : H2 a = H a := by rw [hu]; exact gr a u hu
  rw [e]
  exact k.mono (same_grow (K := K) gr), fun a u q => ⟨gr a u (hs.side a u q).1, (hs.side a u q).2⟩⟩, same_grow (K := K) gr⟩
theorem reps_maps {K : PySem.W.Frag} {M : Hp} {α : Type} {f : α → V} {g : α → D} : ∀ {l : List α}, (∀ x ∈ l, Rep K M (f x) (g x)) → Reps K M (l.map f) (l.map g)
  | [], _ => .nil
  | x :: l, h => .cons (h x (List.mem_cons_self ..)) (reps_maps fun y hy => h y (List.mem_cons_of_mem _ hy))
theorem ve_sortIt (hc : X.calm = true) (hm : X.mg "sorted" = none) (he : VE X W o td d0) (hg : Gl X "sorted" := by rfl) (hbase : attributeBase o "items" X.env (eval o X.env) = eval o X.env := by rfl) (hline : (apos.endLine == mpos.line) = true := by rfl)
    (hse : starEach [Expr.Call (.Attribute o "items" apos) [] [] mpos] X.env = [(false, eval (Expr.Call (.Attribute o "items" apos) [] [] mpos) X.env)] := by rfl) :
    VE X W (.Call (.Name "sorted" p) [.Call (.Attribute o "items" apos) [] [] mpos] [] pos) (tSortIt td) (dSortIt d0) := ⟨pe_sortIt hc hg hm he.run hbase hline hse, fun {σV F H σ S Qd E Q} hs er h hq hx =>
  he.snd hs er h (fun x H1 dx S1 g r h1 => by
    split at h1
    · next kds e =>
      split at h1
      · next ks ek =>
        obtain ⟨a, kvs, rfl, ha, rk⟩ := see_dct g.hst r e
        have hkk := (repK_keys rk).trans (kints_of ek)
        refine ⟨a, kvs, ks, rfl, ha, hkk, h1.1, fun H2 p adr gr hp hl ht => ?_⟩
        have gg : Good X.K F H1 S1 H2 S1 := good_grow g.hst gr
        refine hq _ H2 _ S1 (g.trans gg) (.lst (SqL.of (by rw [mask_none (g.hst.free hp) (g.hst.freeF hp)]; exact hl)) (reps_maps fun k hk => ?_)) h1.2
        have hk' : k ∈ ks := (sortI_perm ks).mem_iff.mp hk
        cases q : getK kds (.inl k) with
        | none =>
          have n := (repK_valV rk).2 q
          have : (Sum.inl k : Key) ∈ kvs.map (·.1) := by rw [hkk]; exact List.mem_map_of_mem hk'
          obtain ⟨kv, m1, m2⟩ := List.mem_map.mp this
          unfold L2.valV at n
          rw [Option.map_eq_none_iff, List.find?_eq_none] at n
          exact absurd m2 (by simpa using n kv m1)
        | some d =>
          obtain ⟨v, ev, rv⟩ := (repK_valV rk).1 d q
          have m : ((Sum.inl k : Key), v) ∈ kvs := by
            unfold L2.valV at ev
            obtain ⟨kv, e1, e2⟩ := Option.map_eq_some_iff.mp ev
            have h1 := List.find?_some e1
            have h2 := List.mem_of_find?_eq_some e1
            have e3 : kv.1 = Sum.inl k := by simpa using h1
            rw [← e2, ← e3]; exact h2
          obtain ⟨t1, t2⟩ := ht k v m
          exact .tup (xs := [.int k, v]) (.inl (.inl (by rw [mask_none (g.hst.free t1) (g.hst.freeF t1)]; exact t2))) (.cons (.int k) (.cons (rv.mono gg.same) .nil))
      · cases h1
    · cases h1) hx⟩
end
@[simp ↓] theorem z_dSortIt {de : TEd} {σ : Sd} {S : Sto} {Q : QD} {E : XD} : dSortIt de σ S Q E = (de σ S (fun x S1 => match vw S1 x with
  | .dct kds => match kintsD kds with
    | some ks => ks.Nodup ∧ Q (.lst ((sortI ks).map fun k => .tup [.int k, (getK kds (.inl k)).getD .non])) S1
    | none => False
  | _ => False) E) := rfl
end VL

/-! VL: further readings as simp reads them; data of unlike kinds compared. -/
namespace VL
open PySem PySem.Spec PyProof.Rows L2
@[simp ↓] theorem z_dPop {d0 : TEd} {σ : Sd} {S : Sto} {Q : QD} {E : XD} : dPop d0 σ S Q E = (d0 σ S (fun x S1 => match x with
  | .ref p => match S1 p with
    | some (.lst ds) => match ds.getLast? with
      | some d => Q d (put S1 p (.lst ds.dropLast))
      | none => False
    | _ => False
  | _ => False) E) := rfl
@[simp ↓] theorem z_dGet2 {d0 de dx : TEd} {σ : Sd} {S : Sto} {Q : QD} {E : XD} : dGet2 d0 de dx σ S Q E = (d0 σ S (fun x S1 => (∃ kds, vw S1 x = .dct kds) ∧ de σ S1 (fun y S2 => dx σ S2 (fun z S3 => match vw S3 x with
  | .dct kds => match keyD y with
    | some k => Q ((getK kds k).getD z) S3
    | none => False
  | _ => False) E) E) E) := rfl
@[simp ↓] theorem z_dGet1 {d0 de : TEd} {σ : Sd} {S : Sto} {Q : QD} {E : XD} : dGet1 d0 de σ S Q E = (d0 σ S (fun x S1 => (∃ kds, vw S1 x = .dct kds) ∧ de σ S1 (fun y S2 => match vw S2 x with
  | .dct kds => match keyD y with
    | some k => Q ((getK kds k).getD .non) S2
    | none => False
  | _ => False) E) E) := rfl
section
variable {g : Bool → Bool} {S : Sto} {Q : QD}
@[simp ↓] theorem z_eqIN {i : Int} : dEqG g (.int i) .non S Q = Q (.bl (g false)) S := by
  apply propext
  constructor
  · intro h; exact h.2.2
  · intro h; exact ⟨rfl, rfl, h⟩
@[simp ↓] theorem z_eqNI {i : Int} : dEqG g .non (.int i) S Q = Q (.bl (g false)) S := by
  apply propext
  constructor
  · intro h; exact h.2.2
  · intro h; exact ⟨rfl, rfl, h⟩
end
end VL

/-! VL: tuples put together. -/
namespace VL
open PySem PySem.Spec PyProof.Rows L2
def dAddT : R2d := fun x y S Q => match vw S x, vw S y with
  | .tup i, .tup j => i.length + j.length ≤ sizeLine ∧ Q (.tup (i ++ j)) S
  | _, _ => False
@[simp ↓] theorem z_dAddT {x y : D} {S : Sto} {Q : QD} : dAddT x y S Q = (match vw S x, vw S y with
  | .tup i, .tup j => i.length + j.length ≤ sizeLine ∧ Q (.tup (i ++ j)) S
  | _, _ => False) := rfl
section
variable {X : Cx} {W : WX} {a b : Expr} {ta tb : TE} {da db : TEd} {pos : Pos}
theorem snd_addT : Snd2 X.K (rCatA X.K) dAddT := fun {x y dx dy F H S Qd Q} hs rx ry h hq => by
  unfold dAddT at h; split at h
  · next i j ei ej =>
    obtain ⟨_, a1, xs, rfl, h1, m1, r1⟩ := see_tup rx ei
    obtain ⟨_, b1, ys, rfl, h2, m2, r2⟩ := see_tup ry ej
    refine ⟨a1, b1, xs, ys, rfl, rfl, h1, h2, by rw [r1.length, r2.length]; exact h.1, fun e => ?_, fun _ e => ?_, fun _ _ p hp => hq _ _ _ S (good_new hs hp) (new_tup hs hp (r1.append r2)) h.2⟩
    · subst e
      cases r1
      exact hq _ H _ S (.refl hs) (.tup m2 r2) h.2
    · subst e
      cases r2
      refine hq _ H _ S (.refl hs) (.tup m1 r1) ?_
      have := h.2
      rwa [List.append_nil] at this
  · cases h
theorem ve_addT (ha : VE X W a ta da) (hb : VE X W b tb db) : VE X W (.BinOp a .Add b pos) (tOp (rCatA X.K) ta tb) (dOp dAddT da db) := ve_op op_catA snd_addT ha hb
end
end VL

/-! VL: slices of tuples, the whole ones too; list(d), d's keys; calls by keywords alone. -/
namespace VL
open PySem PySem.Spec PyProof.Rows L2
section
variable {X : Cx} {W : WX} {pos : Pos}
def dSliceA (de : TEd) (dl dh : TOd) : TEd := fun σ S Q E => de σ S (fun x S1 => dl σ S1 (fun lo S2 => dh σ S2 (fun hi S3 => match vw S3 x with
  | .lst ds => Q (.lst (cutD ds lo hi)) S3
  | .tup ds => Q (.tup (cutD ds lo hi)) S3
  | .str z => z.length ≤ sizeLine ∧ Q (.str (cutS z lo hi)) S3
  | _ => False) E) E) E
@[simp ↓] theorem z_dSliceA {de : TEd} {dl dh : TOd} {σ : Sd} {S : Sto} {Q : QD} {E : XD} : dSliceA de dl dh σ S Q E = (de σ S (fun x S1 => dl σ S1 (fun lo S2 => dh σ S2 (fun hi S3 => match vw S3 x with
  | .lst ds => Q (.lst (cutD ds lo hi)) S3
  | .tup ds => Q (.tup (cutD ds lo hi)) S3
  | .str z => z.length ≤ sizeLine ∧ Q (.str (cutS z lo hi)) S3
  | _ => False) E) E) E) := rfl
def rSlAll2 (K : PySem.W.Frag) : V → Option Int → Option Int → Hp → VK → Prop := fun x lo hi H Q => rSlL K x lo hi H Q ∨ rSlA K x lo hi H Q ∨ rSlS x lo hi H Q
theorem sl_all2 : SlR X (rSlAll2 X.K) := SlR.or sl_list (SlR.or sl_tupA sl_str)
theorem cut_whole {ds : List D} {lo hi : Option Int} (h1 : HT.sIx ds.length 0 lo = 0) (h2 : HT.sIx ds.length ds.length hi = ds.length) : cutD ds lo hi = ds := by
  unfold cutD
  rw [h1, h2]
  simp
theorem ve_sliceA {e : Expr} {lo hi : Option Expr} {te : TE} {tl th : TO} {de : TEd} {dl dh : TOd} {p2 : Pos} (he : VE X W e te de) (hl : VO X W lo tl dl) (hh : VO X W hi th dh) :
    VE X W (.Subscript e (.Slice lo hi none p2) pos) (tSl (rSlAll2 X.K) te tl th) (dSliceA de dl dh) := by
  refine ⟨pe_slice sl_all2 he.run hl.run hh.run, fun {σV F H σ S Qd E Q} hs er h hq hx => ?_⟩
  refine he.snd (Q := fun x H1 => tl σV H1 fun l H2 => th σV H2 fun u H3 => rSlAll2 X.K x l u H3 Q) hs er h (fun x H1 dx S1 g1 r1 h1 => ?_) hx
  refine hl.snd (Q := fun l H2 => th σV H2 fun u H3 => rSlAll2 X.K x l u H3 Q) g1.hst (er.mono g1.same) h1 (fun l H2 S2 g2 h2 => ?_) (hx.next g1)
  have g12 := g1.trans g2
  refine hh.snd (Q := fun u H3 => rSlAll2 X.K x l u H3 Q) g2.hst (er.mono g12.same) h2 (fun u H3 S3 g3 h3 => ?_) (hx.next g12)
  have g := g12.trans g3
  have r3 := (r1.mono g2.same).mono g3.same
  split at h3
  · next ds e =>
    obtain ⟨a1, xs, rfl, k1, q1⟩ := see_lst g.hst r3 e
    exact .inl ⟨a1, xs, rfl, k1, fun p hp => hq _ _ _ S3 (g.trans (good_new g.hst hp)) (new_lst g.hst hp (q1.cut l u)) h3⟩
  · next ds e =>
    obtain ⟨_, a1, xs, rfl, k1, m1, q1⟩ := see_tup r3 e
    refine .inr (.inl ⟨a1, xs, rfl, k1, fun hw => ?_, fun _ p hp => hq _ _ _ S3 (g.trans (good_new g.hst hp)) (new_tup g.hst hp (q1.cut l u)) h3⟩)
    rw [q1.length] at hw
    rw [cut_whole hw.1 hw.2] at h3
    exact hq _ _ _ S3 g (.tup m1 q1) h3
  · next z e =>
    obtain rfl := see_str r3 e
    exact .inr (.inr ⟨z, rfl, h3.1, hq _ _ _ S3 g (.str _) h3.2⟩)
  · cases h3
/-! ### list(d): the keys of a dict with int keys -/
def rKeysDK (K : PySem.W.Frag) : List V → Hp → VK → Prop := fun xs H Q => ∃ (a : Addr) (kvs : List (Key × V)) (ks : List Int), xs = [.ref a] ∧ Rd H a (.dK kvs) ∧ kvs.map (·.1) = ks.map Sum.inl ∧
    ∀ p : Addr, H p = none → Q (.ref p) (upd H p (.lst (ks.map V.int)))
theorem call_keysDK (hcalm : X.calm = true) : CallR X (.type "list") (rKeysDK X.K) := by
  intro pins s σ H xs us Q I r q
  obtain ⟨a, kvs, ks, ex, hd, hks, q⟩ := q
  subst ex
  obtain ⟨u, eu, rx⟩ := vals1 r
  subst eu
  cases rx
  obtain ⟨z, lo, vs, rel, dd⟩ := dk_rd I.hok hd
  obtain ⟨ep, hat⟩ := dd.dictAt
  have hkeys : vs.map (·.1) = ks.map Sum.inl := rel.keys.symm.trans hks
  have hl : vs.length = ks.length := by
    have e := congrArg List.length hkeys
    rw [List.length_map, List.length_map] at e
    exact e
  have h16 : vs.length ≤ sizeLine := by rw [← KV.length rel]; exact z
  refine PySem.W.kdl_call (PySem.W.kdl_dict (knd := mixKind X.prog X.w) (kvs := vs) (ep := ep) lo) (I.ok.hd hcalm) hat h16 fun h' tk acc c' hk hD hacc => ?_
  have hal : acc.toList.length = ks.length := by rw [Array.length_toList, hacc.1, hl]
  have hS : IntsAre acc.toList ks := ints_each hal fun j v e => by
    obtain ⟨k, x, e1, e2⟩ := hacc.2 j v (by rw [← Array.getElem?_toList]; exact e)
    have e3 : (vs.map (·.1))[j]? = some k := by rw [List.getElem?_map, e1]; rfl
    rw [hkeys, List.getElem?_map] at e3
    cases e4 : ks[j]? with
    | none => rw [e4] at e3; cases e3
    | some y =>
      rw [e4] at e3
      have e5 : Sum.inl y = k := Option.some.inj e3
      subst e5
      rcases keyIs_shape (show keyIs (Sum.inl y) v = true from e2) with ⟨i, t, ek, ev⟩ | ⟨z, t, ek, ev⟩
      · cases ek
        exact ⟨y, t, rfl, ev⟩
      · cases ek
  refine ⟨.ref _, _, I.laid (t' := tk) hk (Nat.le_refl _) (show ObjOk X.prog X.w _ h' _ (.lst (ks.map V.int)) from ⟨by rw [List.length_map, ← hl]; exact h16, acc.toList, c', vals_of_ints hS, ?_⟩), rfl, q _ (I.hok.fresh (Nat.le_refl _))⟩
  rw [Array.toArray_toList]
  exact hD
def dKeys : RCd := fun ds S Q => match ds with
  | [x] => match vw S x with
    | .dct l => match kintsD l with
      | some ns => Q (.lst (ns.map D.int)) S
      | none => False
    | _ => False
  | _ => False
@[simp ↓] theorem z_dKeys {ds : List D} {S : Sto} {Q : QD} : dKeys ds S Q = (match ds with
  | [x] => match vw S x with
    | .dct l => match kintsD l with
      | some ns => Q (.lst (ns.map D.int)) S
      | none => False
    | _ => False
  | _ => False) := rfl
theorem snd_keys : SndC X.K (rKeysDK X.K) dKeys := fun {xs ds F H S Qd Q} hs r h hq => by
  unfold dKeys at h; split at h
  · cases r with
    | cons r1 r2 =>
      cases r2
      split at h
      · next l e =>
        obtain ⟨a1, ys, rfl, h1, q1⟩ := see_dct hs r1 e
        split at h
        · next ns en => exact ⟨a1, ys, ns, rfl, h1, (repK_keys q1).trans (kints_of en), fun p hp => hq _ _ _ S (good_new hs hp) (new_lst hs hp (reps_of_ints _)) h⟩
        · cases h
      · cases h
  · cases h
theorem ve_keys {p : Pos} {e : Expr} {t : TA} {d : TAd} (hcalm : X.calm = true) (hm : X.mg "list" = none) (ha : VA X W [e] t d)
    (hg : Gl X "list" := by rfl) (he : starEach [e] X.env = (false, eval e X.env) :: starEach [] X.env := by rfl) (hpl : (backTo pos (starEach [] X.env)).any (·.1) = false := by rfl) :
    VE X W (.Call (.Name "list" p) [e] [] pos) (tCB (rKeysDK X.K) t) (dCB dKeys d) :=
  ve_ct snd_keys (call_keysDK hcalm) hm ha hg (by decide +kernel) (by decide) (by decide) he hpl
/-! ### f(k = v, ..) -/
section
variable {k : Nat} {f : Addr} {fd : FuncData} {ps ks : List Str} {sp : Sp} {x : Str} {p : Pos} {kws : List Keyword} {tk' : TA} {dk : TAd} {spd : Spd}
theorem pe_callGK0 {g : List Value → List Value → List Value} {gV : List V → List V → List V} (Fn : FnG X.prog X.w X.K X.mg X.base k f fd ps sp) (hgd : X.A.guards = some []) (hr : Room k X.A) (tk : Takes X W) (hm : X.mg x = some (.ref f)) (hk : PySem.W.keepIn X.K (.ref f) = true)
    (hb : KBn X.K fd ps 0 ks g gV) (hkw : PK X kws tk') (hg : Gl X x := by rfl) (hall : (backToKw pos (keywordEach kws X.env)).all (·.1.isSome) = true := by rfl) (hks : (backToKw pos (keywordEach kws X.env)).filterMap (·.1) = ks := by rfl)
    (hdb : (x == ("__debug__" : Str)) = false := by decide)
    (hpl : ((backTo pos (starEach [] X.env)).any (·.1) || (backToKw pos (keywordEach kws X.env)).any (·.1.isNone)) = false := by rfl) : PE X (.Call (.Name x p) [] kws pos) (tCallGK 0 ks.length sp gV W tNil tk') := by
  refine ⟨fun pins s σ H Q I h => wpAny_Call_Name_kw (ld_glob I hg hm ?_ hdb)⟩
  refine PySem.W.callWith_KW0 (h₀ := X.base) I.ok.mod.kin hk hall (thn (hkw.run pos pins s σ H _ I h) fun ws s2 ⟨zs, H2, I2, rz, l1, l2, q2⟩ => ⟨I2.kIn, ?_⟩) hpl
  rw [hks]
  exact wpAny_call (run_G Fn hgd hr tk I2 (hb.to s2 [] ws I2.kIn rfl (rz.length.symm.trans l2)) (hb.rel .nil rz) q2)
theorem ve_callRK0 {gV : List V → List V → List V} {gD : List D → List D → List D} (R : RdyK X.prog X.w X.K X.mg X.base k x 0 ks gV gD spd) (hgd : X.A.guards = some []) (hr : Room k X.A) (tk : Takes X W) (hkw : VK' X W kws tk' dk) (hg : Gl X x := by rfl)
    (hall : (backToKw pos (keywordEach kws X.env)).all (·.1.isSome) = true := by rfl) (hks : (backToKw pos (keywordEach kws X.env)).filterMap (·.1) = ks := by rfl)
    (hdb : (x == ("__debug__" : Str)) = false := by decide)
    (hpl : ((backTo pos (starEach [] X.env)).any (·.1) || (backToKw pos (keywordEach kws X.env)).any (·.1.isNone)) = false := by rfl) :
    VE X W (.Call (.Name x p) [] kws pos) (tCallGK 0 ks.length (lift X.K spd) gV W tNil tk') (dCallK 0 ks.length spd gD dNil dk) := by
  obtain ⟨f, fd, ps, g, Fn, hm, hk, hb⟩ := R.ex
  refine ⟨pe_callGK0 Fn hgd hr tk hm hk hb hkw.run hg hall hks hdb hpl, fun {σV F H σ S Qd E Q} hs er h hq hx => ?_⟩
  refine (va_nil (X := X) (W := W)).snd (Q := fun vs H1 => tk' σV H1 fun zs H2 => vs.length = 0 ∧ zs.length = ks.length ∧ lift X.K spd (gV vs zs) H2 Q (WE W σV)) hs er h (fun vs H1 ds S1 g1 r1 h1 => ?_) hx
  refine hkw.snd g1.hst (er.mono g1.same) h1 (fun zs H2 es S2 g2 r2 h2 => ?_) (hx.next g1)
  have g12 := g1.trans g2
  have r1' := r1.mono g2.same
  exact ⟨r1'.length.trans h2.1, r2.length.trans h2.2.1, F, gD ds es, S2, Qd, E, g2.hst, R.rel _ _ _ _ _ r1' r2, h2.2.2, hq.next g12, fun cls a H' fs S' g' xr q => hx cls a H' fs S' (g12.trans g') xr q⟩
end
end
end VL

/-! VL: defs called by the names of their parameters alone. -/
namespace VL
open PySem PySem.Spec PyProof.Rows L2
/-- l's things at the places is -/
def pm {α : Type} (is : List Nat) (l : List α) : List α := is.filterMap fun i => l[i]?
theorem vals_get {vs : List V} {us : List Value} (r : Vals vs us) : ∀ i : Nat, (vs[i]? = none ∧ us[i]? = none) ∨ ∃ v u, vs[i]? = some v ∧ us[i]? = some u ∧ RelV v u := by
  induction r with
  | nil => intro i; exact .inl ⟨rfl, rfl⟩
  | cons h _ ih =>
    intro i
    cases i with
    | zero => exact .inr ⟨_, _, rfl, rfl, h⟩
    | succ i => simpa using ih i
theorem vals_pm {vs : List V} {us : List Value} (r : Vals vs us) : ∀ is : List Nat, Vals (pm is vs) (pm is us)
  | [] => .nil
  | i :: is => by
    have ih := vals_pm r is
    unfold pm at ih ⊢
    rw [List.filterMap_cons, List.filterMap_cons]
    rcases vals_get r i with ⟨e1, e2⟩ | ⟨v, u, e1, e2, h⟩
    · rw [e1, e2]; exact ih
    · rw [e1, e2]; exact .cons h ih
theorem reps_pm {K : PySem.W.Frag} {M : Hp} {vs : List V} {ds : List D} (r : Reps K M vs ds) : ∀ is : List Nat, Reps K M (pm is vs) (pm is ds)
  | [] => .nil
  | i :: is => by
    have ih := reps_pm r is
    unfold pm at ih ⊢
    rw [List.filterMap_cons, List.filterMap_cons]
    cases e : ds[i]? with
    | none =>
      have : vs[i]? = none := by rw [List.getElem?_eq_none_iff] at e ⊢; rw [r.length]; exact e
      rw [this]; exact ih
    | some d =>
      obtain ⟨v, h1, h2⟩ := r.get e
      rw [h1]; exact .cons h2 ih
theorem rdyk_pos {P : Program} {w : World} {K : PySem.W.Frag} {mg : Str → Option Value} {base : Heap} {k : Nat} {x qual : Str} {params : Arguments} {body : List Stmt} {scope : Scope} {f : Addr} {fd : FuncData} {ps : List Str} {spd : Spd} (ks : List Str) (is : List Nat)
    (F : FunD K x qual params body scope [] [] f fd) (G : FnG P w K mg base k f fd ps (lift K spd)) (hm : mg x = some (.ref f))
    (h : ∀ (kV doc pm' : Value) (an : Option Addr) (cdv ct : Value) (ws : List Value), ws.length = ks.length → bindArgs (PySem.W.fnOf x qual params body scope .none kV doc pm' an cdv ct) ⟨[], ks.zip ws⟩ = pure (ps.zip (pm is ws))) :
    RdyK P w K mg base k x 0 ks (fun _ zs => pm is zs) (fun _ es => pm is es) spd := by
  refine ⟨⟨f, fd, ps, fun _ ws => pm is ws, G, hm, F.kp, ?_⟩, fun M vs zs ds es _ r => reps_pm r is⟩
  obtain ⟨oc, od, dV, kV, doc, pm', an, cdv, ct, osl, rfl, lk, hcd, hD, hK⟩ := F.ex
  rcases hD with ⟨_, rfl⟩ | ⟨e, _⟩
  · refine ⟨fun s us ws _ h1 h2 => ?_, fun _ r => vals_pm r is⟩
    have : us = [] := List.length_eq_zero_iff.mp h1
    subst this
    exact .of_eq (h kV doc pm' an cdv ct ws h2)
  · exact absurd rfl e
end VL

/-! VL: x[::-1] of a list, {} as it stands, repr of {}. -/
namespace VL
open PySem PySem.Spec PyProof.Rows L2
section
variable {X : Cx} {W : WX} {pos : Pos}
def dRevL (de : TEd) : TEd := fun σ S Q E => de σ S (fun x S1 => match vw S1 x with
  | .lst ds => Q (.lst ds.reverse) S1
  | _ => False) E
@[simp ↓] theorem z_dRevL {de : TEd} {σ : Sd} {S : Sto} {Q : QD} {E : XD} : dRevL de σ S Q E = (de σ S (fun x S1 => match vw S1 x with
  | .lst ds => Q (.lst ds.reverse) S1
  | _ => False) E) := rfl
theorem reps_rev {K : PySem.W.Frag} {M : Hp} : ∀ {xs : List V} {ds : List D}, Reps K M xs ds → Reps K M xs.reverse ds.reverse
  | _, _, .nil => .nil
  | _, _, .cons h r => by
    rw [List.reverse_cons, List.reverse_cons]
    exact (reps_rev r).append (.cons h .nil)
theorem ve_revL {e : Expr} {te : TE} {de : TEd} {k : Nat} {p1 p2 p3 : Pos} (he : VE X W e te de) :
    VE X W (.Subscript e (.Slice none none (some (.UnaryOp .USub (.Constant (.int 1) k p1) p2)) p3) pos) (tRevL X.K te) (dRevL de) := by
  refine ⟨pe_revL he.run, fun {σV F H σ S Qd E Q} hs er h hq hx => ?_⟩
  refine he.snd hs er h (fun x H1 dx S1 g r h1 => ?_) hx
  split at h1
  · next ds e =>
    obtain ⟨a1, xs, rfl, k1, q1⟩ := see_lst g.hst r e
    exact ⟨a1, xs, rfl, k1, fun p hp => hq _ _ _ S1 (g.trans (good_new g.hst hp)) (new_lst g.hst hp (reps_rev q1)) h1⟩
  · cases h1
def dDct0 : TEd := fun _ S Q _ => Q (.dct []) S
@[simp ↓] theorem z_dDct0 {σ : Sd} {S : Sto} {Q : QD} {E : XD} : dDct0 σ S Q E = Q (.dct []) S := rfl
theorem ve_dct0 : VE X W (.Dict [] [] pos) tDNewK dDct0 := ⟨(ve_frz (ve_dctM (X := X) (W := W) (pos := pos))).run, fun {σV F H σ S Qd E Q} hs er hh hq hx =>
  (ve_frz (ve_dctM (X := X) (W := W) (pos := pos))).snd hs er (show dFrz dDctM σ S Qd E from fun p hp => by
    show frz Qd (.ref p) (put S p (.dct []))
    unfold frz
    simp only [put_same, era_put hp]
    exact hh) hq hx⟩
/-! ### repr of {} too -/
def rReprX (K : PySem.W.Frag) : List V → Hp → VK → Prop := fun xs H Q => rRepr K xs H Q ∨ ∃ a : Addr, xs = [.ref a] ∧ Rd H a (.dK []) ∧ Q (.str "{}") H
theorem call_reprX (hgd : X.A.guards = some []) (hu : X.A.units + 66 < cLine) : CallR X (.builtin "repr") (rReprX X.K) := fun pins s σ H xs us Q I r h => by
  rcases h with h | ⟨a, rfl, hd, q⟩
  · exact call_reprD hgd hu pins s σ H xs us Q I r h
  · obtain ⟨u, rfl, ru⟩ := vals1 r
    cases ru
    obtain ⟨z, lo, vs, rel, o, es, ep, h1, h2, h3, h4, h5, h6⟩ := dk_rd I.hok hd
    have hv : vs = [] := by cases rel; rfl
    subst hv
    have he : es.toList = [] := by
      cases q : es.toList with
      | nil => rfl
      | cons e l => rw [q] at h5; cases h5
    have rd : Reads s.heap (.ref a) (.dict []) (a :: [] ++ []) := Reads.dict h1 h2.1 h3 (by rw [he]; exact .nil) (by rw [he]; exact .nil)
    have hs : (PyData.dict []).shown = ("{}" : Str) := by decide +kernel
    refine repr_of_reads' rd (by simp [PyData.showable]; rfl) (fun _ hm => ?_) hgd (by rw [show (PyData.dict []).depth = 1 from by decide +kernel]; omega) (fun _ _ e => e) (fun h' u tk hk => ⟨.str _, H, I.kept (t' := tk) hk, ⟨u, rfl⟩, by rw [hs]; exact q⟩) (by rw [hs]; decide +kernel)
    simp at hm
    subst hm
    simp at lo
def dReprX : RCd := fun ds S Q => match ds with
  | [x] => match vw S x with
    | .dct [] => Q (.str "{}") S
    | _ => dRepr ds S Q
  | _ => False
@[simp ↓] theorem z_dReprX {ds : List D} {S : Sto} {Q : QD} : dReprX ds S Q = (match ds with
  | [x] => match vw S x with
    | .dct [] => Q (.str "{}") S
    | _ => dRepr ds S Q
  | _ => False) := rfl
theorem snd_reprX : SndC X.K (rReprX X.K) dReprX := fun {xs ds F H S Qd Q} hs r h hq => by
  unfold dReprX at h; split at h
  · next x =>
    split at h
    · next e =>
      cases r with
      | cons r1 r2 =>
        cases r2
        obtain ⟨a, kvs, rfl, ha, rk⟩ := see_dct hs r1 e
        cases rk
        exact .inr ⟨a, rfl, ha, hq _ H _ S (.refl hs) (.str _) h⟩
    · exact .inl (snd_repr hs r h hq)
  · cases h
end
end VL

/-! VL: isinstance(x, C) of an own class, == and != by its own __eq__. -/
namespace VL
open PySem PySem.Spec PyProof.Rows L2 C8
def kindsN : List String := ["NoneType", "bool", "int", "str", "tuple", "list", "dict"]
/-- what == and isinstance ask of an own class -/
structure EqC (K : PySem.W.Frag) (C : Addr) : Prop where
  ins : InsC K C
  no : ∀ n ∈ kindsN, PySem.W.kitOne K (.type n) (.ref C) = some false
  nf : ∀ n ∈ kindsN, PySem.W.notFirst K C (.type n) = true
  ne : PySem.W.findIn K (.ref C) "__ne__" = some (some (.builtin "object.__ne__"))
def eqB (x : Str) (K : PySem.W.Frag) : Bool := (He.Fa.cls x).ok K && (He.eqO (PySem.W.findIn K (.ref (He.ga K x)) "__class__") (some (some (.builtin "object.__class__"))) &&
  (He.eqO (PySem.W.specialIn K (.builtin "object.__class__") "__get__") (some (some (.builtin "getset_descriptor.__get__"))) && (decide (PySem.W.takesIn K (.builtin "object.__class__") = some true) &&
  (decide (PySem.W.mroIn K (He.ga K x) (.type "object") = some true) && (decide (PySem.W.kitOne K (.ref (He.ga K x)) (.ref (He.ga K x)) = some true) && ((kindsN.all fun n => decide (PySem.W.kitOne K (.type n) (.ref (He.ga K x)) = some false)) &&
  ((kindsN.all fun n => PySem.W.notFirst K (He.ga K x) (.type n)) && He.eqO (PySem.W.findIn K (.ref (He.ga K x)) "__ne__") (some (some (.builtin "object.__ne__"))))))))))
theorem eqB_ok {K : PySem.W.Frag} {x : Str} (c : eqB x K = true) : EqC K (He.ga K x) := by
  unfold eqB at c
  obtain ⟨c1, c⟩ := He.ba c
  obtain ⟨c2, c⟩ := He.ba c
  obtain ⟨c3, c⟩ := He.ba c
  obtain ⟨c4, c⟩ := He.ba c
  obtain ⟨c5, c⟩ := He.ba c
  obtain ⟨c6, c⟩ := He.ba c
  obtain ⟨c7, c⟩ := He.ba c
  obtain ⟨c8, c9⟩ := He.ba c
  exact ⟨⟨He.cls_ok c1, He.eqO_ok c2, He.eqO_ok c3, of_decide_eq_true c4, of_decide_eq_true c5, of_decide_eq_true c6⟩, fun n hn => of_decide_eq_true (List.all_eq_true.mp c7 n hn), fun n hn => List.all_eq_true.mp c8 n hn, He.eqO_ok c9⟩
theorem tyN_kind {d : D} {t : String} (h : tyN d = some t) : t ∈ kindsN := by
  cases d <;> simp [tyN] at h <;> subst h <;> decide
/-! ### isinstance(x, C) -/
section
variable {X : Cx} {W : WX}
def dIsC (C : Addr) : RCd := fun ds S Q => match ds with
  | [x, .ref c] => c = C ∧ (match tyN (vw S x) with
    | some _ => Q (.bl false) S
    | none => match insV S x with
      | some (C', _) => C' = C ∧ Q (.bl true) S
      | none => False)
  | _ => False
@[simp ↓] theorem z_dIsC {C : Addr} {ds : List D} {S : Sto} {Q : QD} : dIsC C ds S Q = (match ds with
  | [x, .ref c] => c = C ∧ (match tyN (vw S x) with
    | some _ => Q (.bl false) S
    | none => match insV S x with
      | some (C', _) => C' = C ∧ Q (.bl true) S
      | none => False)
  | _ => False) := rfl
theorem snd_isC {C : Addr} (c : EqC X.K C) : SndC X.K (rIsi X.K) (dIsC C) := fun {xs ds F H S Qd Q} hs r h hq => by
  unfold dIsC at h
  split at h
  · next x c' =>
    obtain ⟨rfl, h⟩ := h
    cases r with
    | cons r1 r2 =>
      cases r2 with
      | cons r2 r3 =>
        cases r3
        cases r2
        split at h
        · next t et =>
          exact ⟨_, _, .type t, .ref c', false, rfl, .own c', tyx_of hs r1 et, c.no t (tyN_kind et), hq _ H _ S (.refl hs) (.bl _) h⟩
        · split at h
          · next C' fs es =>
              obtain ⟨rfl, h⟩ := h
              obtain ⟨a, dx, fv, rfl, e1, rf⟩ := see_ins hs r1 es
              exact ⟨_, _, .ref C', .ref C', true, rfl, .own C', .base (.ins e1 c.ins.cl c.ins.ha c.ins.hn c.ins.htk c.ins.hm), c.ins.me, hq _ H _ S (.refl hs) (.bl _) h⟩
          · cases h
  · cases h
/-! ### == by an own __eq__ -/
def XN : XK := fun _ _ _ => False
theorem runN {pins : List (Addr × Obj)} {σ : L2.St} {H : Hp} {s : Shared} {Q : VK} {us : List Value} {vs : List V} {k : Nat} {f : Addr} {fd : FuncData} {ps : List Str} {sp : Sp} {A : Around} (Fn : FnG X.prog X.w X.K X.mg X.base k f fd ps sp) (hgd : A.guards = some []) (hr : Room k A) (hf : A.frames = X.A.frames)
    (hb : Binds X.K fd ps []) (I : Inv X pins σ H s) (r : Vals vs us) (h : sp vs H Q XN) : wpAny (model X.prog X.w) A (call (.ref f) us) (fun v s' => ∃ z H', Inv X pins σ H' s' ∧ RelV z v ∧ Q z H') X.xe s := by
  have len : us.length = ps.length := by rw [← r.length]; exact Fn.len _ _ _ _ h
  have e0 : Env0 X.prog X.w X.K X.mg X.base A X.stack s H := by
    have e := I.env0
    exact ⟨by rw [hf]; exact e.frames, e.mod, e.bs, e.bsz, e.funs, e.frf, e.hok, e.bare⟩
  refine wpAny_call (codeAny_mono (Fn.run A X.stack s H ⟨us, []⟩ us vs Q XN hgd hr e0 (by
    have := hb s us I.kIn (by simpa using len)
    simpa using this) r h) fun r s' hq => ?_)
  rcases r with e | (_ | _ | _ | u)
  · obtain ⟨_, _, _, _, _, _, _, _, _, _, _, _, hE⟩ := hq
    exact hE.elim
  · exact hq.elim
  · exact hq.elim
  · exact hq.elim
  · obtain ⟨z, H', I', rz, q⟩ := I.after hq
    exact ⟨z, H', I', rz, q⟩
/-- what stands beside an instance under == -/
def Beside (K : PySem.W.Frag) (C : Addr) (y : V) (H : Hp) : Prop := (∃ n, n ∈ kindsN ∧ TyX K H y (.type n)) ∨ ∃ b dy gs, y = .ref b ∧ H b = some (.ins C dy gs)
def rEqI (K : PySem.W.Frag) (C : Addr) (sp : Sp) (g : Bool → Bool) : R2 := fun x y H Q => ∃ a dx fs, x = .ref a ∧ H a = some (.ins C dx fs) ∧ Beside K C y H ∧ sp [x, y] H (fun v H' => ∃ b, v = .bl b ∧ Q (.bl (g b)) H') XN
theorem beside_looks {pins : List (Addr × Obj)} {σ : L2.St} {H : Hp} {s : Shared} {C : Addr} {y : V} {u : Value} (c : EqC X.K C) (I : Inv X pins σ H s) (r : RelV y u) (h : Beside X.K C y H) :
    ∃ tb, PySem.W.Looks (model X.prog X.w) s.heap (typeOf u) tb ∧ PySem.W.notFirst X.K C tb = true := by
  rcases h with ⟨n, hn, ty⟩ | ⟨b, dy, gs, rfl, hb⟩
  · obtain ⟨P, Z, p, _⟩ := kit_of I r ty
    exact ⟨_, Z.ty _ _ I.kIn p, c.nf n hn⟩
  · cases r
    obtain ⟨mB, J', _⟩ := ins_get I.hok hb
    obtain ⟨od', J', _⟩ := J'.look
    exact ⟨_, J'.type, by simp [PySem.W.notFirst]⟩
theorem op_eqI {k : Nat} {C f : Addr} {fd : FuncData} {ps : List Str} {sp : Sp} (c : EqC X.K C) (Fn : FnG X.prog X.w X.K X.mg X.base k f fd ps sp) (hm : Meth X.K C "__eq__" f) (hb : Binds X.K fd ps []) (hgd : X.A.guards = some []) (hr : Room k X.A) :
    OpR X (compareOp .Eq) (rEqI X.K C sp id) := by
  intro pins s σ H x y v u Q I rx ry h
  obtain ⟨a, dx, fs, rfl, ha, hy, hq⟩ := h
  cases rx
  obtain ⟨tb, lk, nf⟩ := beside_looks c I ry hy
  obtain ⟨mA, J, _⟩ := ins_get I.hok ha
  obtain ⟨od, J, _⟩ := J.look
  obtain ⟨m, hF⟩ := I.fr
  show wpAny (model X.prog X.w) X.A (richCompare .Eq (.ref a) u) (EP X pins σ Q) X.xe s
  refine PySem.W.cmp_K (op := .Eq) (tb := tb) hr.units0 hF I.ok.mod.kin J lk nf hm.at_ hm.fn ?_
  refine wpAny_mono (runN (vs := [.ref a, y]) Fn hgd hr rfl hb I (.cons rfl (.cons ry .nil)) hq) (fun r s' q => ?_) fun _ _ x => x
  obtain ⟨z, H', I', rz, b, rfl, q⟩ := q
  cases rz
  exact ⟨.bl b, H', I', rfl, q⟩
end
section
variable {M : Model} {prog : Program} {w : World} {A : Around} {E : Value → Shared → Prop} {s : Shared} {K : PySem.W.Frag} {x C f : Addr} {ox : Obj} {od : Option Obj} {b tb : Value} {Q : Value → Shared → Prop}
theorem cmp_one {op : CmpOp} (hu : A.units < cLine) (X : K.In s.heap) (I : PySem.W.InstAt s.heap x ox C od) (hb : PySem.W.Looks (model prog w) s.heap (typeOf b) tb) (hn : PySem.W.notFirst K C tb = true)
    (one : wpAny (model prog w) A (tryCompare (.ref x) (cmpInfo op).2.1 b) (fun r s' => ∃ v, r = some v ∧ Q v s') E s) : wpAny (model prog w) A (richCompare op (.ref x) b) Q E s := by
  unfold richCompare
  simp only [oneThing_ref]
  refine wpAny_holding (wpAny_bind (wpAny_cRoomFor hu ?_))
  refine wpAny_bind (I.type.here (wpAny_bind (hb.here ?_)))
  split
  · rename_i q
    have e : PySem.W.subIn K tb (.ref C) = some false := by
      rcases Bool.or_eq_true_iff.mp hn with e | e
      · rw [beq_iff_eq.mp e] at q; simp at q
      · exact beq_iff_eq.mp e
    refine wpAny_bind ((PySem.W.looks_subIn X e).here ?_)
    simp only [Bool.false_eq_true, if_false]
    refine wpAny_bind (wpAny_mono one (fun r s' z => ?_) fun _ _ e => e)
    obtain ⟨v, rfl, hq⟩ := z
    exact wpAny_pure hq
  · refine wpAny_bind (wpAny_pure ?_)
    simp only [Bool.false_eq_true, if_false]
    refine wpAny_bind (wpAny_mono one (fun r s' z => ?_) fun _ _ e => e)
    obtain ⟨v, rfl, hq⟩ := z
    exact wpAny_pure hq
theorem ifBound_objNe {args : List Value} {Q : Option Value → Shared → Prop} (X : K.In s.heap) (I : PySem.W.InstAt s.heap x ox C od) (hs : PySem.W.findIn K (.ref C) "__ne__" = some (some (.builtin "object.__ne__")))
    (h : wpAny M A (call (.builtin "object.__ne__") (.ref x :: args)) (fun v => Q (some v)) E s) : wpAny M A (callSpecialIfBound? (.ref x) "__ne__" args) Q E s := by
  simp only [callSpecialIfBound?, bindSpecialIfBound?]
  refine wpAny_holding (wpAny_bind (wpAny_bind (wpAny_bind (I.type.here ((PySem.W.looks_findIn X hs).here ?_)))))
  refine wpAny_bind (wpAny_askSetting (wpAny_ite ?_))
  have fin : wpAny M A (call (.builtin "object.__ne__") ([.ref x] ++ args) >>= fun v => pure (some v)) Q E s := wpAny_bind (wpAny_mono h (fun v s' h' => wpAny_pure h') fun _ _ h' => h')
  split
  · exact wpAny_bind (wpAny_of_eq (F.cmp_object.ne.bind _) (wpAny_pure (by exact fin)))
  · exact wpAny_tryCatch (wpAny_bind (wpAny_of_eq (F.cmp_object.ne.bind _) (wpAny_pure (by exact fin))))
theorem entry_objNe {R : PySem.Fin → Shared → Prop} (hu : A.units < cLine) (X : K.In s.heap) (I : PySem.W.InstAt s.heap x ox C od) (hs : PySem.W.findIn K (.ref C) "__eq__" = some (some (.ref f))) (hf : PySem.W.isFn K (.ref f) = true)
    (h : wpAny M A (call (.ref f) [.ref x, b]) (fun v s' => ∃ z, v = .bool z ∧ R (.done (.ret (.bool (!z)))) s') E s) : wpAny M A (Builtin.«object.__ne__» ⟨[.ref x, b], []⟩) R E s := by
  unfold Builtin.«object.__ne__»
  refine wpAny_bind (m := slotArgs "__ne__" 1 _) (wpAny_pure ?_)
  refine wpAny_bind (wpAny_cRoomFor hu ?_)
  refine wpAny_bind (PySem.W.ifBound_K X I hs hf (wpAny_mono h (fun v s' q => ?_) fun _ _ e => e))
  obtain ⟨z, rfl, q⟩ := q
  exact wpAny_bind (wpAny_truthy_bool (wpAny_pure q))
end
section
variable {X : Cx} {W : WX} {k : Nat} {C f : Addr} {fd : FuncData} {ps : List Str} {sp : Sp} {spd : Spd} {a b : Expr} {ta tb : TE} {da db : TEd} {pos : Pos}
def rNeI (K : PySem.W.Frag) (C : Addr) (sp : Sp) : R2 := fun x y H Q => ∃ a dx fs, x = .ref a ∧ H a = some (.ins C dx fs) ∧ Beside K C y H ∧ sp [x, y] H (fun v H' => ∃ b, v = .bl b ∧ Q (.bl (!b)) H') XN
theorem op_neI (c : EqC X.K C) (Fn : FnG X.prog X.w X.K X.mg X.base k f fd ps sp) (hm : Meth X.K C "__eq__" f) (hb : Binds X.K fd ps []) (hgd : X.A.guards = some []) (hr : Room (k + 1) X.A) :
    OpR X (compareOp .NotEq) (rNeI X.K C sp) := by
  intro pins s σ H x y v u Q I rx ry h
  obtain ⟨a, dx, fs, rfl, ha, hy, hq⟩ := h
  cases rx
  obtain ⟨tb, lk, nf⟩ := beside_looks c I ry hy
  obtain ⟨mA, J, _⟩ := ins_get I.hok ha
  obtain ⟨od, J, _⟩ := J.look
  show wpAny (model X.prog X.w) X.A (richCompare .NotEq (.ref a) u) (EP X pins σ Q) X.xe s
  refine cmp_one hr.units0 I.kIn J lk nf ?_
  unfold tryCompare
  refine wpAny_bind (ifBound_objNe I.kIn J c.ne (wpAny_call (codeAny_call_builtin F.cmp_object.ne.plain F.cmpEntry_ne (PySem.W.check_slot F.cmpKind_ne F.cmpSplit_ne (J.type.andThen (PySem.W.looks_mroIn I.kIn c.ins.hm)) (F.cmpArgs_ne _ _)
    (entry_objNe (A := X.A.in1) hr.in1.units0 I.kIn J hm.at_ hm.fn (wpAny_mono (runN (vs := [.ref a, y]) Fn hgd hr.in1 rfl hb I (.cons rfl (.cons ry .nil)) hq) (fun r s' q => ?_) fun _ _ x => x))))))
  obtain ⟨z, H', I', rz, b, rfl, q⟩ := q
  cases rz
  exact ⟨b, rfl, wpAny_pure ⟨_, rfl, .bl (!b), H', I', rfl, q⟩⟩
def besD (S : Sto) (C : Addr) (y : D) : Prop := (tyN (vw S y)).isSome = true ∨ ∃ fs, insV S y = some (C, fs)
def dEqI (C : Addr) (spd : Spd) (g : Bool → Bool) : R2d := fun x y S Q => (∃ fs, insV S x = some (C, fs)) ∧ besD S C y ∧ spd [x, y] S (fun d S' => match d with
    | .bl b => Q (.bl (g b)) S'
    | _ => False) XF
theorem bes_of {F H : Hp} {S : Sto} {y : V} {d : D} (hs : HSt X.K F H S) (r : Rep X.K (mask F S H) y d) (h : besD S C d) : Beside X.K C y H := by
  rcases h with h | ⟨fs, hb⟩
  · cases e : tyN (vw S d) with
    | none => rw [e] at h; cases h
    | some t => exact .inl ⟨t, tyN_kind e, tyx_of hs r e⟩
  · obtain ⟨b, dx, fv, rfl, e1, _⟩ := see_ins hs r hb
    exact .inr ⟨b, dx, fv, rfl, e1⟩
theorem snd_eqI : Snd2 X.K (rEqI X.K C (lift X.K spd) id) (dEqI C spd id) := fun {x y dx dy F H S Qd Q} hs rx ry h hq => by
  unfold dEqI at h
  · obtain ⟨⟨fs, es⟩, hb, h⟩ := h
    have hy := bes_of hs ry hb
    have rx0 := rx
    obtain ⟨a, dxx, fv, rfl, e1, _⟩ := see_ins hs rx es
    refine ⟨a, dxx, fv, rfl, e1, hy, F, _, S, _, XF, hs, .cons rx0 (.cons ry .nil), h, fun v H' d S' g r q => ?_, fun _ _ _ _ _ _ _ z => z.elim⟩
    dsimp only at q
    split at q
    · next b => cases r; exact ⟨b, rfl, hq _ H' _ S' g (.bl _) q⟩
    · cases q
theorem snd_neI : Snd2 X.K (rNeI X.K C (lift X.K spd)) (dEqI C spd (!·)) := fun {x y dx dy F H S Qd Q} hs rx ry h hq => by
  unfold dEqI at h
  · obtain ⟨⟨fs, es⟩, hb, h⟩ := h
    have hy := bes_of hs ry hb
    have rx0 := rx
    obtain ⟨a, dxx, fv, rfl, e1, _⟩ := see_ins hs rx es
    refine ⟨a, dxx, fv, rfl, e1, hy, F, _, S, _, XF, hs, .cons rx0 (.cons ry .nil), h, fun v H' d S' g r q => ?_, fun _ _ _ _ _ _ _ z => z.elim⟩
    dsimp only at q
    split at q
    · next b => cases r; exact ⟨b, rfl, hq _ H' _ S' g (.bl _) q⟩
    · cases q
theorem ve_eqI (R : RdyM X.prog X.w X.K X.mg X.base k C "__eq__" [] [] spd) (c : EqC X.K C) (hgd : X.A.guards = some []) (hr : Room (k + 1) X.A) (ha : VE X W a ta da) (hb : VE X W b tb db) :
    VE X W (.Compare a [.Eq] [b] pos) (tOp (rEqI X.K C (lift X.K spd) id) ta tb) (dOp (dEqI C spd id) da db) := by
  obtain ⟨fa, fd, ps, ds0, G, hm, hbd, hd, _⟩ := R.ex
  cases hd
  exact ve_cmp (op_eqI c G hm hbd hgd (hr.mono (Nat.le_succ k))) snd_eqI ha hb (nomark _)
theorem ve_neI (R : RdyM X.prog X.w X.K X.mg X.base k C "__eq__" [] [] spd) (c : EqC X.K C) (hgd : X.A.guards = some []) (hr : Room (k + 1) X.A) (ha : VE X W a ta da) (hb : VE X W b tb db) :
    VE X W (.Compare a [.NotEq] [b] pos) (tOp (rNeI X.K C (lift X.K spd)) ta tb) (dOp (dEqI C spd (!·)) da db) := by
  obtain ⟨fa, fd, ps, ds0, G, hm, hbd, hd, _⟩ := R.ex
  cases hd
  exact ve_cmp (op_neI c G hm hbd hgd hr) snd_neI ha hb (nomark _)
/-! ### repr(x) by an own __repr__ -/
def rReprI (K : PySem.W.Frag) (C : Addr) (sp : Sp) : List V → Hp → VK → Prop := fun xs H Q => ∃ a dx fs, xs = [.ref a] ∧ H a = some (.ins C dx fs) ∧ sp [.ref a] H (fun v H' => ∃ z : Str, v = .str z ∧ Q v H') XN
theorem call_reprI (Fn : FnG X.prog X.w X.K X.mg X.base k f fd ps sp) (hm : Meth X.K C "__repr__" f) (hb : Binds X.K fd ps []) (hgd : X.A.guards = some []) (hr : Room (k + 1) X.A) : CallR X (.builtin "repr") (rReprI X.K C sp) := fun pins s σ H xs us Q I r h => by
  obtain ⟨a, dx, fs, rfl, ha, hq⟩ := h
  obtain ⟨u, rfl, ru⟩ := vals1 r
  cases ru
  obtain ⟨mA, J, _⟩ := ins_get I.hok ha
  obtain ⟨od, J, _⟩ := J.look
  obtain ⟨m, hF⟩ := I.fr
  refine PySem.W.repr_K hr.in1.units0 hF I.ok.mod.kin J hm.at_ hm.fn ?_
  refine wpAny_mono (runN (vs := [.ref a]) (A := X.A.in1) Fn hgd hr.in1 rfl hb I (.cons rfl .nil) hq) (fun r s' q => ?_) fun _ _ x => x
  obtain ⟨z, H', I', rz, y, rfl, q⟩ := q
  have rz0 := rz
  obtain ⟨t, rfl⟩ := rz
  exact ⟨.str y, H', I', rz0, q⟩
def dReprI (C : Addr) (spd : Spd) : RCd := fun ds S Q => match ds with
  | [x] => (∃ fs, insV S x = some (C, fs)) ∧ spd [x] S (fun d S' => match d with
    | .str z => Q (.str z) S'
    | _ => False) XF
  | _ => False
theorem snd_reprI : SndC X.K (rReprI X.K C (lift X.K spd)) (dReprI C spd) := fun {xs ds F H S Qd Q} hs r h hq => by
  unfold dReprI at h
  split at h
  · next x =>
    cases r with
    | cons r1 r2 =>
      cases r2
      obtain ⟨⟨fs, es⟩, h⟩ := h
      have r0 := r1
      obtain ⟨a, dxx, fv, rfl, e1, _⟩ := see_ins hs r1 es
      refine ⟨a, dxx, fv, rfl, e1, F, _, S, _, XF, hs, .cons r0 .nil, h, fun v H' d S' g r q => ?_, fun _ _ _ _ _ _ _ z => z.elim⟩
      dsimp only at q
      split at q
      · next z => cases r; exact ⟨z, rfl, hq _ H' _ S' g (.str _) q⟩
      · cases q
  · cases h
end
end VL

/-! VL: f-strings of texts, whole numbers, lists and tuples. -/
namespace VL
open PySem PySem.Spec PyProof.Rows L2
section
variable {X : Cx} {W : WX} {e : Expr} {te : TE} {de : TEd} {pos : Pos}
def tFmtD (K : PySem.W.Frag) (te : TE) : TE := fun σ H Q => te σ H fun x H1 => ((∃ y : Str, x = .str y ∧ y.length ≤ sizeLine ∧ Q (.str y) H1) ∨ ∃ i : Int, x = .int i ∧ i.natAbs.log2 < 1920 ∧ Q (.str (toString i)) H1) ∨
  ∃ a p, x = .ref a ∧ Dp K H1 (.ref a) p ∧ p.showable = true ∧ p.depth ≤ 64 ∧ p.shown.length ≤ sizeLine ∧ Q (.str p.shown) H1
theorem pe_fmtD (hgd : X.A.guards = some []) (hu : X.A.units + 66 < cLine) (he : PE X e te) : PE X (.FormattedValue e (-1) none pos) (tFmtD X.K te) := by
  refine ⟨fun pins s σ H Q I h => ?_⟩
  refine wpAny_FormattedValue_plain (thn (he.run pins s σ H _ I h) fun v s1 hv => ?_)
  obtain ⟨x, H1, I1, r1, q⟩ := hv
  rcases q with (⟨y, rfl, hz, q⟩ | ⟨i, rfl, hz, q⟩) | ⟨a, p, rfl, hd, h1, h2, h3, q⟩
  · obtain ⟨t, rfl⟩ := r1
    exact wpAny_formatField_str ⟨.str y, H1, I1, ⟨t, rfl⟩, q⟩ ⟨.str y, H1, I1.tok _, ⟨_, rfl⟩, q⟩ hz
  · obtain ⟨t, rfl⟩ := r1
    exact wpAny_formatField_int hz ⟨.str (toString i), H1, I1.tok _, ⟨_, rfl⟩, q⟩
  · obtain ⟨as, rd⟩ := Dp.reads I1 p _ _ hd r1
    cases r1
    exact formatField_of_reads rd h1 (PyData.noDict_hsm (dp_nodict.1 hd)) hgd (by omega) (fun _ _ e => e) (fun h' u tk hk => ⟨.str _, H1, I1.kept (t' := tk) hk, ⟨u, rfl⟩, q⟩) h3
def dFmt (de : TEd) : TEd := fun σ S Q E => de σ S (fun x S1 => match vw S1 x with
  | .str z => z.length ≤ sizeLine ∧ Q (.str z) S1
  | .int i => i.natAbs.log2 < 1920 ∧ Q (.str (toString i)) S1
  | .tup ds => match toP (.tup ds) with
    | some p => p.showable = true ∧ p.depth ≤ 64 ∧ p.shown.length ≤ sizeLine ∧ Q (.str p.shown) S1
    | none => False
  | _ => False) E
@[simp ↓] theorem z_dFmt {σ : Sd} {S : Sto} {Q : QD} {E : XD} : dFmt de σ S Q E = (de σ S (fun x S1 => match vw S1 x with
  | .str z => z.length ≤ sizeLine ∧ Q (.str z) S1
  | .int i => i.natAbs.log2 < 1920 ∧ Q (.str (toString i)) S1
  | .tup ds => match toP (.tup ds) with
    | some p => p.showable = true ∧ p.depth ≤ 64 ∧ p.shown.length ≤ sizeLine ∧ Q (.str p.shown) S1
    | none => False
  | _ => False) E) := rfl
theorem ve_fmtD (hgd : X.A.guards = some []) (hu : X.A.units + 66 < cLine) (he : VE X W e te de) : VE X W (.FormattedValue e (-1) none pos) (tFmtD X.K te) (dFmt de) := by
  refine ⟨pe_fmtD hgd hu he.run, fun {σV F H σ S Qd E Q} hs er h hq hx => ?_⟩
  refine he.snd hs er h (fun x H1 dx S1 g r h1 => ?_) hx
  split at h1
  · next z ez => exact .inl (.inl ⟨z, see_str r ez, h1.1, hq _ _ _ S1 g (.str _) h1.2⟩)
  · next i ei => exact .inl (.inr ⟨i, see_int r ei, h1.1, hq _ _ _ S1 g (.str _) h1.2⟩)
  · next ds ed =>
    split at h1
    · next p ep =>
      have hd := dp_vw g.hst r (by rw [ed]; exact ep)
      obtain ⟨_, a1, ys, rfl, _, _, _⟩ := see_tup r ed
      exact .inr ⟨a1, p, rfl, hd, h1.1, h1.2.1, h1.2.2.1, hq _ _ _ S1 g (.str _) h1.2.2.2⟩
    · cases h1
  · cases h1
/-- the parts' judgements -/
inductive VJ (X : Cx) (W : WX) : List Expr → List TE → List TEd → Prop where
  | nil : VJ X W [] [] []
  | cons {e : Expr} {t : TE} {d : TEd} {es : List Expr} {ts : List TE} {ds : List TEd} (h : VE X W e t d) (r : VJ X W es ts ds) : VJ X W (e :: es) (t :: ts) (d :: ds)
def dJs : List TEd → Str → Sd → Sto → (Str → Sto → Prop) → XD → Prop
  | [], acc, _, S, Q, _ => Q acc S
  | t :: ts, acc, σ, S, Q, E => t σ S (fun x S1 => match x with
    | .str y => (acc ++ y).length ≤ sizeLine ∧ dJs ts (acc ++ y) σ S1 Q E
    | _ => False) E
theorem VJ.pj {es : List Expr} {ts : List TE} {ds : List TEd} (h : VJ X W es ts ds) : PJ X es ts := by
  induction h with
  | nil => exact .nil
  | cons h r ih => exact .cons h.run ih
theorem snd_js {es : List Expr} {ts : List TE} {ds : List TEd} (h : VJ X W es ts ds) : ∀ {acc : Str} {σV : L2.St} {F H : Hp} {σ : Sd} {S : Sto} {Qd : Str → Sto → Prop} {E : XD} {Q : Str → Hp → Prop}, HSt X.K F H S → ER X.K (mask F S H) σV σ → dJs ds acc σ S Qd E →
    (∀ out H' S', Good X.K F H S H' S' → Qd out S' → Q out H') → LX X.K F W σV H S E → tJs ts acc σV H Q := by
  induction h with
  | nil =>
    intro acc σV F H σ S Qd E Q hs er h hq hx
    exact hq acc H S (.refl hs) h
  | @cons e t d es ts ds he r ih =>
    intro acc σV F H σ S Qd E Q hs er h hq hx
    refine he.snd (Q := fun x H1 => ∃ y : Str, x = .str y ∧ (acc ++ y).length ≤ sizeLine ∧ tJs ts (acc ++ y) σV H1 Q) hs er h (fun x H1 dx S1 g rx h1 => ?_) hx
    split at h1
    · next y =>
      cases rx
      exact ⟨y, rfl, h1.1, ih g.hst (er.mono g.same) h1.2 (fun out H' S' g' q => hq out H' S' (g.trans g') q) (hx.next g)⟩
    · cases h1
theorem ve_joined {v1 v2 : Expr} {rest : List Expr} {ts : List TE} {ds : List TEd} (h : VJ X W (v1 :: v2 :: rest) ts ds) :
    VE X W (.JoinedStr (v1 :: v2 :: rest) pos) (fun σ H Q => tJs ts Str.empty σ H fun out H1 => Q (.str out) H1) (fun σ S Q E => dJs ds Str.empty σ S (fun out S1 => Q (.str out) S1) E) :=
  ⟨pe_joined h.pj, fun {σV F H σ S Qd E Q} hs er hh hq hx => snd_js h hs er hh (fun out H' S' g q => hq _ H' _ S' g (.str _) q) hx⟩
def dFstr (ds : List TEd) : TEd := fun σ S Q E => dJs ds Str.empty σ S (fun out S1 => Q (.str out) S1) E
@[simp ↓] theorem z_dFstr {ds : List TEd} {σ : Sd} {S : Sto} {Q : QD} {E : XD} : dFstr ds σ S Q E = dJs ds Str.empty σ S (fun out S1 => Q (.str out) S1) E := rfl
@[simp ↓] theorem z_dJs0 {acc : Str} {σ : Sd} {S : Sto} {Q : Str → Sto → Prop} {E : XD} : dJs [] acc σ S Q E = Q acc S := rfl
@[simp ↓] theorem z_dJs {t : TEd} {ts : List TEd} {acc : Str} {σ : Sd} {S : Sto} {Q : Str → Sto → Prop} {E : XD} : dJs (t :: ts) acc σ S Q E = t σ S (fun x S1 => match x with
    | .str y => (acc ++ y).length ≤ sizeLine ∧ dJs ts (acc ++ y) σ S1 Q E
    | _ => False) E := rfl
theorem ve_fstr {v1 v2 : Expr} {rest : List Expr} {ts : List TE} {ds : List TEd} (h : VJ X W (v1 :: v2 :: rest) ts ds) :
    VE X W (.JoinedStr (v1 :: v2 :: rest) pos) (fun σ H Q => tJs ts Str.empty σ H fun out H1 => Q (.str out) H1) (dFstr ds) := ve_joined h
theorem ve_reprI {k : Nat} {C : Addr} {spd : Spd} {es : List Expr} {t : TA} {d : TAd} {p : Pos} (R : RdyM X.prog X.w X.K X.mg X.base k C "__repr__" [] [] spd) (hgd : X.A.guards = some []) (hr : Room (k + 1) X.A) (hm : X.mg "repr" = none) (ha : VA X W (e :: es) t d)
    (hg : Gl X "repr" := by rfl) (he : starEach (e :: es) X.env = (false, eval e X.env) :: starEach es X.env := by rfl) (hpl : (backTo pos (starEach es X.env)).any (·.1) = false := by rfl) :
    VE X W (.Call (.Name "repr" p) (e :: es) [] pos) (tCB (rReprI X.K C (lift X.K spd)) t) (dCB (dReprI C spd) d) := by
  obtain ⟨fa, fd, ps, ds0, G, hm2, hbd, hd, _⟩ := R.ex
  cases hd
  exact ve_cb snd_reprI (call_reprI G hm2 hbd hgd hr) hm ha hg (by decide +kernel) (by decide) (by decide) he hpl
end
@[simp ↓] theorem z_dEqI {C : Addr} {spd : Spd} {g : Bool → Bool} {x y : D} {S : Sto} {Q : QD} : dEqI C spd g x y S Q = ((∃ fs, insV S x = some (C, fs)) ∧ besD S C y ∧ spd [x, y] S (fun d S' => match d with
    | .bl b => Q (.bl (g b)) S'
    | _ => False) XF) := rfl
@[simp ↓] theorem z_dReprI {C : Addr} {spd : Spd} {ds : List D} {S : Sto} {Q : QD} : dReprI C spd ds S Q = (match ds with
  | [x] => (∃ fs, insV S x = some (C, fs)) ∧ spd [x] S (fun d S' => match d with
    | .str z => Q (.str z) S'
    | _ => False) XF
  | _ => False) := rfl
end VL

/-! VL: walking a list that may change, and does not meanwhile. -/
namespace VL
open PySem PySem.Spec PyProof.Rows L2 RZ
/-- J yields ds as long as P holds of the store -/
structure JP (K : PySem.W.Frag) (J : It) (ds : List D) (P : Sto → Prop) : Prop where
  go : ∀ (i : Nat) (F H : Hp) (S : Sto), HSt K F H S → P S → i < ds.length → J.go i H
  stop : ∀ (i : Nat) (F H : Hp) (S : Sto), HSt K F H S → P S → ds.length ≤ i → J.stop i H
  yld : ∀ (i : Nat) (F H : Hp) (S : Sto) (x : V) (H' : Hp) (d : D), HSt K F H S → P S → ds[i]? = some d → J.yld i H x H' → H' = H ∧ Rep K (mask F S H) x d
theorem jp_ref {K : PySem.W.Frag} {p : Addr} {ds : List D} : JP K (Itl K p) ds (fun S => S p = some (.lst ds)) where
  go := fun i F H S hs hp hi => by
    obtain ⟨a, xs, e, k, q⟩ := see_lst hs (.ref p) (vw_ref_lst hp)
    cases e
    have hl := q.length
    exact ⟨xs, xs[i]'(by omega), k, List.getElem?_eq_getElem _⟩
  stop := fun i F H S hs hp hi => by
    obtain ⟨a, xs, e, k, q⟩ := see_lst hs (.ref p) (vw_ref_lst hp)
    cases e
    exact ⟨xs, k, by rw [q.length]; exact hi⟩
  yld := fun i F H S x H' d hs hp hd y => by
    obtain ⟨e, y⟩ := y
    subst e
    obtain ⟨a, xs, e, k, q⟩ := see_lst hs (.ref p) (vw_ref_lst hp)
    cases e
    obtain ⟨v, hv, rv⟩ := q.get hd
    have e := y xs k
    rw [hv] at e; cases e
    exact ⟨rfl, rv⟩
def dForRL (P : Sto → Prop) (gd : TGd) (tb : TSd) (Z : EndsD) : List D → Sd → Sto → Prop
  | [], σ, S => P S ∧ Z.nx σ S
  | d :: ds, σ, S => P S ∧ gd d σ S fun σ1 S1 => tb { Z with nx := dForRL P gd tb Z ds, ct := dForRL P gd tb Z ds, bk := Z.nx } σ1 S1
def dForR (de : TEd) (gd : TGd) (tb : TSd) : TSd := fun D σ S => de σ S (fun x S1 => match x with
  | .ref p => match S1 p with
    | some (.lst ds) => dForRL (fun S => S p = some (.lst ds)) gd tb D ds σ S1
    | _ => False
  | _ => False) (D.ex σ)
section
variable {X : Cx} {W : WX} {pos : Pos} {te : TE} {de : TEd} {g : TG} {gd : TGd} {t : TS} {td : TSd} {vs : List Nat}
theorem snd_forR (hi : Snd X.K W te de) (hg : SndG X.K vs g gd) (hb : SndS X.K W t td) : SndS X.K W (tFor (iAny X.K te) g t) (dForR de gd td) := fun {σV F H0 σ S0 Dd D} hs er h l => by
  refine hi hs er h (fun v H1 dv S1 g1 rv h1 => ?_) (l.exs hs er)
  split at h1
  · next p =>
    cases rv
    split at h1
    · next ds es =>
      have jr : JP X.K (Itl X.K p) ds (fun S => S p = some (.lst ds)) := jp_ref
      obtain ⟨a0, xs0, e0, k0, q0⟩ := see_lst g1.hst (.ref p) (vw_ref_lst es)
      cases e0
      refine .inl ⟨_, rfl, ⟨_, k0⟩, ?_⟩
      let Iv : Nat → L2.St → Hp → Prop := fun i σV' H => ∃ (σ' : Sd) (S : Sto), Good X.K F H1 S1 H S ∧ ER X.K (mask F S H) σV' σ' ∧ dForRL (fun S => S p = some (.lst ds)) gd td Dd (ds.drop i) σ' S
      refine ⟨fun i m σV' H => m = ds.length - i ∧ i ≤ ds.length ∧ Iv i σV' H, ⟨ds.length, by simp, Nat.zero_le _, σ, S1, .refl g1.hst, er.mono g1.same, by simpa using h1⟩, ?_⟩
      rintro i m σV' H ⟨rfl, hi', σ', S, gg, er', hl⟩
      by_cases hlt : i < ds.length
      · have ed : ds.drop i = ds[i] :: ds.drop (i + 1) := List.drop_eq_getElem_cons hlt
        rw [ed] at hl
        obtain ⟨hp, hl⟩ := hl
        refine .inr ⟨jr.go i _ H S gg.hst hp hlt, Iv (i + 1), fun σ2 H' p' => ⟨ds.length - (i + 1), by omega, rfl, hlt, p'⟩, fun x H' y => ?_⟩
        obtain ⟨rfl, rx⟩ := jr.yld i _ H S x H' ds[i] gg.hst hp (List.getElem?_eq_getElem hlt) y
        refine hg gg.hst er' rx hl fun σ3 H3 σd3 S3 g3 er3 _ _ h3 => ?_
        have gg3 := gg.trans g3
        have ll := l.next (g1.trans gg3)
        exact hb g3.hst er3 h3 ⟨fun a b c d g4 er4 h4 => ⟨c, d, gg3.trans g4, er4, h4⟩, ll.rt, ll.nx, fun a b c d g4 er4 h4 => ⟨c, d, gg3.trans g4, er4, h4⟩, ll.ex⟩
      · have e : i = ds.length := by omega
        subst e
        rw [List.drop_of_length_le (Nat.le_refl _)] at hl
        obtain ⟨hp, hl⟩ := hl
        exact .inl ⟨jr.stop _ _ H S gg.hst hp (Nat.le_refl _), l.nx _ H _ S (g1.trans gg) er' hl⟩
    · cases h1
  · cases h1
theorem vs_forR {tg iter : Expr} {body : List Stmt} (hp : PassesOwn (model X.prog X.w) X.A X.env X.xe) (hc : X.calm = true) (hi : VE X W iter te de) (hg : VG X vs tg g gd) (hb : VSs X W body t td)
    (hs : ∀ x, foldedSetIterable iter X.env x = pure x := by intro _; rfl) : VS X W (.For tg iter body [] pos) (tFor (iAny X.K te) g t) (dForR de gd td) := ⟨ps_for hp hc (pi_any hi.run) hg.run hb.run hs, snd_forR hi.snd hg.snd hb.snd⟩
@[simp ↓] theorem z_dForR {D : EndsD} {σ : Sd} {S : Sto} : dForR de gd td D σ S = de σ S (fun x S1 => match x with
  | .ref p => match S1 p with
    | some (.lst ds) => dForRL (fun S => S p = some (.lst ds)) gd td D ds σ S1
    | _ => False
  | _ => False) (D.ex σ) := rfl
end
/-! ### comprehensions -/
def dLcRL (P : Sto → Prop) (gd : TGd) (dt : TTd) (de : TEd) (σ0 : Sd) (Q : List D → Sto → Prop) : List D → List D → Sto → Prop
  | [], acc, S => P S ∧ Q acc S
  | d :: ds, acc, S => P S ∧ gd d σ0 S fun σ1 S1 => dt σ1 S1 (fun b S2 => if b = true then de σ1 S2 (fun y S3 => dLcRL P gd dt de σ0 Q ds (acc ++ [y]) S3) XF else dLcRL P gd dt de σ0 Q ds acc S2) XF
def dLcR (d0 : TEd) (gd : TGd) (dt : TTd) (de : TEd) (vs : List Nat) : TEd := fun σ S Q E => d0 σ S (fun x S1 => match x with
  | .ref p => match S1 p with
    | some (.lst ds) => ds.length ≤ sizeLine ∧ dLcRL (fun S => S p = some (.lst ds)) gd dt de (wipeD σ vs) (fun acc S2 => Q (.lst acc) S2) ds [] S1
    | _ => False
  | _ => False) E
@[simp ↓] theorem z_dLcR {d0 : TEd} {gd : TGd} {dt : TTd} {de : TEd} {vs : List Nat} {σ : Sd} {S : Sto} {Q : QD} {E : XD} : dLcR d0 gd dt de vs σ S Q E = d0 σ S (fun x S1 => match x with
  | .ref p => match S1 p with
    | some (.lst ds) => ds.length ≤ sizeLine ∧ dLcRL (fun S => S p = some (.lst ds)) gd dt de (wipeD σ vs) (fun acc S2 => Q (.lst acc) S2) ds [] S1
    | _ => False
  | _ => False) E := rfl
section
variable {X : Cx} {W : WX} {pos : Pos} {K : PySem.W.Frag} {g : TG} {gd : TGd} {tt : TT} {dt : TTd} {te : TE} {de : TEd} {vs : List Nat}
theorem lc_runP {σV : L2.St} {F H1 : Hp} {σ : Sd} {S1 : Sto} {J : It} {ds : List D} {P : Sto → Prop} {Q : VK} {Qf : List D → Sto → Prop} (hg : SndG K vs g gd) (ht : SndT K WF tt dt) (he : Snd K WF te de)
    (hs : HSt K F H1 S1) (er : ER K (mask F S1 H1) σV σ) (jr : JP K J ds P) (hz : ds.length ≤ sizeLine) (h : dLcRL P gd dt de (wipeD σ vs) Qf ds [] S1)
    (fin : ∀ (Dp : Addr) (H : Hp) (S : Sto) (accV : List V) (acc : List D), H1 Dp = none → F Dp = none → S1 Dp = none → HSt K (upd F Dp (.lst accV)) H S → Same (mask F S1 H1) (mask (upd F Dp (.lst accV)) S H) → Reps K (mask (upd F Dp (.lst accV)) S H) accV acc → Qf acc S → Q (.ref Dp) H) :
    ∀ Dp, H1 Dp = none → ∃ Wv : Nat → Nat → Hp → Prop, (∃ m, Wv 0 m (upd H1 Dp (.lst []))) ∧ ∀ i m H, Wv i m H →
      (J.stop i H ∧ Q (.ref Dp) H) ∨ (J.go i H ∧ ∃ Nx : Hp → Prop, (∀ H', Nx H' → ∃ m', m' < m ∧ Wv (i + 1) m' H') ∧ ∀ x H', J.yld i H x H' → g x (wipe σV vs) H' fun σ2 H2 => wipe σ2 vs = wipe σV vs ∧ tt σ2 H2 fun b H3 =>
        if b = true then te σ2 H3 fun y H4 => ∃ acc, H4 Dp = some (.lst acc) ∧ acc.length < sizeLine ∧ Nx (upd H4 Dp (.lst (acc ++ [y]))) else Nx H3) := by
  intro Dp hD
  have fD := hs.freeF hD
  have sD := hs.free hD
  let Iv : Nat → Hp → Prop := fun i H => ∃ (S : Sto) (accV : List V) (acc : List D), HSt K (upd F Dp (.lst accV)) H S ∧ Same (mask F S1 H1) (mask (upd F Dp (.lst accV)) S H) ∧ Reps K (mask (upd F Dp (.lst accV)) S H) accV acc ∧ acc.length ≤ i ∧ dLcRL P gd dt de (wipeD σ vs) Qf (ds.drop i) acc S
  refine ⟨fun i m H => m = ds.length - i ∧ i ≤ ds.length ∧ Iv i H, ⟨ds.length, by simp, Nat.zero_le _, S1, [], [], hst_beside hs hD, mask_beside hs hD, .nil, Nat.le_refl _, by simpa using h⟩, ?_⟩
  rintro i m H ⟨rfl, hi, S, accV, acc, hh, sm, ra, la, hl⟩
  by_cases hlt : i < ds.length
  · have ed : ds.drop i = ds[i] :: ds.drop (i + 1) := List.drop_eq_getElem_cons hlt
    rw [ed] at hl
    obtain ⟨hp, hl⟩ := hl
    refine .inr ⟨jr.go i _ H S hh hp hlt, Iv (i + 1), fun H' p' => ⟨ds.length - (i + 1), by omega, rfl, hlt, p'⟩, fun x H' y => ?_⟩
    obtain ⟨rfl, rx⟩ := jr.yld i _ H S x H' ds[i] hh hp (List.getElem?_eq_getElem hlt) y
    refine hg hh ((er_wipe er vs).mono sm) rx hl fun σ2 H2 σd2 S2 g2 er2 l2 o2 h2 => ⟨wipe_eq (by rw [l2, wipe_length]) o2, ?_⟩
    refine ht g2.hst er2 h2 (fun b H3 S3 g3 h3 => ?_) lxF
    have g13 := g2.trans g3
    cases b with
    | false => exact ⟨S3, accV, acc, g3.hst, sm.trans g13.same, ra.mono g13.same, Nat.le_succ_of_le la, h3⟩
    | true =>
      refine he g3.hst (er2.mono g3.same) h3 (fun yv H4 yd S4 g4 r4 h4 => ?_) lxF
      have g14 := g13.trans g4
      have e4 := (g4.hst.side Dp _ upd_same).1
      have la' : accV.length < sizeLine := by rw [ra.length]; omega
      refine ⟨accV, e4, la', S4, accV ++ [yv], acc ++ [yd], hst_side_chg g4.hst, ?_, ?_, by rw [List.length_append, List.length_singleton]; omega, h4⟩
      · rw [mask_side_chg (u := .lst accV)]; exact sm.trans g14.same
      · rw [mask_side_chg (u := .lst accV)]; exact (ra.mono g14.same).append (.cons r4 .nil)
  · have e : i = ds.length := by omega
    subst e
    rw [List.drop_of_length_le (Nat.le_refl _)] at hl
    obtain ⟨hp, hl⟩ := hl
    exact .inl ⟨jr.stop _ _ H S hh hp (Nat.le_refl _), fin Dp H S accV acc hD fD sD hh sm ra hl⟩
theorem snd_lcR {t0 : TE} {d0 : TEd} (hi : Snd K W t0 d0) (hg : SndG K vs g gd) (ht : SndT K WF tt dt) (he : Snd K WF te de) : Snd K W (tLc (iAny K t0) g tt te vs) (dLcR d0 gd dt de vs) := fun {σV F H σ S Qd E Q} hs er h hq hx => by
  refine hi hs er h (fun v H1 dv S1 g1 rv h1 => ?_) hx
  split at h1
  · next p =>
    cases rv
    split at h1
    · next ds es =>
      obtain ⟨hz, h1⟩ := h1
      obtain ⟨a0, xs0, e0, k0, q0⟩ := see_lst g1.hst (.ref p) (vw_ref_lst es)
      cases e0
      refine .inl ⟨_, rfl, ⟨_, k0⟩, ?_⟩
      refine lc_runP hg ht he g1.hst (er.mono g1.same) jp_ref hz h1 fun Dp H2 S2 accV acc hD fD sD hh sm ra h2 => ?_
      have e2 := (hh.side Dp _ upd_same).1
      have s2 := (hh.side Dp _ upd_same).2
      have g2 : Good K F H S H2 S2 := ⟨hst_unside hh fD, g1.same.trans (sm.trans (same_unside fD))⟩
      exact hq _ H2 _ S2 g2 (.lst (SqL.of (by rw [mask_none s2 fD]; exact e2)) (ra.mono (same_unside fD))) h2
    · cases h1
  · cases h1
theorem ve_lcR {tg iter elt : Expr} {ifs : List Expr} {scope : Scope} {own : List (Str × Nat)} {t0 : TE} {d0 : TEd} (hc : X.calm = true) (hN : X.N.Nodup) (hi : VE X W iter t0 d0) (ok : BlkOk X.N X.env.scope scope own)
    (hg : BlkG X scope (own.map (·.2)) tg gd) (ht : BlkT X scope ifs dt) (he : BlkE X scope elt de) (hs : ∀ x, foldedSetIterable iter X.env x = pure x := by intro _; rfl) :
    VE X W (.ListComp elt [⟨tg, iter, ifs, 0⟩] scope pos) (tLc (iAny X.K t0) (gOf X.K (own.map (·.2)) gd) (tOfT X.K WF dt) (tOf X.K WF de) (own.map (·.2))) (dLcR d0 gd dt de (own.map (·.2))) := by
  have hg' := fun s H C cl fp => vg_of (hg s H C cl fp)
  have ht' := fun s H C cl fp => vts_of (ht s H C cl fp)
  have he' := fun s H C cl fp => ve_of (he s H C cl fp)
  exact ⟨pe_lc hc hN (pi_any hi.run) ok (fun s H C cl fp => (hg' s H C cl fp).run) (fun s H C cl fp => (ht' s H C cl fp).run) (fun s H C cl fp => (he' s H C cl fp).run) hs,
    snd_lcR hi.snd (hg' {} noH 0 [] []).snd (ht' {} noH 0 [] []).snd (he' {} noH 0 [] []).snd⟩
theorem vs_setLcR {j : Nat} {y : Str} {py spos : Pos} {tg iter elt : Expr} {ifs : List Expr} {scope : Scope} {own : List (Str × Nat)} {t0 : TE} {d0 : TEd} (hc : X.calm = true) (hN : X.N.Nodup) (hi : VE X W iter t0 d0) (ok : BlkOk X.N X.env.scope scope own)
    (hg : BlkG X scope (own.map (·.2)) tg gd) (ht : BlkT X scope ifs dt) (he : BlkE X scope elt de) (hy : X.N[j]? = some y := by rfl) (hyl : X.env.scope.names.lookup y = some .local := by rfl)
    (hk : X.env.scope.kind = .function := by rfl) (hln : (py.line == pos.line) = true := by rfl) (ha : (scope.names.any fun (n, k) => n == y && (k == .local || k == .cell)) = false := by rfl) (hl2 : spos.line = pos.line := by rfl) (hs : ∀ x, foldedSetIterable iter X.env x = pure x := by intro _; rfl) :
    VS X W (.Assign [.Name y py] (.ListComp elt [⟨tg, iter, ifs, 0⟩] scope pos) spos) (tAsg (tLc (iAny X.K t0) (gOf X.K (own.map (·.2)) gd) (tOfT X.K WF dt) (tOf X.K WF de) (own.map (·.2))) (gName j)) (dAsg (dLcR d0 gd dt de (own.map (·.2))) (hName j)) := by
  have hg' := fun s H C cl fp => vg_of (hg s H C cl fp)
  have ht' := fun s H C cl fp => vts_of (ht s H C cl fp)
  have he' := fun s H C cl fp => ve_of (he s H C cl fp)
  exact vs_set (ps_setLc hc hN hy hyl (sw_true hk hyl hln ha) (pi_any hi.run) ok (fun s H C cl fp => (hg' s H C cl fp).run) (fun s H C cl fp => (ht' s H C cl fp).run) (fun s H C cl fp => (he' s H C cl fp).run) hs)
    (snd_lcR hi.snd (hg' {} noH 0 [] []).snd (ht' {} noH 0 [] []).snd (he' {} noH 0 [] []).snd)
end
@[simp ↓] theorem z_dFrz {de : TEd} {σ : Sd} {S : Sto} {Q : QD} {E : XD} : dFrz de σ S Q E = de σ S (frz Q) E := rfl
theorem frz_new {S : Sto} {Q : QD} {p : Addr} {ds : List D} (hp : S p = none) (h : Q (.lst ds) S) : frz Q (.ref p) (put S p (.lst ds)) := by
  unfold frz
  simp only [put_same, era_put hp]
  exact h
section
variable {X : Cx} {W : WX} {k : Nat} {C : Addr} {spd : Spd} {a b : Expr} {ta tb : TE} {da db : TEd} {pos : Pos}
theorem vt_eqI (R : RdyM X.prog X.w X.K X.mg X.base k C "__eq__" [] [] spd) (c : EqC X.K C) (hgd : X.A.guards = some []) (hr : Room (k + 1) X.A) (ha : VE X W a ta da) (hb : VE X W b tb db) :
    VT X W (.Compare a [.Eq] [b] pos) (tTest (tOp (rEqI X.K C (lift X.K spd) id) ta tb)) (dTest (dOp (dEqI C spd id) da db)) := by
  obtain ⟨fa, fd, ps, ds0, G, hm, hbd, hd, _⟩ := R.ex
  cases hd
  exact vt_cmp (op_eqI c G hm hbd hgd (hr.mono (Nat.le_succ k))) snd_eqI ha hb (nomark _)
theorem vt_neI (R : RdyM X.prog X.w X.K X.mg X.base k C "__eq__" [] [] spd) (c : EqC X.K C) (hgd : X.A.guards = some []) (hr : Room (k + 1) X.A) (ha : VE X W a ta da) (hb : VE X W b tb db) :
    VT X W (.Compare a [.NotEq] [b] pos) (tTest (tOp (rNeI X.K C (lift X.K spd)) ta tb)) (dTest (dOp (dEqI C spd (!·)) da db)) := by
  obtain ⟨fa, fd, ps, ds0, G, hm, hbd, hd, _⟩ := R.ex
  cases hd
  exact vt_cmp (op_neI c G hm hbd hgd hr) snd_neI ha hb (nomark _)
end
end VL

/-! VL: instances that change no more; calls of a def that a name holds; C(e, .., k = v, ..). -/
namespace VL
open PySem PySem.Spec PyProof.Rows L2
/-! ### a new instance is seen as it stands from here on, what its fields hold too -/
def eraI (S : Sto) (a : Addr) (fs : List (Str × D)) : Sto := fun b => if b = a ∨ (fs.any fun x => match x.2 with
  | .ref c => decide (c = b)
  | _ => false) = true then none else S b
theorem sub_eraI {S : Sto} {a : Addr} {fs : List (Str × D)} : Sub (eraI S a fs) S := fun b => by
  unfold eraI
  split
  · exact .inl rfl
  · exact .inr rfl
theorem eraI_at {S : Sto} {a : Addr} {fs : List (Str × D)} : eraI S a fs a = none := if_pos (.inl rfl)
theorem eraI_in {S : Sto} {a c : Addr} {fs : List (Str × D)} {f : Str} (h : (f, D.ref c) ∈ fs) : eraI S a fs c = none := if_pos (.inr (List.any_eq_true.mpr ⟨_, h, decide_eq_true rfl⟩))
def frzI (Q : QD) : QD := fun d S => match d with
  | .ref a => match S a with
    | some (.ins C fs) => Q (.ins C (fs.map fun x => (x.1, vwA S x.2))) (eraI S a fs)
    | _ => False
  | _ => False
section
variable {K : PySem.W.Frag} {F H : Hp} {S S' : Sto}
theorem rep_seen {v : V} {d : D} (hs : HSt K F H S) (sb : Sub S' S) (r : Rep K (mask F S H) v d) (hd : ∀ c, d = .ref c → S' c = none) : Rep K (mask F S' H) v (vwA S d) := by
  have sm : Same (mask F S H) (mask F S' H) := same_sub sb
  cases d with
  | ref c =>
    have z := hd c rfl
    unfold vwA
    cases eT : vwT S (.ref c) with
    | some k =>
      have eT' : (match S c with | some (.dcs k) => some k | _ => none) = some k := eT
      split at eT'
      · next k' ek =>
        cases eT'
        cases r
        obtain ⟨xs, e1, r1⟩ := hs.at_ c _ ek
        exact .dcs (.inl (by rw [mask_none z (hs.apart ek)]; exact e1)) (r1.mono sm)
      · cases eT'
    | none =>
      dsimp only
      rcases vw_ref (S := S) (a := c) with ⟨es, h1, h2⟩ | ⟨es, h1, h2⟩ | h2
      · rw [h2]
        cases r
        obtain ⟨xs, e1, r1⟩ := hs.at_ c _ h1
        exact .lst (SqL.of (by rw [mask_none z (hs.apart h1)]; exact e1)) (r1.mono sm)
      · rw [h2]
        cases r
        obtain ⟨xs, e1, r1⟩ := hs.at_ c _ h1
        exact .dct (.inl (by rw [mask_none z (hs.apart h1)]; exact e1)) (r1.mono sm)
      · rw [h2]; exact r.mono sm
  | _ => exact r.mono sm
theorem repF_seen (hs : HSt K F H S) (sb : Sub S' S) : ∀ {fv : List (Str × V)} {fs : List (Str × D)}, RepF K (mask F S H) fv fs → (∀ f c, (f, D.ref c) ∈ fs → S' c = none) → RepF K (mask F S' H) fv (fs.map fun x => (x.1, vwA S x.2))
  | _, _, .nil, _ => .nil
  | _, _, .cons (f := f) (d := d) h r, k => .cons (rep_seen hs sb h fun c e => k f c (by
    have e' : d = .ref c := e
    rw [e']; exact List.mem_cons_self ..)) (repF_seen hs sb r fun f c m => k f c (List.mem_cons_of_mem _ m))
theorem LQ.frzI {Qd : QD} {Q : VK} (h : LQ K F H S Qd Q) : LQ K F H S (frzI Qd) Q := fun v H' d S' g r hd => by
  unfold VL.frzI at hd
  split at hd
  · next a =>
    cases r
    split at hd
    · next C fs e =>
      obtain ⟨dx, fv, e1, rf⟩ := g.hst.at_ a _ e
      refine h _ H' _ _ ⟨hst_sub g.hst sub_eraI, g.same.trans (same_sub sub_eraI)⟩ (.ins (dx := dx) ?_ (repF_seen g.hst sub_eraI rf fun f c m => eraI_in m)) hd
      rw [mask_none eraI_at (g.hst.apart e)]; exact e1
    · cases hd
  · cases hd
end
def dFrzI (de : TEd) : TEd := fun σ S Q E => de σ S (frzI Q) E
@[simp ↓] theorem z_dFrzI {de : TEd} {σ : Sd} {S : Sto} {Q : QD} {E : XD} : dFrzI de σ S Q E = de σ S (frzI Q) E := rfl
theorem ve_frzI {X : Cx} {W : WX} {e : Expr} {te : TE} {de : TEd} (h : VE X W e te de) : VE X W e te (dFrzI de) := ⟨h.run, fun {σV F H σ S Qd E Q} hs er hh hq hx => h.snd hs er hh hq.frzI hx⟩
theorem frzI_at {Q : QD} {S : Sto} {a C : Addr} {fs : List (Str × D)} (h : S a = some (.ins C fs)) (q : Q (.ins C (fs.map fun x => (x.1, vwA S x.2))) (eraI S a fs)) : frzI Q (.ref a) S := by
  unfold frzI
  simp only [h]
  exact q
/-! ### f(e, ..), f a local name that holds a def -/
structure HeldG (P : Program) (w : World) (K : PySem.W.Frag) (mg : Str → Option Value) (base : Heap) (k : Nat) (f : Addr) (spd : Spd) : Prop where
  ex : ∃ (fd : FuncData) (ps : List Str), FnG P w K mg base k f fd ps (lift K spd) ∧ PySem.W.keepIn K (.ref f) = true ∧ Binds K fd ps []
theorem held_of {P : Program} {w : World} {K : PySem.W.Frag} {mg : Str → Option Value} {base : Heap} {k : Nat} {x : Str} {f : Addr} {spd : Spd} (R : Rdy P w K mg base k x [] [] spd) (hm : mg x = some (.ref f)) : HeldG P w K mg base k f spd := by
  obtain ⟨f', fd, ps, ds0, G, hm', hk, hb, hd, _⟩ := R.ex
  rw [hm] at hm'
  cases hm'
  cases hd
  exact ⟨fd, ps, G, hk, hb⟩
def tCallV (K : PySem.W.Frag) (i : Nat) (Tb : Addr → Spd → Prop) (W : WX) (t : TA) : TE := fun σ H Q => ∃ f spd, σ[i]? = some (some (.ref f)) ∧ Tb f spd ∧ t σ H fun vs H1 => lift K spd vs H1 Q (WE W σ)
def dCallV (i : Nat) (Tb : Addr → Spd → Prop) (da : TAd) : TEd := fun σ S Q E => match σ[i]? with
  | some (some (.ref f)) => ∃ spd, Tb f spd ∧ da σ S (fun ds S1 => spd ds S1 Q E) E
  | _ => False
@[simp ↓] theorem z_dCallV {i : Nat} {Tb : Addr → Spd → Prop} {da : TAd} {σ : Sd} {S : Sto} {Q : QD} {E : XD} : dCallV i Tb da σ S Q E = (match σ[i]? with
  | some (some (.ref f)) => ∃ spd, Tb f spd ∧ da σ S (fun ds S1 => spd ds S1 Q E) E
  | _ => False) := rfl
section
variable {X : Cx} {W : WX} {k i n : Nat} {x : Str} {p pos : Pos} {e : Expr} {es : List Expr} {t tk' : TA} {da dk : TAd} {Tb : Addr → Spd → Prop}
theorem ve_callV (A : ∀ f spd, Tb f spd → HeldG X.prog X.w X.K X.mg X.base k f spd) (hgd : X.A.guards = some []) (hr : Room k X.A) (tk : Takes X W) (hN : X.N[i]? = some x) (ha : VA X W (e :: es) t da)
    (hv : Vis X.env.scope x := by first | exact Or.inl rfl | exact Or.inr (Or.inl rfl) | exact Or.inr (Or.inr rfl))
    (hdb : (x == ("__debug__" : Str)) = false := by decide) (hcd : (x == ("__classdict__" : Str)) = false := by decide)
    (he : starEach (e :: es) X.env = (false, eval e X.env) :: starEach es X.env := by rfl) (hpl : (backTo pos (starEach es X.env)).any (·.1) = false := by rfl) :
    VE X W (.Call (.Name x p) (e :: es) [] pos) (tCallV X.K i Tb W t) (dCallV i Tb da) := by
  refine ⟨⟨fun pins s σ H Q I h => ?_⟩, fun {σV F H σ S Qd E Q} hs er h hq hx => ?_⟩
  · obtain ⟨f, spd, hs, hT, ht⟩ := h
    obtain ⟨fd, ps, Fn, hk, hb⟩ := (A f spd hT).ex
    refine wpAny_Call_Name_kw (thn ((pe_var (pos := p) hN hv hdb hcd).run pins s σ H (fun v H1 => v = .ref f ∧ H1 = H) I ⟨.ref f, hs, rfl, rfl⟩) fun u s1 ⟨v, H1, I1, r1, q1⟩ => ?_)
    obtain ⟨rfl, rfl⟩ := q1
    cases r1
    refine PySem.W.callWith_K (h₀ := X.base) I.ok.mod.kin hk (thn (ha.run.run pos pins s1 σ _ _ I1 ht) fun us s2 ⟨vs, H2, I2, r, q⟩ => ⟨I2.kIn, ?_⟩) he hpl
    have len : us.length = ps.length := by rw [← r.length]; exact Fn.len _ _ _ _ q
    have bt := hb s2 us I2.kIn (by rw [List.append_nil]; exact len)
    rw [List.append_nil] at bt
    exact wpAny_call (run_G Fn hgd hr tk I2 bt r q)
  · unfold dCallV at h
    split at h
    · next f ef =>
      · obtain ⟨spd, eT, h⟩ := h
        obtain ⟨v, e1, r1⟩ := er.at_ i _ ef
        cases r1
        refine ⟨f, spd, e1, eT, ?_⟩
        exact ha.snd (Q := fun vs H1 => lift X.K spd vs H1 Q (WE W σV)) hs er h (fun vs H1 ds S1 g r h1 => ⟨F, ds, S1, Qd, E, g.hst, r, h1, hq.next g, fun cls a H' fs S' g' xr q => hx cls a H' fs S' (g.trans g') xr q⟩) hx
    · cases h
end
/-! ### C(e, .., k = v, ..) with keyword-only parameters -/
def mix {α : Type} (is : List (Nat × Nat)) (us ms ws : List α) : List α := is.filterMap fun x => if x.1 = 0 then us[x.2]? else if x.1 = 1 then ms[x.2]? else ws[x.2]?
theorem vals_mix {vs mv zs : List V} {us mu ws : List Value} (r : Vals vs us) (rm : Vals mv mu) (rz : Vals zs ws) : ∀ is : List (Nat × Nat), Vals (mix is vs mv zs) (mix is us mu ws)
  | [] => .nil
  | (j, i) :: is => by
    have ih := vals_mix r rm rz is
    unfold mix at ih ⊢
    rw [List.filterMap_cons, List.filterMap_cons]
    by_cases c0 : j = 0
    · simp only [c0, if_true]
      rcases vals_get r i with ⟨e1, e2⟩ | ⟨v, u, e1, e2, h⟩
      · rw [e1, e2]; exact ih
      · rw [e1, e2]; exact .cons h ih
    · by_cases c1 : j = 1
      · simp only [c1, if_true, if_neg (show ¬ (1 : Nat) = 0 by decide)]
        rcases vals_get rm i with ⟨e1, e2⟩ | ⟨v, u, e1, e2, h⟩
        · rw [e1, e2]; exact ih
        · rw [e1, e2]; exact .cons h ih
      · simp only [if_neg c0, if_neg c1]
        rcases vals_get rz i with ⟨e1, e2⟩ | ⟨v, u, e1, e2, h⟩
        · rw [e1, e2]; exact ih
        · rw [e1, e2]; exact .cons h ih
theorem reps_get {K : PySem.W.Frag} {M : Hp} {vs : List V} {ds : List D} (r : Reps K M vs ds) (i : Nat) : (vs[i]? = none ∧ ds[i]? = none) ∨ ∃ v d, vs[i]? = some v ∧ ds[i]? = some d ∧ Rep K M v d := by
  cases e : ds[i]? with
  | none => exact .inl ⟨by rw [List.getElem?_eq_none_iff] at e ⊢; rw [r.length]; exact e, rfl⟩
  | some d =>
    obtain ⟨v, h1, h2⟩ := r.get e
    exact .inr ⟨v, d, h1, rfl, h2⟩
theorem reps_mix {K : PySem.W.Frag} {M : Hp} {vs mv zs : List V} {ds md es : List D} (r : Reps K M vs ds) (rm : Reps K M mv md) (rz : Reps K M zs es) : ∀ is : List (Nat × Nat), Reps K M (mix is vs mv zs) (mix is ds md es)
  | [] => .nil
  | (j, i) :: is => by
    have ih := reps_mix r rm rz is
    unfold mix at ih ⊢
    rw [List.filterMap_cons, List.filterMap_cons]
    by_cases c0 : j = 0
    · simp only [c0, if_true]
      rcases reps_get r i with ⟨e1, e2⟩ | ⟨v, u, e1, e2, h⟩
      · rw [e1, e2]; exact ih
      · rw [e1, e2]; exact .cons h ih
    · by_cases c1 : j = 1
      · simp only [c1, if_true, if_neg (show ¬ (1 : Nat) = 0 by decide)]
        rcases reps_get rm i with ⟨e1, e2⟩ | ⟨v, u, e1, e2, h⟩
        · rw [e1, e2]; exact ih
        · rw [e1, e2]; exact .cons h ih
      · simp only [if_neg c0, if_neg c1]
        rcases reps_get rz i with ⟨e1, e2⟩ | ⟨v, u, e1, e2, h⟩
        · rw [e1, e2]; exact ih
        · rw [e1, e2]; exact .cons h ih
structure RdyCK (P : Program) (w : World) (K : PySem.W.Frag) (mg : Str → Option Value) (base : Heap) (k : Nat) (x : Str) (C : Addr) (n : Nat) (ks : List Str) (gV : List V → List V → List V) (gD : List D → List D → List D) (spd : Spd) : Prop where
  ex : ∃ (f : Addr) (fd : FuncData) (ps : List Str) (g : List Value → List Value → List Value), FnG P w K mg base k f fd ps (lift K spd) ∧ Mk K C f ∧ mg x = some (.ref C) ∧ KBn K fd ps (n + 1) ks g gV
  rel : ∀ (M : Hp) (vs zs : List V) (ds es : List D), Reps K M vs ds → Reps K M zs es → Reps K M (gV vs zs) (gD ds es)
theorem RdyCK.mono {P : Program} {w : World} {K : PySem.W.Frag} {mg : Str → Option Value} {base : Heap} {j k n : Nat} {x : Str} {C : Addr} {ks : List Str} {gV : List V → List V → List V} {gD : List D → List D → List D} {spd : Spd} (h : RdyCK P w K mg base j x C n ks gV gD spd) (le : j ≤ k) : RdyCK P w K mg base k x C n ks gV gD spd := by
  obtain ⟨f, fd, ps, g, a, r⟩ := h.ex
  exact ⟨⟨f, fd, ps, g, a.mono le, r⟩, h.rel⟩
def tMakeGK (C : Addr) (n m : Nat) (sp : Sp) (gV : List V → List V → List V) (W : WX) (t tk : TA) : TE := fun σ H Q => t σ H fun vs H1 => tk σ H1 fun zs H2 => vs.length = n ∧ zs.length = m ∧
  ∀ x dx, H2 x = none → H2 dx = none → dx ≠ x → sp (gV (.ref x :: vs) zs) (upd (upd H2 dx (.own x)) x (.ins C dx [])) (fun v H3 => v = .non ∧ Q (.ref x) H3) (WE W σ)
def dMakeK (C : Addr) (n m : Nat) (spd : Spd) (gD : List D → List D → List D) (da dk : TAd) : TEd := fun σ S Q E => da σ S (fun ds S1 => dk σ S1 (fun zs S2 => ds.length = n ∧ zs.length = m ∧
  ∀ x, S2 x = none → spd (gD (.ref x :: ds) zs) (put S2 x (.ins C [])) (fun v S3 => v = .non ∧ Q (.ref x) S3) E) E) E
@[simp ↓] theorem z_dMakeK {C : Addr} {n m : Nat} {spd : Spd} {gD : List D → List D → List D} {da dk : TAd} {σ : Sd} {S : Sto} {Q : QD} {E : XD} : dMakeK C n m spd gD da dk σ S Q E = da σ S (fun ds S1 => dk σ S1 (fun zs S2 => ds.length = n ∧ zs.length = m ∧
  ∀ x, S2 x = none → spd (gD (.ref x :: ds) zs) (put S2 x (.ins C [])) (fun v S3 => v = .non ∧ Q (.ref x) S3) E) E) E := rfl
section
variable {X : Cx} {W : WX} {k n : Nat} {C : Addr} {x : Str} {p pos : Pos} {e : Expr} {es : List Expr} {kws : List Keyword} {t tk' : TA} {da dk : TAd} {ks : List Str} {gV : List V → List V → List V} {gD : List D → List D → List D} {spd : Spd}
theorem ve_makeK (R : RdyCK X.prog X.w X.K X.mg X.base k x C n ks gV gD spd) (hgd : X.A.guards = some []) (hr : Room (k + 1) X.A) (tk : Takes X W) (ha : VA X W (e :: es) t da) (hkw : VK' X W kws tk' dk) (hg : Gl X x := by rfl)
    (hall : (backToKw pos (keywordEach kws X.env)).all (·.1.isSome) = true := by rfl) (hks : (backToKw pos (keywordEach kws X.env)).filterMap (·.1) = ks := by rfl) (hdb : (x == ("__debug__" : Str)) = false := by decide)
    (he : starEach (e :: es) X.env = (false, eval e X.env) :: starEach es X.env := by rfl) (hpl : ((backTo pos (starEach (e :: es) X.env)).any (·.1) || (backToKw pos (keywordEach kws X.env)).any (·.1.isNone)) = false := by rfl) :
    VE X W (.Call (.Name x p) (e :: es) kws pos) (tMakeGK C n ks.length (lift X.K spd) gV W t tk') (dMakeK C n ks.length spd gD da dk) := by
  obtain ⟨fI, fd, ps, g, Fn, M, hm, hb⟩ := R.ex
  refine ⟨⟨fun pins s σ H Q I h => ?_⟩, fun {σV F H σ S Qd E Q} hs er h hq hx => ?_⟩
  · refine wpAny_Call_Name_kw (ld_glob I hg hm ?_ hdb)
    refine PySem.W.callWith_KW (h₀ := X.base) I.ok.mod.kin M.kp hall (thn (ha.run.run pos pins s σ H _ I h) fun us s1 ⟨vs, H1, I1, r, q⟩ => ?_) hpl he
    refine thn (hkw.run.run pos pins s1 σ H1 _ I1 q) fun ws s2 ⟨zs, H2, I2, rz, l1, l2, q2⟩ => ⟨I2.kIn, ?_⟩
    rw [hks]
    have hq := q2 (s2.heap.objs.size + 1) s2.heap.objs.size (I2.hok.fresh (Nat.le_succ _)) (I2.hok.fresh (Nat.le_refl _)) (Nat.ne_of_lt (Nat.lt_succ_self _))
    have I3 := Inv.made (C := C) I2
    have r1 : Vals (V.ref (s2.heap.objs.size + 1) :: vs) (Value.ref (s2.heap.objs.size + 1) :: us) := .cons rfl r
    have r2 := hb.rel r1 rz
    have n1 : (Value.ref (s2.heap.objs.size + 1) :: us).length = n + 1 := by
      rw [List.length_cons, ← r.length, l1]
    refine wpAny_call (make_map (f := fI) I2.kIn M.makes M.init (beq_iff_eq.mp M.fn) (codeAny_mono (Fn.run _ X.stack _ _ ⟨Value.ref (s2.heap.objs.size + 1) :: us, ks.zip ws⟩ (g (Value.ref (s2.heap.objs.size + 1) :: us) ws) _ _ (WE W σ) hgd (hr.make C us (ks.zip ws))
      (I3.env0.make C us (ks.zip ws)) (hb.to _ (Value.ref (s2.heap.objs.size + 1) :: us) ws I3.kIn n1 (rz.length.symm.trans l2)) r2 hq) fun r s' hq' => ?_))
    rcases r with er | (_ | _ | _ | u)
    · exact passAt tk σ pins _ _ er s' I3 hq'
    · exact hq'.elim
    · exact hq'.elim
    · exact hq'.elim
    · obtain ⟨v, H', I4, rv, ev, q3⟩ := I3.after hq'
      subst ev
      exact ⟨rv, ⟨V.ref (s2.heap.objs.size + 1), H', I4, rfl, q3⟩⟩
  · refine ha.snd hs er h (fun vs H1 ds S1 g1 r1 h1 => ?_) hx
    refine hkw.snd g1.hst (er.mono g1.same) h1 (fun zs H2 es S2 g2 r2 h2 => ?_) (hx.next g1)
    have g12 := g1.trans g2
    have r1' := r1.mono g2.same
    obtain ⟨l1, l2, h2⟩ := h2
    refine ⟨r1'.length.trans l1, r2.length.trans l2, fun x dx hx0 hd0 hne => ?_⟩
    have e0 : upd H2 dx (.own x) x = none := by rw [upd_ne (Ne.symm hne)]; exact hx0
    have ga : Good X.K F H2 S2 (upd H2 dx (.own x)) S2 := good_new g2.hst hd0
    have gb : Good X.K F (upd H2 dx (.own x)) S2 (upd (upd H2 dx (.own x)) x (.ins C dx [])) (put S2 x (.ins C [])) := good_newM ga.hst e0 (ook_ins .nil)
    have gc := ga.trans gb
    have g' := g12.trans gc
    refine ⟨F, gD (.ref x :: ds) es, put S2 x (.ins C []), fun v S3 => v = .non ∧ Qd (.ref x) S3, E, gb.hst, R.rel _ _ _ _ _ (.cons (.ref x) (r1'.mono gc.same)) (r2.mono gc.same), h2 x (g2.hst.free hx0), ?_, fun cls a H' fs' S' g'' xr q => hx cls a H' fs' S' (g'.trans g'') xr q⟩
    intro v H3 d S3 g3 r3 q
    obtain ⟨rfl, q⟩ := q
    cases r3
    exact ⟨rfl, hq _ H3 _ S3 (g'.trans g3) (.ref x) q⟩
end
/-- the default of a keyword-only parameter, if it is an object -/
def kwAt (f : Str × Option Str) (n : Str) (K : PySem.W.Frag) : Addr := match K.lookup (He.fAd K f) with
  | some ⟨_, _, .func fd, _⟩ => (match fd.kwdefaults with
    | .ref D => (match PySem.W.nsIn K D n with
      | some (some (.ref a)) => a
      | _ => 0)
    | _ => 0)
  | _ => 0
/-- an empty tuple stands at a -/
def tup0 (K : PySem.W.Frag) (a : Addr) : Bool := match K.lookup a with
  | some ⟨.type c, _, .seq its _, _⟩ => decide (c = "tuple") && decide (its.toList = [])
  | _ => false
theorem tup0_ok {K : PySem.W.Frag} {a : Addr} (h : tup0 K a = true) (M : Hp) : Rep K M (.ref a) (.tup []) := by
  unfold tup0 at h
  cases q : K.lookup a with
  | none => rw [q] at h; cases h
  | some o =>
    obtain ⟨oc, od, dt, osl⟩ := o
    rw [q] at h
    cases oc with
    | type c =>
      cases dt with
      | seq its n =>
        obtain ⟨h1, h2⟩ := Bool.and_eq_true_iff.mp (show (decide (c = "tuple") && decide (its.toList = [])) = true from h)
        have hi : its = #[] := by
          have := of_decide_eq_true h2
          simpa using this
        subst hi
        exact .tup (.inr ⟨_, #[], n, q, congrArg Value.type (of_decide_eq_true h1), rfl, Nat.zero_le _, .nil⟩) .nil
      | _ => cases h
    | _ => cases dt <;> cases h
theorem rdyck_of {P : Program} {w : World} {K : PySem.W.Frag} {mg : Str → Option Value} {base : Heap} {k : Nat} {x nm qual : Str} {C : Addr} {params : Arguments} {body : List Stmt} {scope : Scope} {kws : List (Str × V)} {f : Addr} {fd : FuncData} {ps : List Str} {spd : Spd}
    (n : Nat) (ks : List Str) (ms : List (Str × V)) (md : List D) (is : List (Nat × Nat)) (F : FunD K nm qual params body scope [] kws f fd) (G : FnG P w K mg base k f fd ps (lift K spd)) (hM : Mk K C f) (hm : mg x = some (.ref C)) (hk : kws ≠ []) (hms : ∀ q ∈ ms, q ∈ kws) (rm : ∀ M : Hp, Reps K M (ms.map (·.2)) md)
    (h : ∀ (Dk : Addr) (doc pm : Value) (an : Option Addr) (cdv ct : Value) (us mv ws : List Value), us.length = n + 1 → mv.length = ms.length → ws.length = ks.length →
      KwChain Dk ((ms.map (·.1)).zip mv) (bindArgs (PySem.W.fnOf nm qual params body scope .none (.ref Dk) doc pm an cdv ct) ⟨us, ks.zip ws⟩) (ps.zip (mix is us mv ws))) :
    RdyCK P w K mg base k x C n ks (fun vs zs => mix is vs (ms.map (·.2)) zs) (fun ds es => mix is ds md es) spd := by
  obtain ⟨mv, kb⟩ := FunD.kbinds0 F (n + 1) ks ms (fun us mv ws => mix is us mv ws) hk hms (fun a b c => vals_mix a b c is) h
  exact ⟨⟨f, fd, ps, _, G, hM, hm, kb⟩, fun M vs zs ds es r1 r2 => reps_mix r1 (rm M) r2 is⟩
end VL

/-! VL: walks over dicts: their keys, values, pairs. The dict is locked (read, not written) while the walk goes on. -/
namespace VL
open PySem PySem.Spec PyProof.Rows L2
def NoF (X : Cx) (d : Addr) : Prop := ∀ o' u', X.H_0 d ≠ some (.frz o' u')
def tLockA (X : Cx) (td : TE) : TE := fun σ H Q => td σ H fun x H1 => ∃ d kvs, x = V.ref d ∧ ((∃ o, H1 d = some (.frz o (.dK kvs)) ∧ Q x H1) ∨ (H1 d = some (.dK kvs) ∧ ∀ od, NoF X d → Q x (upd H1 d (.frz od (.dK kvs)))))
def UnlK (X : Cx) (P : Hp → Prop) (H : Hp) : Prop := P H ∨ ∃ d od u, H d = some (.frz od u) ∧ NoF X d ∧ P (upd H d u)
def tUnl (X : Cx) (t : TS) : TS := fun D σ H => t ⟨fun σ' => UnlK X (D.nx σ'), fun v => UnlK X (D.rt v), fun σ' => UnlK X (D.bk σ'), fun σ' => UnlK X (D.ct σ')⟩ σ H
def tUnlE (X : Cx) (t : TE) : TE := fun σ H Q => t σ H fun v => UnlK X (Q v)
section
variable {X : Cx} {e : Expr} {td : TE} {st : Stmt} {t : TS}
theorem pe_lockA (h : PE X e td) : PE X e (tLockA X td) := by
  refine ⟨fun pins s σ H Q I hw => thn (h.run pins s σ H _ I hw) fun u s1 hh => ?_⟩
  obtain ⟨x, H1, I1, rx, d, kvs, ex, q⟩ := hh
  rcases q with ⟨o, _, q⟩ | ⟨hd, q⟩
  · exact ⟨x, H1, I1, rx, q⟩
  · obtain ⟨od, I2⟩ := I1.lock hd True.intro
    exact ⟨x, _, I2, rx, q od (I1.nofrz hd True.intro)⟩
theorem unlK_inv {pins : List (Addr × Obj)} {σ : L2.St} {H : Hp} {s : Shared} {P : Hp → Prop} (I : Inv X pins σ H s) (h : UnlK X P H) : ∃ H', Inv X pins σ H' s ∧ P H' := by
  rcases h with h | ⟨d, od, u, e, n, q⟩
  · exact ⟨H, I, h⟩
  · exact ⟨_, I.unlock e n, q⟩
theorem ps_unl (h : PS X st t) : PS X st (tUnl X t) := by
  refine ⟨fun pins s σ H D I hw => thn (h.run pins s σ H _ I hw) fun f s1 q => ?_⟩
  cases f with
  | next => obtain ⟨σ', H', I2, q⟩ := q; obtain ⟨H2, I3, q⟩ := unlK_inv I2 q; exact ⟨σ', H2, I3, q⟩
  | brk => obtain ⟨σ', H', I2, q⟩ := q; obtain ⟨H2, I3, q⟩ := unlK_inv I2 q; exact ⟨σ', H2, I3, q⟩
  | cont => obtain ⟨σ', H', I2, q⟩ := q; obtain ⟨H2, I3, q⟩ := unlK_inv I2 q; exact ⟨σ', H2, I3, q⟩
  | ret v => obtain ⟨x, σ', H', I2, r, q⟩ := q; obtain ⟨H2, I3, q⟩ := unlK_inv I2 q; exact ⟨x, σ', H2, I3, r, q⟩
theorem pe_unl {t : TE} (h : PE X e t) : PE X e (tUnlE X t) := by
  refine ⟨fun pins s σ H Q I hw => thn (h.run pins s σ H _ I hw) fun u s1 hh => ?_⟩
  obtain ⟨x, H1, I1, rx, q⟩ := hh
  obtain ⟨H2, I2, q⟩ := unlK_inv I1 q
  exact ⟨x, H2, I2, rx, q⟩
end
/-! ### locked and unlocked: what a value bears is the same -/
/-- a dict -/
def Dky : HO → Prop
  | .dK _ => True
  | .dT _ => True
  | _ => False
def Lk (M M' : Hp) : Prop := ∀ a u, M a = some u → M' a = some u ∨ (∃ o, Dky u ∧ M' a = some (.frz o u)) ∨ ∃ o w, u = .frz o w ∧ Dky w ∧ M' a = some w
section
variable {K : PySem.W.Frag} {M M' : Hp}
theorem Lk.own {a : Addr} {u : HO} (e : Lk M M') (nd : ¬ Dky u) (h : Rd M a u) (nf : ∀ o w, u ≠ .frz o w) : Rd M' a u := by
  rcases h with h | ⟨o, h⟩
  · rcases e _ _ h with q | ⟨_, q, _⟩ | ⟨o, w, q, _⟩
    · exact .inl q
    · exact absurd q nd
    · exact absurd q (nf o w)
  · rcases e _ _ h with q | ⟨_, q, _⟩ | ⟨o, w, q, d, _⟩
    · exact .inr ⟨o, q⟩
    · exact q.elim
    · cases q; exact absurd d nd
theorem Lk.rdT {a : Addr} {xs : List V} (e : Lk M M') (h : Rd M a (.tup xs)) : Rd M' a (.tup xs) := e.own id h fun _ _ z => nomatch z
theorem Lk.rdL {a : Addr} {xs : List V} (e : Lk M M') (h : Rd M a (.lst xs)) : Rd M' a (.lst xs) := e.own id h fun _ _ z => nomatch z
theorem Lk.rdD {a : Addr} {u : HO} (e : Lk M M') (d : Dky u) (h : Rd M a u) : Rd M' a u := by
  rcases h with h | ⟨o, h⟩
  · rcases e _ _ h with q | ⟨o, _, q⟩ | ⟨_, _, q, _⟩
    · exact .inl q
    · exact .inr ⟨o, q⟩
    · subst q; exact d.elim
  · rcases e _ _ h with q | ⟨_, q, _⟩ | ⟨_, w, q, _, h2⟩
    · exact .inr ⟨o, q⟩
    · exact q.elim
    · cases q; exact .inl h2
theorem Lk.plain {a : Addr} {u : HO} (e : Lk M M') (nd : ¬ Dky u) (nf : ∀ o w, u ≠ .frz o w) (h : M a = some u) : M' a = some u := by
  rcases e _ _ h with q | ⟨_, q, _⟩ | ⟨o, w, q, _⟩
  · exact q
  · exact absurd q nd
  · exact absurd q (nf o w)
theorem Lk.rdK {a : Addr} {kvs : List (Key × V)} (e : Lk M M') (h : Rd M a (.dK kvs)) : Rd M' a (.dK kvs) := e.rdD (u := .dK kvs) True.intro h
theorem Lk.rdQ {a : Addr} {kvs : List (List Key × V)} (e : Lk M M') (h : Rd M a (.dT kvs)) : Rd M' a (.dT kvs) := e.rdD (u := .dT kvs) True.intro h
theorem Lk.insE {a C dx : Addr} {fv : List (Str × V)} (e : Lk M M') (h : M a = some (.ins C dx fv)) : M' a = some (.ins C dx fv) := e.plain (fun z => z) (fun _ _ z => nomatch z) h
theorem Lk.xdE {a : Addr} {fv : List (Str × V)} (e : Lk M M') (h : M a = some (.xd fv)) : M' a = some (.xd fv) := e.plain (fun z => z) (fun _ _ z => nomatch z) h
theorem Lk.seqL {a : Addr} {xs : List V} (e : Lk M M') (h : SqL K M a xs) : SqL K M' a xs := by
  rcases h with h | h
  · exact .inl (e.rdL h)
  · exact .inr h
theorem Lk.seqT {a : Addr} {xs : List V} (e : Lk M M') (h : SqT K M a xs) : SqT K M' a xs := by
  rcases h with h | h
  · exact .inl (e.rdT h)
  · exact .inr h
mutual
theorem Rep.lk (e : Lk M M') : ∀ {v : V} {d : D}, Rep K M v d → Rep K M' v d
  | _, _, .non => .non
  | _, _, .bl b => .bl b
  | _, _, .int i => .int i
  | _, _, .str x => .str x
  | _, _, .ty n => .ty n
  | _, _, .ref a => .ref a
  | _, _, .tup h r => .tup (e.seqT h) (Reps.lk e r)
  | _, _, .lst h r => .lst (e.seqL h) (Reps.lk e r)
  | _, _, .dct h r => .dct (e.rdK h) (RepK.lk e r)
  | _, _, .dcs h r => .dcs (e.rdQ h) (RepQ.lk e r)
  | _, _, .exn a c => .exn a c
  | _, _, .ins (dx := dx) h r => .ins (dx := dx) (e.insE h) (RepF.lk e r)
  | _, _, .exs a c h r => .exs a c (e.xdE h) (RepF.lk e r)
theorem Reps.lk (e : Lk M M') : ∀ {v : List V} {d : List D}, Reps K M v d → Reps K M' v d
  | _, _, .nil => .nil
  | _, _, .cons h r => .cons (Rep.lk e h) (Reps.lk e r)
theorem RepK.lk (e : Lk M M') : ∀ {v : List (Key × V)} {d : List (Key × D)}, RepK K M v d → RepK K M' v d
  | _, _, .nil => .nil
  | _, _, .cons h r => .cons (Rep.lk e h) (RepK.lk e r)
theorem RepQ.lk (e : Lk M M') : ∀ {v : List (List Key × V)} {d : List (List Key × D)}, RepQ K M v d → RepQ K M' v d
  | _, _, .nil => .nil
  | _, _, .cons h r => .cons (Rep.lk e h) (RepQ.lk e r)
theorem RepF.lk (e : Lk M M') : ∀ {v : List (Str × V)} {d : List (Str × D)}, RepF K M v d → RepF K M' v d
  | _, _, .nil => .nil
  | _, _, .cons h r => .cons (Rep.lk e h) (RepF.lk e r)
end
theorem OOk.lk {h : Option HO} {o : O} (e : Lk M M') (k : OOk K M h o) : OOk K M' h o := by
  cases o with
  | lst ds => obtain ⟨xs, e1, r⟩ := k; exact ⟨xs, e1, r.lk e⟩
  | dct ds => obtain ⟨xs, e1, r⟩ := k; exact ⟨xs, e1, r.lk e⟩
  | ins C ds => obtain ⟨dx, xs, e1, r⟩ := k; exact ⟨dx, xs, e1, r.lk e⟩
  | dcs ds => obtain ⟨xs, e1, r⟩ := k; exact ⟨xs, e1, r.lk e⟩
theorem ER.lk {σV : L2.St} {σ : Sd} (h : ER K M σV σ) (e : Lk M M') : ER K M' σV σ := ⟨h.len, fun i d q => let ⟨v, a, b⟩ := h.at_ i d q; ⟨v, a, b.lk e⟩⟩
end
section
variable {K : PySem.W.Frag} {F H H' : Hp} {S S' : Sto} {d : Addr} {kvs : List (Key × V)} {kds : List (Key × D)} {od : Obj} {u w : HO}
theorem mask_upd (hS : S d = none) (hF : F d = none) : mask F S (upd H d u) = upd (mask F S H) d u := by
  funext b
  by_cases e : b = d
  · subst e; rw [mask_none hS hF, upd_same, upd_same]
  · unfold mask; rw [upd_ne e, upd_ne e]
theorem hst_lk (hs : HSt K F H S) (hS : S d = none) (hF : F d = none) (lk : Lk (mask F S H) (mask F S (upd H d w))) : HSt K F (upd H d w) S := ⟨fun b o q => by
  have hb : b ≠ d := fun z => by subst z; rw [hS] at q; cases q
  rw [upd_ne hb]; exact (hs.at_ b o q).lk lk, fun b v q => by
  have hb : b ≠ d := fun z => by subst z; rw [hF] at q; cases q
  rw [upd_ne hb]; exact hs.side b v q⟩
theorem lk_in (dk : Dky w) (h : H d = some w) (hS : S d = none) (hF : F d = none) : Lk (mask F S H) (mask F S (upd H d (.frz od w))) := fun a v q => by
  rw [mask_upd hS hF]
  by_cases e : a = d
  · subst e
    rw [mask_none hS hF, h] at q
    cases q
    exact .inr (.inl ⟨od, dk, upd_same⟩)
  · rw [upd_ne e]; exact .inl q
theorem lk_out (dk : Dky w) (h : H d = some (.frz od w)) (hS : S d = none) (hF : F d = none) : Lk (mask F S H) (mask F S (upd H d w)) := fun a v q => by
  rw [mask_upd hS hF]
  by_cases e : a = d
  · subst e
    rw [mask_none hS hF, h] at q
    cases q
    exact .inr (.inr ⟨od, _, rfl, dk, upd_same⟩)
  · rw [upd_ne e]; exact .inl q
/-- out of the lock: d stands in the part that stays -/
theorem good_out (dk : Dky w) (h : H d = some w) (hS : S d = none) (hF : F d = none) (g : Good K F (upd H d (.frz od w)) S H' S') :
    H' d = some (.frz od w) ∧ S' d = none ∧ Good K F H S (upd H' d w) S' ∧ Lk (mask F S' H') (mask F S' (upd H' d w)) := by
  have e1 : mask F S' H' d = some (.frz od w) := g.same _ _ (by rw [mask_upd hS hF, upd_same])
  obtain ⟨s1, _, h1⟩ := mask_free e1
  have lk := lk_out (S := S') dk h1 s1 hF
  refine ⟨h1, s1, ⟨hst_lk g.hst s1 hF lk, fun a v q => ?_⟩, lk⟩
  rw [mask_upd s1 hF]
  by_cases e : a = d
  · subst e
    rw [mask_none hS hF, h] at q
    cases q
    exact upd_same
  · rw [upd_ne e]
    exact g.same _ _ (by rw [mask_upd hS hF, upd_ne e]; exact q)
/-- a tracked dict put aside, locked -/
theorem mask_as {o : O} (e : S d = some o) : mask (upd F d u) (era S d) (upd H d u) = mask F S H := by
  funext b
  by_cases z : b = d
  · subst z
    rw [mask_some e]
    unfold mask; rw [if_pos (.inr (by rw [upd_same]; rfl))]
  · unfold mask era
    rw [upd_ne z, upd_ne z, if_neg z]
theorem hst_as {o : O} (hs : HSt K F H S) (e : S d = some o) : HSt K (upd F d u) (upd H d u) (era S d) := ⟨fun b o q => by
  have hb : b ≠ d := fun z => by subst z; unfold era at q; rw [if_pos rfl] at q; cases q
  rw [mask_as e, upd_ne hb]
  unfold era at q
  rw [if_neg hb] at q
  exact hs.at_ b o q, fun b v q => by
  by_cases hb : b = d
  · subst hb
    rw [upd_same] at q ⊢
    exact ⟨q, if_pos rfl⟩
  · rw [upd_ne hb] at q ⊢
    obtain ⟨h1, h2⟩ := hs.side b v q
    exact ⟨h1, by unfold era; rw [if_neg hb]; exact h2⟩⟩
theorem mask_back {o : O} (hF : F d = none) : mask F (put S d o) (upd H d w) = mask (upd F d u) S H := by
  funext b
  by_cases z : b = d
  · subst z
    rw [mask_some put_same]
    unfold mask; rw [if_pos (.inr (by rw [upd_same]; rfl))]
  · unfold mask
    rw [put_ne z, upd_ne z, upd_ne z]
theorem good_back {o : O} (hs : HSt K F H S) (e : S d = some o) (rk : OOk K (mask F S H) (some w) o) (g : Good K (upd F d (.frz od w)) (upd H d (.frz od w)) (era S d) H' S') :
    H' d = some (.frz od w) ∧ S' d = none ∧ Good K F H S (upd H' d w) (put S' d o) ∧ mask F (put S' d o) (upd H' d w) = mask (upd F d (.frz od w)) S' H' := by
  have hF := hs.apart e
  obtain ⟨h1, s1⟩ := g.hst.side d _ upd_same
  have em : mask F (put S' d o) (upd H' d w) = mask (upd F d (.frz od w)) S' H' := mask_back hF
  have sm : Same (mask F S H) (mask F (put S' d o) (upd H' d w)) := by
    have := g.same
    rw [mask_as e] at this
    rw [em]; exact this
  refine ⟨h1, s1, ⟨⟨fun b o q => ?_, fun b v q => ?_⟩, sm⟩, em⟩
  · by_cases hb : b = d
    · subst hb
      rw [put_same] at q; cases q
      rw [upd_same]
      exact rk.mono sm
    · rw [put_ne hb] at q
      rw [upd_ne hb, em]
      exact g.hst.at_ b o q
  · have hb : b ≠ d := fun z => by subst z; rw [hF] at q; cases q
    rw [upd_ne hb, put_ne hb]
    exact g.hst.side b v (by rw [upd_ne hb]; exact q)
end
/-! ### what such a walk yields -/
structure JX (K : PySem.W.Frag) (F : Hp) (J : It) (ds : List D) (M : Hp) : Prop where
  go : ∀ (i : Nat) (F' H : Hp) (S : Sto), (∀ a u, F a = some u → F' a = some u) → HSt K F' H S → Same M (mask F' S H) → i < ds.length → J.go i H
  stop : ∀ (i : Nat) (F' H : Hp) (S : Sto), (∀ a u, F a = some u → F' a = some u) → HSt K F' H S → Same M (mask F' S H) → ds.length ≤ i → J.stop i H
  yld : ∀ (i : Nat) (F' H : Hp) (S : Sto) (x : V) (H' : Hp) (d : D), (∀ a u, F a = some u → F' a = some u) → HSt K F' H S → Same M (mask F' S H) → ds[i]? = some d → J.yld i H x H' → Good K F' H S H' S ∧ Rep K (mask F' S H') x d
def keyV : Key → D
  | .inl i => .int i
  | .inr x => .str x
inductive Vw where
  | keys | vals | items
def Vw.ds : Vw → List (Key × D) → List D
  | .keys, kds => kds.map fun x => keyV x.1
  | .vals, kds => kds.map fun x => x.2
  | .items, kds => kds.map fun x => .tup [keyV x.1, x.2]
def Vw.it : Vw → Addr → Obj → List (Key × V) → It
  | .keys, d, o, kvs => Itk d o kvs
  | .vals, d, o, kvs => Itd d o kvs
  | .items, d, o, kvs => Iti d o kvs
theorem Vw.len (w : Vw) (kds : List (Key × D)) : (w.ds kds).length = kds.length := by cases w <;> simp [Vw.ds]
section
variable {K : PySem.W.Frag} {F M : Hp} {d : Addr} {o : Obj} {kvs : List (Key × V)} {kds : List (Key × D)}
theorem repK_get : ∀ {kvs : List (Key × V)} {kds : List (Key × D)} {i : Nat} {k : Key} {v : V}, RepK K M kvs kds → kvs[i]? = some (k, v) → ∃ e, kds[i]? = some (k, e) ∧ Rep K M v e
  | _, _, _, _, _, .nil, h => by simp at h
  | _, _, 0, _, _, .cons h _, e => by simp at e; obtain ⟨rfl, rfl⟩ := e; exact ⟨_, rfl, h⟩
  | _, _, i + 1, _, _, .cons _ r, e => by
    obtain ⟨x, h1, h2⟩ := repK_get (i := i) r (by simpa using e)
    exact ⟨x, by simpa using h1, h2⟩
theorem jx_of (w : Vw) (h : M d = some (.frz o (.dK kvs)) ∨ F d = some (.frz o (.dK kvs))) (rk : RepK K M kvs kds) : JX K F (w.it d o kvs) (w.ds kds) M := by
  have at_ : ∀ (F' H : Hp) (S : Sto), (∀ a u, F a = some u → F' a = some u) → HSt K F' H S → Same M (mask F' S H) → H d = some (.frz o (.dK kvs)) := fun F' H S hF hs sm => by
    rcases h with h | h
    · exact mask_le _ _ (sm _ _ h)
    · exact (hs.side d _ (hF _ _ h)).1
  have hl := repK_len rk
  refine ⟨fun i F' H S hF hs sm hi => ?_, fun i F' H S hF hs sm hi => ?_, fun i F' H S x H' e hF hs sm he y => ?_⟩
  · rw [Vw.len] at hi
    have a := at_ F' H S hF hs sm
    cases w <;> exact ⟨a, by omega⟩
  · rw [Vw.len] at hi
    have a := at_ F' H S hF hs sm
    cases w <;> exact ⟨a, by omega⟩
  · cases w with
    | keys =>
      obtain ⟨rfl, k, v, hk, rfl⟩ := y
      obtain ⟨z, hz, _⟩ := repK_get rk hk
      have : e = keyV k := by
        have he' : (kds.map fun x => keyV x.1)[i]? = some e := he
        rw [List.getElem?_map, hz] at he'
        cases he'; rfl
      subst this
      refine ⟨.refl hs, ?_⟩
      cases k
      · exact .int _
      · exact .str _
    | vals =>
      obtain ⟨rfl, k, hk⟩ := y
      obtain ⟨z, hz, rz⟩ := repK_get rk hk
      have : e = z := by
        have he' : (kds.map fun x => x.2)[i]? = some e := he
        rw [List.getElem?_map, hz] at he'
        cases he'; rfl
      subst this
      exact ⟨.refl hs, rz.mono sm⟩
    | items =>
      obtain ⟨T, k, v, hk, rfl, hT, rfl⟩ := y
      obtain ⟨z, hz, rz⟩ := repK_get rk hk
      have : e = .tup [keyV k, z] := by
        have he' : (kds.map fun x => D.tup [keyV x.1, x.2])[i]? = some e := he
        rw [List.getElem?_map, hz] at he'
        cases he'; rfl
      subst this
      refine rep_pair hs hT ?_ (rz.mono sm)
      cases k
      · exact .int _
      · exact .str _
end
/-! ### for .. in d, d.values(), d.items() -/
section
variable {X : Cx} {W : WX} {pos : Pos} {g : TG} {gd : TGd} {t : TS} {tb : TSd} {vs : List Nat}
theorem for_runX {J : It} {ds : List D} {F H1 : Hp} {S1 : Sto} {σV : L2.St} {σ : Sd} {Dd : EndsD} {Y : Ends} (jr : JX X.K F J ds (mask F S1 H1)) (hg : SndG X.K vs g gd) (hb : SndS X.K W t tb) (hs : HSt X.K F H1 S1) (er : ER X.K (mask F S1 H1) σV σ)
    (h1 : dForL gd tb Dd ds σ S1) (l : LS X.K F W H1 S1 Dd Y) : ∃ Wv : Nat → Nat → L2.St → Hp → Prop, (∃ m, Wv 0 m σV H1) ∧ ∀ i m σ H, Wv i m σ H →
      (J.stop i H ∧ Y.nx σ H) ∨ (J.go i H ∧ ∃ N : L2.St → Hp → Prop, (∀ σ' H', N σ' H' → ∃ m', m' < m ∧ Wv (i + 1) m' σ' H') ∧ ∀ x H', J.yld i H x H' → g x σ H' fun σ2 H2 => t { Y with nx := N, ct := N, bk := Y.nx } σ2 H2) := by
  let Iv : Nat → L2.St → Hp → Prop := fun i σV' H => ∃ (σ' : Sd) (S : Sto), Good X.K F H1 S1 H S ∧ ER X.K (mask F S H) σV' σ' ∧ dForL gd tb Dd (ds.drop i) σ' S
  refine ⟨fun i m σV' H => m = ds.length - i ∧ i ≤ ds.length ∧ Iv i σV' H, ⟨ds.length, by simp, Nat.zero_le _, σ, S1, .refl hs, er, by simpa using h1⟩, ?_⟩
  rintro i m σV' H ⟨rfl, hi', σ', S, gg, er', hl⟩
  by_cases hlt : i < ds.length
  · have ed : ds.drop i = ds[i] :: ds.drop (i + 1) := List.drop_eq_getElem_cons hlt
    rw [ed] at hl
    refine .inr ⟨jr.go i _ H S (fun _ _ e => e) gg.hst gg.same hlt, Iv (i + 1), fun σ2 H' p' => ⟨ds.length - (i + 1), by omega, rfl, hlt, p'⟩, fun x H' y => ?_⟩
    obtain ⟨g2, rx⟩ := jr.yld i _ H S x H' ds[i] (fun _ _ e => e) gg.hst gg.same (List.getElem?_eq_getElem hlt) y
    have gg2 := gg.trans g2
    refine hg g2.hst (er'.mono g2.same) rx hl fun σ3 H3 σd3 S3 g3 er3 _ _ h3 => ?_
    have gg3 := gg2.trans g3
    have ll := l.next gg3
    exact hb g3.hst er3 h3 ⟨fun a b c d g4 er4 h4 => ⟨c, d, gg3.trans g4, er4, h4⟩, ll.rt, ll.nx, fun a b c d g4 er4 h4 => ⟨c, d, gg3.trans g4, er4, h4⟩, ll.ex⟩
  · have e : i = ds.length := by omega
    subst e
    rw [List.drop_of_length_le (Nat.le_refl _)] at hl
    exact .inl ⟨jr.stop _ _ H S (fun _ _ e => e) gg.hst gg.same (Nat.le_refl _), l.nx _ H _ S gg er' hl⟩
def iVw (X : Cx) (w : Vw) (td : TE) : TI := fun σ H R => tLockA X td σ H fun x H1 => ∃ d o kvs, x = .ref d ∧ H1 d = some (.frz o (.dK kvs)) ∧ R (w.it d o kvs) H1
def dForD (w : Vw) (d0 : TEd) (gd : TGd) (tb : TSd) : TSd := fun D σ S => d0 σ S (fun x S1 => match x with
  | .dct kds => dForL gd tb { D with ex := fun _ => XF } (w.ds kds) σ S1
  | .ref p => match S1 p with
    | some (.dct kds) => dForL gd tb { nx := fun σ' S' => S' p = none → D.nx σ' (put S' p (.dct kds)), rt := fun v S' => S' p = none → D.rt v (put S' p (.dct kds)), ex := fun _ => XF } (w.ds kds) σ (era S1 p)
    | _ => False
  | _ => False) (D.ex σ)
theorem ls_xf {K : PySem.W.Frag} {F H : Hp} {S : Sto} {W : WX} {σV : L2.St} : LX K F W σV H S XF := fun _ _ _ _ _ _ _ z => z.elim
theorem snd_forD {w : Vw} {te : TE} {d0 : TEd} (hi : Snd X.K W te d0) (hg : SndG X.K vs g gd) (hb : SndS X.K W t tb) : SndS X.K W (tUnl X (tFor (iVw X w te) g t)) (dForD w d0 gd tb) := fun {σV F H0 σ S0 Dd D} hs er h l => by
  unfold tUnl tFor iVw tLockA
  refine hi hs er h (fun x H1 dx S1 g1 rx h1 => ?_) (l.exs hs er)
  have l1 := l.next g1
  have er1 := er.mono g1.same
  split at h1
  · next kds =>
    cases rx with
    | dct hd rk =>
      rename_i d kvs
      rcases hd with hd | ⟨o, hd⟩
      · obtain ⟨s1, f1, hd1⟩ := mask_free hd
        refine ⟨d, kvs, rfl, .inr ⟨hd1, fun od nf => ⟨d, od, kvs, rfl, upd_same, ?_⟩⟩⟩
        have lk := lk_in (od := od) (w := .dK kvs) trivial hd1 s1 f1
        have out := fun {H' : Hp} {S' : Sto} => good_out (K := X.K) (H' := H') (S' := S') (od := od) (w := .dK kvs) trivial hd1 s1 f1
        refine for_runX (Y := ⟨fun σ' => UnlK X (D.nx σ'), fun v => UnlK X (D.rt v), fun σ' => UnlK X (D.bk σ'), fun σ' => UnlK X (D.ct σ')⟩) (Dd := { Dd with ex := fun _ => XF }) (jx_of w (.inl (by rw [mask_upd s1 f1, upd_same])) (rk.lk lk)) hg hb (hst_lk g1.hst s1 f1 lk) (er1.lk lk) h1 ⟨?_, ?_, ?_, ?_, fun _ _ _ _ _ _ => ls_xf⟩
        · intro σ' H' σd S' g' er' q
          obtain ⟨a, b, c, e⟩ := out g'
          exact .inr ⟨d, od, _, a, nf, l1.nx _ _ _ _ c (er'.lk e) q⟩
        · intro v H' dv S' g' r' q
          obtain ⟨a, b, c, e⟩ := out g'
          exact .inr ⟨d, od, _, a, nf, l1.rt _ _ _ _ c (r'.lk e) q⟩
        · intro σ' H' σd S' g' er' q
          obtain ⟨a, b, c, e⟩ := out g'
          exact .inr ⟨d, od, _, a, nf, l1.bk _ _ _ _ c (er'.lk e) q⟩
        · intro σ' H' σd S' g' er' q
          obtain ⟨a, b, c, e⟩ := out g'
          exact .inr ⟨d, od, _, a, nf, l1.ct _ _ _ _ c (er'.lk e) q⟩
      · have hd1 := mask_le _ _ hd
        refine ⟨d, kvs, rfl, .inl ⟨o, hd1, d, o, kvs, rfl, hd1, ?_⟩⟩
        exact for_runX (Y := ⟨fun σ' => UnlK X (D.nx σ'), fun v => UnlK X (D.rt v), fun σ' => UnlK X (D.bk σ'), fun σ' => UnlK X (D.ct σ')⟩) (Dd := { Dd with ex := fun _ => XF }) (jx_of w (.inl hd) rk) hg hb g1.hst er1 h1 ⟨fun a b c d g' er' q => .inl (l1.nx a b c d g' er' q), fun a b c d g' r' q => .inl (l1.rt a b c d g' r' q), fun a b c d g' er' q => .inl (l1.bk a b c d g' er' q), fun a b c d g' er' q => .inl (l1.ct a b c d g' er' q), fun _ _ _ _ _ _ => ls_xf⟩
  · next p =>
    cases rx
    split at h1
    · next kds es =>
      obtain ⟨kvs, hk, rk⟩ := g1.hst.at_ p _ es
      refine ⟨p, kvs, rfl, .inr ⟨hk, fun od nf => ⟨p, od, kvs, rfl, upd_same, ?_⟩⟩⟩
      have em := mask_as (F := F) (H := H1) (u := .frz od (.dK kvs)) es
      have out := fun {H' : Hp} {S' : Sto} => good_back (H' := H') (S' := S') (od := od) (w := .dK kvs) g1.hst es ⟨kvs, rfl, rk⟩
      refine for_runX (Y := ⟨fun σ' => UnlK X (D.nx σ'), fun v => UnlK X (D.rt v), fun σ' => UnlK X (D.bk σ'), fun σ' => UnlK X (D.ct σ')⟩) (F := upd F p (.frz od (.dK kvs))) (jx_of w (.inr upd_same) (by rw [em]; exact rk)) hg hb (hst_as g1.hst es) (by rw [em]; exact er1) h1 ⟨?_, ?_, ?_, ?_, fun _ _ _ _ _ _ => ls_xf⟩
      · intro σ' H' σd S' g' er' q
        obtain ⟨a, b, c, e⟩ := out g'
        exact .inr ⟨p, od, _, a, nf, l1.nx _ _ _ _ c (by rw [e]; exact er') (q b)⟩
      · intro v H' dv S' g' r' q
        obtain ⟨a, b, c, e⟩ := out g'
        exact .inr ⟨p, od, _, a, nf, l1.rt _ _ _ _ c (by rw [e]; exact r') (q b)⟩
      · intro σ' H' σd S' g' er' q
        exact q.elim
      · intro σ' H' σd S' g' er' q
        exact q.elim
    · cases h1
  · cases h1
theorem lc_runX {K : PySem.W.Frag} {tt : TT} {dt : TTd} {te : TE} {de : TEd} {σV : L2.St} {F H1 : Hp} {σ : Sd} {S1 : Sto} {J : It} {ds : List D} {Q : VK} {Qf : List D → Sto → Prop} (hg : SndG K vs g gd) (ht : SndT K WF tt dt) (he : Snd K WF te de)
    (hs : HSt K F H1 S1) (er : ER K (mask F S1 H1) σV σ) (jr : JX K F J ds (mask F S1 H1)) (hz : ds.length ≤ sizeLine) (h : dLcL gd dt de (wipeD σ vs) Qf ds [] S1)
    (fin : ∀ (Dp : Addr) (H : Hp) (S : Sto) (accV : List V) (acc : List D), H1 Dp = none → F Dp = none → S1 Dp = none → HSt K (upd F Dp (.lst accV)) H S → Same (mask F S1 H1) (mask (upd F Dp (.lst accV)) S H) → Reps K (mask (upd F Dp (.lst accV)) S H) accV acc → Qf acc S → Q (.ref Dp) H) :
    ∀ Dp, H1 Dp = none → ∃ Wv : Nat → Nat → Hp → Prop, (∃ m, Wv 0 m (upd H1 Dp (.lst []))) ∧ ∀ i m H, Wv i m H →
      (J.stop i H ∧ Q (.ref Dp) H) ∨ (J.go i H ∧ ∃ Nx : Hp → Prop, (∀ H', Nx H' → ∃ m', m' < m ∧ Wv (i + 1) m' H') ∧ ∀ x H', J.yld i H x H' → g x (wipe σV vs) H' fun σ2 H2 => wipe σ2 vs = wipe σV vs ∧ tt σ2 H2 fun b H3 =>
        if b = true then te σ2 H3 fun y H4 => ∃ acc, H4 Dp = some (.lst acc) ∧ acc.length < sizeLine ∧ Nx (upd H4 Dp (.lst (acc ++ [y]))) else Nx H3) := by
  intro Dp hD
  have fD := hs.freeF hD
  have sD := hs.free hD
  have fx : ∀ (l : List V) a u, F a = some u → upd F Dp (.lst l) a = some u := fun l a u e => by
    rw [upd_ne (fun z => by rw [z, fD] at e; cases e)]; exact e
  let Iv : Nat → Hp → Prop := fun i H => ∃ (S : Sto) (accV : List V) (acc : List D), HSt K (upd F Dp (.lst accV)) H S ∧ Same (mask F S1 H1) (mask (upd F Dp (.lst accV)) S H) ∧ Reps K (mask (upd F Dp (.lst accV)) S H) accV acc ∧ acc.length ≤ i ∧ dLcL gd dt de (wipeD σ vs) Qf (ds.drop i) acc S
  refine ⟨fun i m H => m = ds.length - i ∧ i ≤ ds.length ∧ Iv i H, ⟨ds.length, by simp, Nat.zero_le _, S1, [], [], hst_beside hs hD, mask_beside hs hD, .nil, Nat.le_refl _, by simpa using h⟩, ?_⟩
  rintro i m H ⟨rfl, hi, S, accV, acc, hh, sm, ra, la, hl⟩
  by_cases hlt : i < ds.length
  · have ed : ds.drop i = ds[i] :: ds.drop (i + 1) := List.drop_eq_getElem_cons hlt
    rw [ed] at hl
    refine .inr ⟨jr.go i _ H S (fx accV) hh sm hlt, Iv (i + 1), fun H' p' => ⟨ds.length - (i + 1), by omega, rfl, hlt, p'⟩, fun x H' y => ?_⟩
    obtain ⟨g1, rx⟩ := jr.yld i _ H S x H' ds[i] (fx accV) hh sm (List.getElem?_eq_getElem hlt) y
    refine hg g1.hst (((er_wipe er vs).mono sm).mono g1.same) rx hl fun σ2 H2 σd2 S2 g2 er2 l2 o2 h2 => ⟨wipe_eq (by rw [l2, wipe_length]) o2, ?_⟩
    have g12 := g1.trans g2
    refine ht g2.hst er2 h2 (fun b H3 S3 g3 h3 => ?_) lxF
    have g13 := g12.trans g3
    cases b with
    | false => exact ⟨S3, accV, acc, g3.hst, sm.trans g13.same, ra.mono g13.same, Nat.le_succ_of_le la, h3⟩
    | true =>
      refine he g3.hst (er2.mono g3.same) h3 (fun yv H4 yd S4 g4 r4 h4 => ?_) lxF
      have g14 := g13.trans g4
      have e4 := (g4.hst.side Dp _ upd_same).1
      have la' : accV.length < sizeLine := by rw [ra.length]; omega
      refine ⟨accV, e4, la', S4, accV ++ [yv], acc ++ [yd], hst_side_chg g4.hst, ?_, ?_, by rw [List.length_append, List.length_singleton]; omega, h4⟩
      · rw [mask_side_chg (u := .lst accV)]; exact sm.trans g14.same
      · rw [mask_side_chg (u := .lst accV)]; exact (ra.mono g14.same).append (.cons r4 .nil)
  · have e : i = ds.length := by omega
    subst e
    rw [List.drop_of_length_le (Nat.le_refl _)] at hl
    exact .inl ⟨jr.stop _ _ H S (fx accV) hh sm (Nat.le_refl _), fin Dp H S accV acc hD fD sD hh sm ra hl⟩
def dLcD (w : Vw) (d0 : TEd) (gd : TGd) (dt : TTd) (de : TEd) (vs : List Nat) : TEd := fun σ S Q E => d0 σ S (fun x S1 => match x with
  | .dct kds => kds.length ≤ sizeLine ∧ dLcL gd dt de (wipeD σ vs) (fun acc S2 => Q (.lst acc) S2) (w.ds kds) [] S1
  | .ref p => match S1 p with
    | some (.dct kds) => kds.length ≤ sizeLine ∧ dLcL gd dt de (wipeD σ vs) (fun acc S2 => S2 p = none → Q (.lst acc) (put S2 p (.dct kds))) (w.ds kds) [] (era S1 p)
    | _ => False
  | _ => False) E
theorem snd_lcD {w : Vw} {t0 te : TE} {d0 de : TEd} {tt : TT} {dt : TTd} (hi : Snd X.K W t0 d0) (hg : SndG X.K vs g gd) (ht : SndT X.K WF tt dt) (he : Snd X.K WF te de) : Snd X.K W (tUnlE X (tLc (iVw X w t0) g tt te vs)) (dLcD w d0 gd dt de vs) := fun {σV F H σ S Qd E Q} hs er h hq hx => by
  unfold tUnlE tLc iVw tLockA
  refine hi hs er h (fun x H1 dx S1 g1 rx h1 => ?_) hx
  have er1 := er.mono g1.same
  have q1 := hq.next g1
  split at h1
  · next kds =>
    obtain ⟨hz, h1⟩ := h1
    cases rx with
    | dct hd rk =>
      rename_i d kvs
      rcases hd with hd | ⟨o, hd⟩
      · obtain ⟨s1, f1, hd1⟩ := mask_free hd
        refine ⟨d, kvs, rfl, .inr ⟨hd1, fun od nf => ⟨d, od, kvs, rfl, upd_same, ?_⟩⟩⟩
        have lk := lk_in (od := od) (w := .dK kvs) trivial hd1 s1 f1
        refine lc_runX (Q := fun v => UnlK X (Q v)) hg ht he (hst_lk g1.hst s1 f1 lk) (er1.lk lk) (jx_of w (.inl (by rw [mask_upd s1 f1, upd_same])) (rk.lk lk)) (by rw [Vw.len]; exact hz) h1 fun Dp H2 S2 accV acc hD fD sD hh sm ra h2 => ?_
        have e2 := (hh.side Dp _ upd_same).1
        have s2 := (hh.side Dp _ upd_same).2
        have g2 : Good X.K F (upd H1 d (.frz od (.dK kvs))) S1 H2 S2 := ⟨hst_unside hh fD, sm.trans (same_unside fD)⟩
        obtain ⟨a, b, c, e⟩ := good_out (w := .dK kvs) trivial hd1 s1 f1 g2
        have r2 : Rep X.K (mask F S2 H2) (.ref Dp) (.lst acc) := .lst (SqL.of (by rw [mask_none s2 fD]; exact e2)) (ra.mono (same_unside fD))
        exact .inr ⟨d, od, _, a, nf, q1 _ _ _ _ c (r2.lk e) h2⟩
      · have hd1 := mask_le _ _ hd
        refine ⟨d, kvs, rfl, .inl ⟨o, hd1, d, o, kvs, rfl, hd1, ?_⟩⟩
        refine lc_runX (Q := fun v => UnlK X (Q v)) hg ht he g1.hst er1 (jx_of w (.inl hd) rk) (by rw [Vw.len]; exact hz) h1 fun Dp H2 S2 accV acc hD fD sD hh sm ra h2 => ?_
        have e2 := (hh.side Dp _ upd_same).1
        have s2 := (hh.side Dp _ upd_same).2
        have g2 : Good X.K F H1 S1 H2 S2 := ⟨hst_unside hh fD, sm.trans (same_unside fD)⟩
        exact .inl (q1 _ _ _ _ g2 (.lst (SqL.of (by rw [mask_none s2 fD]; exact e2)) (ra.mono (same_unside fD))) h2)
  · next p =>
    cases rx
    split at h1
    · next kds es =>
      obtain ⟨hz, h1⟩ := h1
      obtain ⟨kvs, hk, rk⟩ := g1.hst.at_ p _ es
      refine ⟨p, kvs, rfl, .inr ⟨hk, fun od nf => ⟨p, od, kvs, rfl, upd_same, ?_⟩⟩⟩
      have em := mask_as (F := F) (H := H1) (u := .frz od (.dK kvs)) es
      refine lc_runX (Q := fun v => UnlK X (Q v)) (F := upd F p (.frz od (.dK kvs))) hg ht he (hst_as g1.hst es) (by rw [em]; exact er1) (jx_of w (.inr upd_same) (by rw [em]; exact rk)) (by rw [Vw.len]; exact hz) h1 fun Dp H2 S2 accV acc hD fD sD hh sm ra h2 => ?_
      have e2 := (hh.side Dp _ upd_same).1
      have s2 := (hh.side Dp _ upd_same).2
      have g2 : Good X.K (upd F p (.frz od (.dK kvs))) (upd H1 p (.frz od (.dK kvs))) (era S1 p) H2 S2 := ⟨hst_unside hh fD, sm.trans (same_unside fD)⟩
      obtain ⟨a, b, c, e⟩ := good_back (w := .dK kvs) g1.hst es ⟨kvs, rfl, rk⟩ g2
      have r2 : Rep X.K (mask (upd F p (.frz od (.dK kvs))) S2 H2) (.ref Dp) (.lst acc) := .lst (SqL.of (by rw [mask_none s2 fD]; exact e2)) (ra.mono (same_unside fD))
      exact .inr ⟨p, od, _, a, nf, q1 _ _ _ _ c (by rw [e]; exact r2) (h2 b)⟩
    · cases h1
  · cases h1
end
/-! ### the rules -/
section
variable {X : Cx} {tg e : Expr} {td : TE} {apos cpos : Pos}
theorem pi_vkeys (he : PE X e td) : PI X tg e (iVw X .keys td) := by
  refine ⟨fun pins s σ H R I h => ?_⟩
  refine thn ((pe_lockA he).run pins s σ H _ I h) fun u s1 ⟨x, H1, I1, rx, d, o, kvs, ex, hd, q⟩ => ?_
  subst ex
  obtain rfl : u = Value.ref d := rx
  obtain ⟨hs, hgd, hx, es, ep, vs, hdt, hsz, kv, hm⟩ := I1.frzK hd
  refine iter_keys hs hgd hx hdt (pi_one (tk := s1.toks) I1 _ (turn_keys _ hdt) ⟨_, Heap.get?_push_size _ rfl, rfl, ?_⟩ q)
  rw [hsz] <;> rfl
theorem pi_vvals (he : PE X e td) (hbase : attributeBase e "values" X.env (eval e X.env) = eval e X.env := by rfl) (hline : (apos.endLine == cpos.line) = true := by rfl) : PI X tg (.Call (.Attribute e "values" apos) [] [] cpos) (iVw X .vals td) :=
  pi_values (pe_lockA he) hbase hline
theorem pi_vitems {elts : List Expr} {kk : Nat} {tpos : Pos} (he : PE X e td) (hbase : attributeBase e "items" X.env (eval e X.env) = eval e X.env := by rfl) (hline : (apos.endLine == cpos.line) = true := by rfl) :
    PI X (.Tuple elts kk tpos) (.Call (.Attribute e "items" apos) [] [] cpos) (iVw X .items td) := pi_items (pe_lockA he) hbase hline
end
section
variable {X : Cx} {W : WX} {w : Vw} {pos : Pos} {tg iter e : Expr} {body : List Stmt} {te : TE} {d0 : TEd} {g : TG} {gd : TGd} {t : TS} {tb : TSd} {vs : List Nat} {elt : Expr} {ifs : List Expr} {scope : Scope} {own : List (Str × Nat)} {dt : TTd} {de : TEd}
/-- how the walk is written: the text of the iterated, the walk, the dict -/
structure VD (X : Cx) (W : WX) (w : Vw) (tg iter : Expr) (te : TE) (d0 : TEd) : Prop where
  run : PI X tg iter (iVw X w te)
  snd : Snd X.K W te d0
theorem vd_keys (he : VE X W e te d0) : VD X W .keys tg e te d0 := ⟨pi_vkeys he.run, he.snd⟩
theorem vd_vals {apos cpos : Pos} (he : VE X W e te d0) (hbase : attributeBase e "values" X.env (eval e X.env) = eval e X.env := by rfl) (hline : (apos.endLine == cpos.line) = true := by rfl) : VD X W .vals tg (.Call (.Attribute e "values" apos) [] [] cpos) te d0 := ⟨pi_vvals he.run hbase hline, he.snd⟩
theorem vd_items {apos cpos tpos : Pos} {elts : List Expr} {kk : Nat} (he : VE X W e te d0) (hbase : attributeBase e "items" X.env (eval e X.env) = eval e X.env := by rfl) (hline : (apos.endLine == cpos.line) = true := by rfl) :
    VD X W .items (.Tuple elts kk tpos) (.Call (.Attribute e "items" apos) [] [] cpos) te d0 := ⟨pi_vitems he.run hbase hline, he.snd⟩
theorem vs_forD (hp : PassesOwn (model X.prog X.w) X.A X.env X.xe) (hc : X.calm = true) (hi : VD X W w tg iter te d0) (hg : VG X vs tg g gd) (hb : VSs X W body t tb)
    (hs : ∀ x, foldedSetIterable iter X.env x = pure x := by intro _; rfl) : VS X W (.For tg iter body [] pos) (tUnl X (tFor (iVw X w te) g t)) (dForD w d0 gd tb) := ⟨ps_unl (ps_for hp hc hi.run hg.run hb.run hs), snd_forD hi.snd hg.snd hb.snd⟩
theorem ve_lcD (hc : X.calm = true) (hN : X.N.Nodup) (hi : VD X W w tg iter te d0) (ok : BlkOk X.N X.env.scope scope own)
    (hg : BlkG X scope (own.map (·.2)) tg gd) (ht : BlkT X scope ifs dt) (he : BlkE X scope elt de) (hs : ∀ x, foldedSetIterable iter X.env x = pure x := by intro _; rfl) :
    VE X W (.ListComp elt [⟨tg, iter, ifs, 0⟩] scope pos) (tUnlE X (tLc (iVw X w te) (gOf X.K (own.map (·.2)) gd) (tOfT X.K WF dt) (tOf X.K WF de) (own.map (·.2)))) (dLcD w d0 gd dt de (own.map (·.2))) := by
  have hg' := fun s H C cl fp => vg_of (hg s H C cl fp)
  have ht' := fun s H C cl fp => vts_of (ht s H C cl fp)
  have he' := fun s H C cl fp => ve_of (he s H C cl fp)
  exact ⟨pe_unl (pe_lc hc hN hi.run ok (fun s H C cl fp => (hg' s H C cl fp).run) (fun s H C cl fp => (ht' s H C cl fp).run) (fun s H C cl fp => (he' s H C cl fp).run) hs),
    snd_lcD hi.snd (hg' {} noH 0 [] []).snd (ht' {} noH 0 [] []).snd (he' {} noH 0 [] []).snd⟩
theorem vs_setLcD {j : Nat} {y : Str} {py spos : Pos} (hc : X.calm = true) (hN : X.N.Nodup) (hi : VD X W w tg iter te d0) (ok : BlkOk X.N X.env.scope scope own)
    (hg : BlkG X scope (own.map (·.2)) tg gd) (ht : BlkT X scope ifs dt) (he : BlkE X scope elt de) (hy : X.N[j]? = some y := by rfl) (hyl : X.env.scope.names.lookup y = some .local := by rfl)
    (hk : X.env.scope.kind = .function := by rfl) (hln : (py.line == pos.line) = true := by rfl) (ha : (scope.names.any fun (n, k) => n == y && (k == .local || k == .cell)) = false := by rfl) (hl2 : spos.line = pos.line := by rfl) (hs : ∀ x, foldedSetIterable iter X.env x = pure x := by intro _; rfl) :
    VS X W (.Assign [.Name y py] (.ListComp elt [⟨tg, iter, ifs, 0⟩] scope pos) spos) (tAsg (tUnlE X (tLc (iVw X w te) (gOf X.K (own.map (·.2)) gd) (tOfT X.K WF dt) (tOf X.K WF de) (own.map (·.2)))) (gName j)) (dAsg (dLcD w d0 gd dt de (own.map (·.2))) (hName j)) := by
  have hg' := fun s H C cl fp => vg_of (hg s H C cl fp)
  have ht' := fun s H C cl fp => vts_of (ht s H C cl fp)
  have he' := fun s H C cl fp => ve_of (he s H C cl fp)
  exact vs_set (ps_unl (ps_setLc hc hN hy hyl (sw_true hk hyl hln ha) hi.run ok (fun s H C cl fp => (hg' s H C cl fp).run) (fun s H C cl fp => (ht' s H C cl fp).run) (fun s H C cl fp => (he' s H C cl fp).run) hs))
    (snd_lcD hi.snd (hg' {} noH 0 [] []).snd (ht' {} noH 0 [] []).snd (he' {} noH 0 [] []).snd)
end
section
variable {w : Vw} {d0 : TEd} {gd : TGd} {tb : TSd} {dt : TTd} {de : TEd} {vs : List Nat} {D : EndsD} {σ : Sd} {S : Sto} {Q : QD} {E : XD}
@[simp ↓] theorem z_dForD : dForD w d0 gd tb D σ S = d0 σ S (fun x S1 => match x with
  | .dct kds => dForL gd tb { D with ex := fun _ => XF } (w.ds kds) σ S1
  | .ref p => match S1 p with
    | some (.dct kds) => dForL gd tb { nx := fun σ' S' => S' p = none → D.nx σ' (put S' p (.dct kds)), rt := fun v S' => S' p = none → D.rt v (put S' p (.dct kds)), ex := fun _ => XF } (w.ds kds) σ (era S1 p)
    | _ => False
  | _ => False) (D.ex σ) := rfl
@[simp ↓] theorem z_dLcD : dLcD w d0 gd dt de vs σ S Q E = d0 σ S (fun x S1 => match x with
  | .dct kds => kds.length ≤ sizeLine ∧ dLcL gd dt de (wipeD σ vs) (fun acc S2 => Q (.lst acc) S2) (w.ds kds) [] S1
  | .ref p => match S1 p with
    | some (.dct kds) => kds.length ≤ sizeLine ∧ dLcL gd dt de (wipeD σ vs) (fun acc S2 => S2 p = none → Q (.lst acc) (put S2 p (.dct kds))) (w.ds kds) [] (era S1 p)
    | _ => False
  | _ => False) E := rfl
end
end VL

/-! VL: sorted(set(xs)), xs a list of texts. -/
namespace VLS
open PySem PySem.Spec PyProof.Rows L2
/-- the text of an entry -/
def txt (e : Int × Value) : Str := match e.2 with
  | .str x _ => x
  | _ => Str.empty
/-- a table that holds just the texts of L, each once -/
structure Tx (P : Program) (w : World) (es : Array (Int × Value)) (t : SetTable) (L : List Str) (n : Nat) : Prop where
  one : ∀ e ∈ es.toList, ∃ x tk, e = ((strKind P w).hash x, Value.str x tk)
  nd : (es.toList.map txt).Nodup
  mem : ∀ x, x ∈ es.toList.map txt ↔ x ∈ L
  few : es.size ≤ n
  top : n < 100
  fit : t.fits es.size = true
  ris : Ris t.place.toList
  led : w.params.followText "set-order" = true ∨ t.led = true
section
variable {P : Program} {w : World} {es es' : Array (Int × Value)} {t t' : SetTable} {L : List Str} {n : Nat} {x : Str}
theorem Tx.lt (T : Tx P w es t L n) : es.size < scanBound := by
  have h1 := T.few
  have h2 := T.top
  have h3 : scanBound = 4096 := rfl
  omega
theorem Tx.elems (T : Tx P w es t L n) : ElemsOf (strKind P w) es.toList := fun e he => by
  obtain ⟨x, tk, rfl⟩ := T.one e he
  exact ⟨⟨x, strKind_is P w x tk, rfl⟩, rfl⟩
theorem Tx.has (T : Tx P w es t L n) : x ∈ L ↔ ∃ e ∈ es.toList, (strKind P w).is x e.2 = true := by
  rw [← T.mem x, List.mem_map]
  constructor
  · rintro ⟨e, he, rfl⟩
    obtain ⟨y, tk, rfl⟩ := T.one e he
    exact ⟨_, he, strKind_is P w y tk⟩
  · rintro ⟨e, he, q⟩
    obtain ⟨y, tk, rfl⟩ := T.one e he
    obtain ⟨u, hu⟩ := Value.isStrOf_shape (show Value.isStrOf x (Value.str y tk) = true from q)
    cases hu
    exact ⟨_, he, rfl⟩
/-- the same members, laid otherwise -/
theorem Tx.laid (T : Tx P w es t L n) (p : es'.toList.Perm es.toList) (hf : t'.fits es'.size = true) (hr : Ris t'.place.toList) (hl : t'.led = t.led) : Tx P w es' t' L n where
  one e he := T.one e (p.mem_iff.mp he)
  nd := (p.map txt).nodup_iff.mpr T.nd
  mem y := (p.map txt).mem_iff.trans (T.mem y)
  few := by rw [← Array.length_toList, p.length_eq, Array.length_toList]; exact T.few
  top := T.top
  fit := hf
  ris := hr
  led := T.led.imp id fun z => hl.trans z
theorem Tx.old (T : Tx P w es t L n) (hx : x ∈ L) (hn : n + 1 < 100) : Tx P w es t (x :: L) (n + 1) where
  one := T.one
  nd := T.nd
  mem y := by rw [T.mem y, List.mem_cons]; exact ⟨.inr, fun z => z.elim (fun e => e ▸ hx) id⟩
  few := Nat.le_succ_of_le T.few
  top := hn
  fit := T.fit
  ris := T.ris
  led := T.led
/-- one more -/
theorem Tx.new (T : Tx P w es t L n) {tk : Tok} (hx : x ∉ L) (hn : n + 1 < 100) : Tx P w (layNew t es ((strKind P w).hash x) (.str x tk)).1 (layNew t es ((strKind P w).hash x) (.str x tk)).2.1 (x :: L) (n + 1) := by
  have p : (layNew t es ((strKind P w).hash x) (.str x tk)).1.toList.Perm (((strKind P w).hash x, Value.str x tk) :: es.toList) := by
    refine (layNew_perm t es _ _).trans ?_
    rw [Array.toList_push]
    exact List.perm_append_singleton _ _
  have q := p.map txt
  refine ⟨fun e he => ?_, q.nodup_iff.mpr (List.nodup_cons.mpr ⟨fun z => hx ((T.mem x).mp z), T.nd⟩), fun y => ?_, ?_, hn, layNew_fits .., layNew_ris _ _ _ _ T.ris, T.led.imp id fun z => (layNew_led ..).trans z⟩
  · rcases List.mem_cons.mp (p.mem_iff.mp he) with rfl | z
    · exact ⟨x, tk, rfl⟩
    · exact T.one e z
  · rw [q.mem_iff, List.map_cons, List.mem_cons, List.mem_cons, T.mem y]
    exact Iff.rfl
  · have := p.length_eq
    rw [List.length_cons, Array.length_toList, Array.length_toList] at this
    have := T.few
    omega
end
/-- the set at a -/
def TxAt (P : Program) (w : World) (h : Heap) (a : Addr) (L : List Str) (n : Nat) : Prop := ∃ o es ep t, h.get? a = some o ∧ o.ExactSet ∧ o.data = .set es ep t ∧ Tx P w es t L n
section
variable {P : Program} {w : World} {A : Around} {E : Value → Shared → Prop} {s : Shared} {a : Addr} {L : List Str} {n : Nat} {x : Str}
theorem TxAt.keep {h h' : Heap} (T : TxAt P w h a L n) (k : ∀ o, h.get? a = some o → h'.get? a = some o) : TxAt P w h' a L n :=
  let ⟨o, es, ep, t, ho, r⟩ := T; ⟨o, es, ep, t, k o ho, r⟩
theorem tx_put {h : Heap} {o : Obj} {es es' : Array (Int × Value)} {ep : Nat} {t t' : SetTable} (ho : h.get? a = some o) (hx : o.ExactSet) (hd : o.data = .set es ep t) (T : Tx P w es' t' L n) :
    ∃ o', (h.update a (Obj.putSet es' t')).get? a = some o' ∧ o'.ExactSet ∧ o'.data = .set es' (ep + 1) t' := ⟨_, store_at ho hd, hx, rfl⟩
theorem tx_add {tk : Tok} {Q : Bool → Shared → Prop} (S : TxAt P w s.heap a L n) (hn : n + 1 < 100) (hQ : ∀ b h', Heap.SameBut a s.heap h' → TxAt P w h' a (x :: L) (n + 1) → Q b { s with heap := h' }) :
    wpAny (model P w) A (setAddHashed a (.str x tk) ((strKind P w).hash x)) Q E s := by
  obtain ⟨o, es, ep, t, ho, hx, hd, T⟩ := S
  have quiet : ∀ (b : Bool) {s' : Shared} {R : Unit → Shared → Prop}, R () s' → wpAny (model P w) A (match b with | true => rule "set.scan.the-table-gave-way" | false => pure ()) R E s' := fun b s' R r => by
    cases b
    · exact wpAny_pure r
    · exact wpAny_rule r
  unfold setAddHashed setAddHashedIn
  refine wpAny_holding (wpAny_bind (wpAny_setState_of ho hd T.fit ?_))
  dsimp only
  rw [byScan_of (knd := strKind P w) (x := .str x tk) rfl T.lt T.elems, if_pos rfl]
  unfold setAddByScan
  refine wpAny_bind (wpAny_bind (wpAny_rule (wpAny_bind (wpAny_setScan_of (strKind_is P w x tk) ho hd T.fit T.elems ?_))))
  cases hf : es.toList.findIdx? (fun e => (strKind P w).is x e.2) with
  | some j =>
    obtain ⟨hj, pj, _⟩ := List.findIdx?_eq_some_iff_getElem.mp hf
    exact wpAny_pure (wpAny_pure (hQ false s.heap (Heap.SameBut.refl a s.heap) ⟨o, es, ep, t, ho, hx, hd, T.old (T.has.mpr ⟨_, List.getElem_mem hj, pj⟩) hn⟩))
  | none =>
    have no : x ∉ L := fun z => by
      obtain ⟨e, he, q⟩ := T.has.mp z
      have c := List.findIdx?_eq_none_iff.mp hf e he
      rw [q] at c
      cases c
    have N := T.new (tk := tk) no hn
    dsimp only
    generalize layNew t es ((strKind P w).hash x) (.str x tk) = Z at N ⊢
    obtain ⟨es1, t1, wd, gave⟩ := Z
    dsimp only at N ⊢
    -- what is done with the new table, whatever its last flag
    have rest : ∀ (t2 : SetTable), Tx P w es1 t2 (x :: L) (n + 1) → wpAny (model P w) A (do
        storeSet a es1 t2
        if (!wd && t2.tooFull) = true then do
            (match (relayAll t2 es1 (SetTable.grown es1.size)).2.2 with | true => rule "set.scan.the-table-gave-way" | false => pure ())
            storeSet a (relayAll t2 es1 (SetTable.grown es1.size)).1 (relayAll t2 es1 (SetTable.grown es1.size)).2.1
            pure (some true)
          else pure (some true)) (fun r s' => ∃ b, r = some b ∧ Q b s') E s := by
      intro t2 N2
      obtain ⟨o2, g2, x2, d2⟩ := tx_put ho hx hd N2
      have sb := Heap.SameBut.update s.heap a (Obj.putSet es1 t2)
      refine wpAny_bind (wpAny_storeSet_of ho hd ?_ (fits_of_scanBound N2.lt))
      split
      · have N3 := N2.laid (relayAll_perm t2 es1 (SetTable.grown es1.size)) (relayAll_fits ..) (relayAll_ris ..) (relayAll_led ..)
        refine wpAny_bind (quiet _ (wpAny_bind (wpAny_storeSet_of g2 d2 ?_ (fits_of_scanBound N3.lt))))
        obtain ⟨o3, g3, x3, d3⟩ := tx_put g2 x2 d2 N3
        exact wpAny_pure ⟨true, rfl, hQ true _ (sb.trans (Heap.SameBut.update _ a _)) ⟨o3, _, _, _, g3, x3, d3, N3⟩⟩
      · exact wpAny_pure ⟨true, rfl, hQ true _ sb ⟨o2, _, _, _, g2, x2, d2, N2⟩⟩
    refine wpAny_bind (quiet _ ?_)
    have off : Tx P w es1 { t1 with plain := false } (x :: L) (n + 1) := N.laid (List.Perm.refl _) (SetTable.fits_plain_off N.fit) N.ris rfl
    have go := fun t2 h2 => wpAny_mono (rest t2 h2) (fun r s' ⟨b, e, q⟩ => (by subst e; exact wpAny_pure q : wpAny (model P w) A (match r with | some added => pure added | none => setAddHashedIn a (.str x tk) ((strKind P w).hash x) 99999) Q E s')) (fun _ _ z => z)
    split
    · refine wpAny_bind ?_
      rw [hashByValue_scannable 8 (x := .str x tk) rfl]
      refine wpAny_pure ?_
      split
      · exact go _ N
      · exact go _ off
    · refine wpAny_bind (wpAny_pure ?_)
      rw [if_pos rfl]
      exact go _ N
/-- the loop of set(..) -/
theorem tx_loop {I : Addr} {fp wr : List Addr} {G : Array GenState → Array GenState → Prop} {m : Nat} {Pv : Nat → Value → Prop} {St : Nat → Shared → Prop} {R : Result → Shared → Prop} (W : WalksS P w A.in1 I fp wr G m Pv St) (hf : a ∉ fp) (xs : List Str) (hm : m = xs.length) (hb : xs.length < 99)
    (hv : ∀ i v, Pv i v → ∃ x tk, xs[i]? = some x ∧ v = Value.str x tk) : ∀ (k i : Nat) (s : Shared) (L : List Str), m - i = k → i ≤ m → St i s → TxAt P w s.heap a L i → (∀ y, y ∈ L ↔ y ∈ xs.take i) →
      (∀ s' L', Moved (a :: wr) G s s' → TxAt P w s'.heap a L' m → (∀ y, y ∈ L' ↔ y ∈ xs) → R (.ok (.ret .none)) s') → codeAny (model P w) A (.builtin "set.update.loop" ⟨[.ref a, .ref I], []⟩) R s := by
  have nw : a ∉ wr := fun z => hf (W.sub _ z)
  have up : ∀ b ∈ wr, b ∈ a :: wr := fun b z => List.mem_cons_of_mem _ z
  intro k
  induction k with
  | zero =>
    intro i s L hk hi st T hL hR
    obtain rfl : i = m := by omega
    refine codeAny_builtin F.entry_set_update_loop ?_
    rw [Around.under_plainId F.plain_set_update_loop _]
    show wpAny _ A.in1 (pyNext (.ref I) >>= _) _ _ s
    refine wpAny_bind (W.done s _ _ st fun s' mv => ?_)
    rw [List.take_of_length_le (Nat.le_of_eq hm.symm)] at hL
    exact wpAny_pure (hR s' L (mv.mono up) (T.keep fun o e => mv.heap a o nw e) hL)
  | succ k ih =>
    intro i s L hk hi st T hL hR
    have hlt : i < m := by omega
    refine codeAny_builtin F.entry_set_update_loop ?_
    rw [Around.under_plainId F.plain_set_update_loop _]
    show wpAny _ A.in1 (pyNext (.ref I) >>= _) _ _ s
    refine wpAny_bind (W.item i s _ _ hlt st fun v s1 pv st1 mv => ?_)
    obtain ⟨x, tk, hx, rfl⟩ := hv i v pv
    show wpAny _ A.in1 (holding [Value.str x tk] (setAdd a (.str x tk)) >>= _) _ _ s1
    unfold setAdd
    refine wpAny_bind (wpAny_holding (wpAny_holding (wpAny_bind ((strKind P w).pyHash (k := x) (strKind_is P w x tk) ?_))))
    refine tx_add (s := { s1 with toks := s1.toks + 1 }) (T.keep fun o e => mv.heap a o nw e) (by omega) fun b h2 sb T2 => ?_
    have other : ∀ (c : Addr) (o : Obj), c ≠ a → s1.heap.get? c = some o → h2.get? c = some o := fun c o hc e => (sb.2 c hc).trans e
    refine wpAny_pure ⟨plainId_quiet F.plain_set_update_loop _, ih (i + 1) _ (x :: L) (by omega) hlt (W.frame _ s1 _ _ st1 (Nat.le_succ _) fun c hc o e => other c o (fun z => hf (z ▸ hc)) e) T2 (fun y => ?_) fun s3 L3 mv3 T3 hL3 => ?_⟩
    · rw [List.take_add_one, hx, List.mem_cons, hL y, List.mem_append]
      simp [or_comm]
    · exact hR s3 L3 (Moved.trans W.gtrans ((mv.mono up).then_heap (Nat.le_succ _) fun c o hc e => other c o (fun z => hc (by rw [z]; exact List.mem_cons_self)) e) mv3) T3 hL3
/-- a set just made -/
abbrev set0 (w : World) : Obj := { cls := .type "set", dict := none, data := .set #[] 0 (.fresh 0 0 (!w.params.followText "set-order")) }
theorem tx_fresh {h : Heap} (ho : h.get? a = some (set0 w)) : TxAt P w h a [] 0 :=
  ⟨_, #[], 0, _, ho, ⟨rfl, rfl, rfl⟩, rfl, ⟨fun e he => by simp at he, by simp, fun x => by simp, Nat.le_refl _, by decide, rfl, List.Pairwise.nil, by
    cases e : w.params.followText "set-order"
    · exact .inr rfl
    · exact .inl rfl⟩⟩
theorem strs_get : ∀ {us : List Value} {xs : List Str}, StrsAre us xs → ∀ (i : Nat) (v : Value), us[i]? = some v → ∃ x tk, xs[i]? = some x ∧ v = Value.str x tk
  | _, _, .nil, i, v, h => by simp at h
  | _, _, .cons x tk r, 0, v, h => by simp at h; exact ⟨x, tk, rfl, h.symm⟩
  | _, _, .cons x tk r, i + 1, v, h => by
    obtain ⟨y, t2, e1, e2⟩ := strs_get r i v (by simpa using h)
    exact ⟨y, t2, by simpa using e1, e2⟩
/-- set.__init__ of a list of texts -/
theorem tx_init {l : Addr} {its : Array Value} {xs : List Str} {s : Shared} {R : Shared → Prop} (hh : A.handled = none) (la : l ≠ a) (ho : s.heap.get? a = some (set0 w)) (hl : s.heap.IsList l its) (hi : StrsAre its.toList xs) (hb : xs.length < 99)
    (hR : ∀ h' tk L, TxAt P w h' a L xs.length → (∀ y, y ∈ L ↔ y ∈ xs) → (∀ b o, b ≠ a → s.heap.get? b = some o → h'.get? b = some o) → R { s with heap := h', toks := tk }) :
    codeAny (model P w) A (.call (.builtin "set.__init__") ⟨[.ref a, .ref l], []⟩) (wants (fun r s' => r = .none ∧ R s') E) s := by
  have hT : s.TypeIs (.ref a) "set" := ⟨_, ho, rfl⟩
  refine codeAny_call_builtin F.called_set.init.plain F.entry_set_init (check_set_init_1 hT ?_)
  have hl1 := hl
  obtain ⟨⟨c1, d1, x1, sl1⟩, hol, hc1, n1, hd1⟩ := hl
  simp only at hc1 hd1
  subst hc1 hd1
  have q1 := F.sub_list_set
  have q2 := F.sub_list_frozenset
  have q3 : (Value.type "list" == Value.type "dict") = false := by decide
  unfold Builtin.«set.__init__» noKeywords Builtin.Frozenset.updateFrom
  generalize hPI : pyIter = PI
  wp_walk
  subst hPI
  refine wpAny_pyIter_list hl1 (wpAny_bind (wpAny_runValue ?_))
  have la' := Heap.lt_size ho
  have ll' := Heap.lt_size hol
  have len : its.size = xs.length := by rw [← StrsAre.len_eq hi, Array.length_toList]
  refine tx_loop (a := a) ((Walks.list (A := A.in1.in1) (by simpa using hh) _ l (Nat.ne_of_lt ll') its).toS) ?_ xs len hb (fun i v hv => strs_get hi i v (by rw [Array.getElem?_toList]; exact hv)) (its.size - 0) 0 _ [] rfl (Nat.zero_le _)
    ?st ?t0 (fun y => by simp) fun s2 L mv T hL => ?_
  case st => exact ⟨⟨_, Heap.get?_push_size _ rfl, rfl, rfl⟩, hl1.push _⟩
  case t0 => exact tx_fresh (Heap.get?_push_of_some _ ho)
  · simp only [List.mem_cons, List.not_mem_nil, or_false, not_or]
    exact ⟨Nat.ne_of_lt la', Ne.symm la⟩
  · obtain ⟨h2, g2, dr2, tk2, os2⟩ := s2
    have eg : g2 = s.gens := mv.gens
    have ed : dr2 = s.drawn := mv.drawn
    have eo : os2 = s.os := mv.os
    subst eg ed eo
    refine wpAny_pure (wpAny_pure ⟨rfl, hR h2 tk2 L (by rw [← len]; exact T) hL fun b o hb' e => ?_⟩)
    refine mv.heap b o ?_ (Heap.get?_push_of_some _ e)
    simp only [List.mem_cons, List.not_mem_nil, or_false, not_or]
    exact ⟨hb', Nat.ne_of_lt (Heap.lt_size e)⟩
/-- set(l) -/
theorem call_setS {l : Addr} {its : Array Value} {xs : List Str} {Q : Value → Shared → Prop} (hh : A.handled = none) (hl : s.heap.IsList l its) (hi : StrsAre its.toList xs) (hb : xs.length < 99)
    (hQ : ∀ h' tk L, TxAt P w h' s.heap.objs.size L xs.length → (∀ y, y ∈ L ↔ y ∈ xs) → (∀ b o, s.heap.get? b = some o → h'.get? b = some o) → Q (.ref s.heap.objs.size) { s with heap := h', toks := tk }) :
    wpAny (model P w) A (call (.type "set") [.ref l]) Q E s := by
  obtain ⟨m1, m2, m3⟩ := F.called_set.mro
  have f1 := F.called_set.made
  have f2 := F.called_set.sub
  have f3 := F.called_set.notType
  have f4 := F.called_set.canCreate
  have f5 := F.typeCall_set_1 (.ref l)
  have f6 := F.called_set.init.lookup
  have f7 := F.called_set.init.bind (.ref s.heap.objs.size)
  refine wpAny_call (codeAny_of_tree (show wpAny _ _ (callAny (.type "set") _) _ _ _ from wpAny_pure ⟨Code.quiet_builtin _ (by decide +kernel), codeAny_builtin F.entry_type_call ?_⟩))
  rw [Around.under_plain (weight_type_call_type "set" [.ref l] []) rfl]
  repeat (any_goals (first | assumption | wp_step))
  refine codeAny_mono (code_set_led1 (.ref l) (E := E) (Q₁ := fun z s' => z = .ref s.heap.objs.size ∧ s' = { s with heap := s.heap.push (set0 w) }) ⟨rfl, rfl⟩) fun r s' hr => ?_
  rcases r with er | (_ | _ | _ | z)
  · exact hr
  · exact hr.elim
  · exact hr.elim
  · exact hr.elim
  obtain ⟨rfl, rfl⟩ := hr
  have ho : (s.heap.push (set0 w)).get? s.heap.objs.size = some (set0 w) := Heap.get?_push_size _ rfl
  have hT : Shared.TypeIs { s with heap := s.heap.push (set0 w) } (.ref s.heap.objs.size) "set" := ⟨_, ho, rfl⟩
  have ll : l < s.heap.objs.size := by obtain ⟨o, e, _⟩ := hl; exact Heap.lt_size e
  repeat (any_goals (first | assumption | wp_step))
  refine codeAny_mono (tx_init (E := E) (R := fun s' => Q (.ref s.heap.objs.size) s') (s := { s with heap := s.heap.push (set0 w) }) (by simpa using hh) (Nat.ne_of_lt ll) ho (hl.push _) hi hb fun h' tk L T hL keep => ?_) fun r s' hr => ?_
  · exact hQ h' tk L T hL fun b o e => keep b o (Nat.ne_of_lt (Heap.lt_size e)) (Heap.get?_push_of_some _ e)
  · rcases r with er | (_ | _ | _ | z)
    · exact hr
    · exact hr.elim
    · exact hr.elim
    · exact hr.elim
    obtain ⟨rfl, hq⟩ := hr
    repeat (any_goals (first | assumption | wp_step))
theorem strs_all : ∀ {l : List Value}, (∀ v ∈ l, ∃ x tk, v = Value.str x tk) → ∃ xs, StrsAre l xs ∧ xs = l.map fun v => match v with
    | .str x _ => x
    | _ => Str.empty
  | [], _ => ⟨[], .nil, rfl⟩
  | v :: l, h => by
    obtain ⟨x, tk, rfl⟩ := h v List.mem_cons_self
    obtain ⟨xs, h1, h2⟩ := strs_all (l := l) fun u hu => h u (List.mem_cons_of_mem _ hu)
    exact ⟨x :: xs, .cons x tk h1, by rw [h2]; rfl⟩
/-- sorted(a), a set of texts -/
theorem sorted_tx {Q : Value → Shared → Prop} (T : TxAt P w s.heap a L n) (hh : A.handled = none) (h64 : n < 64)
    (hQ : ∀ s' p out c ys, (∀ b o, s.heap.get? b = some o → s'.heap.get? b = some o) → s'.gens = s.gens → s'.os = s.os → s.heap.objs.size ≤ p → s'.heap.get? p = some (seqObj "list" out c) → StrsAre out.toList ys →
      ys.Nodup → (∀ y, y ∈ ys ↔ y ∈ L) → sortedS ys = true → ys.length ≤ n → Q (.ref p) s') : wpAny (model P w) A (call (.builtin "sorted") [.ref a]) Q E s := by
  obtain ⟨o, es, ep, t, ho, hx, hd, T⟩ := T
  refine Calls.call_function_entry kind_sorted plain_sorted entry_sorted (args_sorted1 _) ?_
  unfold Builtin.«sorted»
  refine wpAny_bind (m := checkCount "sorted" 1 1 _) (wpAny_pure (wpAny_bind (collect_set (A := A.in1) hh ⟨o, ho, hx.1, hd⟩ T.fit T.lt T.ris T.led fun s1 vs k1 z1 g1 o1 p1 => ?_)))
  obtain ⟨xs, hS, ex⟩ := strs_all (l := vs) fun v hv => by
    obtain ⟨e, he, rfl⟩ := List.mem_map.mp (p1.mem_iff.mp hv)
    obtain ⟨x, tk, rfl⟩ := T.one e he
    exact ⟨x, tk, rfl⟩
  have px : xs.Perm (es.toList.map txt) := by
    have q := p1.map fun v => match v with
      | Value.str x _ => x
      | _ => Str.empty
    rw [List.map_map] at q
    rw [ex]; exact q
  have lv : vs.length ≤ n := by rw [p1.length_eq, List.length_map, Array.length_toList]; exact T.few
  refine wpAny_bind (wpAny_newList ?_ (by rw [sizeLine_eq]; omega))
  have hoL : (s1.heap.push (seqObj "list" vs.toArray 0)).get? s1.heap.objs.size = some (seqObj "list" vs.toArray 0) := Heap.get?_push_size _ rfl
  refine wpAny_bind (wpAny_holding (wpAny_call_entry slot_list_sort ⟨_, hoL, rfl⟩ entry_list_sort (list_sort_treeK strKind_oneLt hoL hS.keysOf (fun v₁ v₂ rest e => keyKind_strs (by rw [← e]; exact hS)) (by omega) fun st' hp hs => ⟨_, rfl, ?_⟩) (args_list_sort _)))
  obtain ⟨ys, y1, y2, y3⟩ := sorted_out_str hS hp hs
  obtain ⟨c, hc⟩ := sortedHeap_at (vs := vs) (out := (arrOf st').map (·.2)) hoL
  have py := y2.trans px
  refine wpAny_pure ⟨_, rfl, hQ _ s1.heap.objs.size _ c ys (fun b u e => ?_) g1 o1 z1 hc y1 (py.nodup_iff.mpr T.nd) (fun y => by rw [py.mem_iff, T.mem y]) y3 (by rw [py.length_eq, List.length_map, Array.length_toList]; exact T.few)⟩
  have hlt := Heap.lt_size (k1 b u e)
  show (sortedHeap (s1.heap.push (seqObj "list" vs.toArray 0)) s1.heap.objs.size vs _).get? b = some u
  rw [sortedHeap_old (Nat.ne_of_lt hlt) (by rw [size_push']; exact Nat.lt_succ_of_lt hlt)]
  exact Heap.get?_push_of_some _ (k1 b u e)
end
end VLS

/-! VL: the rule of sorted(set(xs)). -/
namespace VL
open PySem PySem.Spec PyProof.Rows L2 VLS
def TxO (P : Program) (w : World) (a : Addr) (L : List Str) (n : Nat) : HO := .ext fun h => TxAt P w h a L n
section
variable {X : Cx}
theorem txO_new {P : Program} {w : World} {H : Hp} {h : Heap} {a : Addr} {L : List Str} {n : Nat} (T : TxAt P w h a L n) : ObjOk P w H h a (TxO P w a L n) := by
  have ⟨o, _, _, _, ho, _⟩ := T
  exact ⟨T, ⟨o, ho⟩, fun h1 h2 p k => TxAt.keep p k⟩
def rSetTx (K : PySem.W.Frag) (P : Program) (w : World) : List V → Hp → VK → Prop := fun xs H Q => ∃ (l : Addr) (zs : List Str), xs = [.ref l] ∧ SqL K H l (zs.map V.str) ∧ zs.length < 64 ∧ ∀ p L, H p = none → (∀ y, y ∈ L ↔ y ∈ zs) → Q (.ref p) (upd H p (TxO P w p L zs.length))
theorem cr_setTx (hc : X.calm = true) : CallR X (.type "set") (rSetTx X.K X.prog X.w) := by
  intro pins s σ H xs us Q I r h
  obtain ⟨l, zs, rfl, hs, hz, q⟩ := h
  obtain ⟨u, rfl, ru⟩ := vals1 r
  cases ru
  obtain ⟨its, rv, hl, _⟩ := I.list hs
  exact call_setS (I.ok.hd hc) hl.isList (by simpa using rv.strs) (by omega) fun h' tk L T hL keep => ⟨.ref _, _, I.laid (t' := tk) keep (Nat.le_refl _) (txO_new T), rfl, q _ L (I.hok.fresh (Nat.le_refl _)) hL⟩
def rSortTx (P : Program) (w : World) : List V → Hp → VK → Prop := fun xs H Q => ∃ (a : Addr) (L : List Str) (n : Nat), xs = [.ref a] ∧ H a = some (TxO P w a L n) ∧ n < 64 ∧
  ∀ (ys : List Str) (p : Addr), ys.Nodup → (∀ y, y ∈ ys ↔ y ∈ L) → sortedS ys = true → ys.length ≤ n → H p = none → Q (.ref p) (upd H p (.lst (ys.map V.str)))
theorem cr_sortTx (hc : X.calm = true) : CallR X (.builtin "sorted") (rSortTx X.prog X.w) := by
  intro pins s σ H xs us Q I r h
  obtain ⟨a, L, n, rfl, ha, hn, q⟩ := h
  obtain ⟨u, rfl, ru⟩ := vals1 r
  cases ru
  have T : TxAt X.prog X.w s.heap a L n := (I.hok a _ ha).1
  refine sorted_tx T (I.ok.hd hc) hn fun s' p out c ys k g o hp hg hS nd hm so hl => ?_
  have hH : H p = none := I.hok.fresh hp
  have hlen : (ys.map V.str).length ≤ sizeLine := by rw [List.length_map, sizeLine_eq]; omega
  have J : Inv X pins σ (upd H p (.lst (ys.map V.str))) { s with heap := s'.heap, gens := s'.gens, drawn := s'.drawn, toks := s'.toks } :=
    I.call (ch := []) (Un.laid k hp hH) (I.hok.laid k hp ⟨hlen, out.toList, c, vals_of_strs hS, hg⟩) (by rw [g]; exact I.bare) (fun _ z => nomatch z)
  have e : s' = { s with heap := s'.heap, gens := s'.gens, drawn := s'.drawn, toks := s'.toks } := by
    obtain ⟨a1, a2, a3, a4, a5⟩ := s'
    obtain ⟨b1, b2, b3, b4, b5⟩ := s
    cases o
    rfl
  rw [e]
  exact ⟨.ref p, _, J, rfl, q ys p nd hm so hl hH⟩
end
section
variable {X : Cx} {W : WX} {e : Expr} {te : TE} {de : TEd} {p p2 pos pos2 : Pos}
def dSortSet (de : TEd) : TEd := fun σ S Q E => de σ S (fun x S1 => match vw S1 x with
  | .lst ds => match strsD ds with
    | some zs => zs.length < 64 ∧ ∀ ys : List Str, ys.Nodup → (∀ y, y ∈ ys ↔ y ∈ zs) → sortedS ys = true → ys.length ≤ zs.length → Q (.lst (ys.map D.str)) S1
    | none => False
  | _ => False) E
@[simp ↓] theorem z_dSortSet {σ : Sd} {S : Sto} {Q : QD} {E : XD} : dSortSet de σ S Q E = de σ S (fun x S1 => match vw S1 x with
  | .lst ds => match strsD ds with
    | some zs => zs.length < 64 ∧ ∀ ys : List Str, ys.Nodup → (∀ y, y ∈ ys ↔ y ∈ zs) → sortedS ys = true → ys.length ≤ zs.length → Q (.lst (ys.map D.str)) S1
    | none => False
  | _ => False) E := rfl
theorem ve_sortSet (hc : X.calm = true) (hm : X.mg "sorted" = none) (hm2 : X.mg "set" = none) (he : VE X W e te de) (hg : Gl X "sorted" := by rfl) (hg2 : Gl X "set" := by rfl)
    (h1 : starEach [e] X.env = (false, eval e X.env) :: starEach [] X.env := by rfl) (h2 : (backTo pos2 (starEach [] X.env)).any (·.1) = false := by rfl)
    (h3 : starEach [Expr.Call (.Name "set" p2) [e] [] pos2] X.env = (false, eval (Expr.Call (.Name "set" p2) [e] [] pos2) X.env) :: starEach [] X.env := by rfl) (h4 : (backTo pos (starEach [] X.env)).any (·.1) = false := by rfl) :
    VE X W (.Call (.Name "sorted" p) [.Call (.Name "set" p2) [e] [] pos2] [] pos) (tCB (rSortTx X.prog X.w) (tCons (tCB (rSetTx X.K X.prog X.w) (tCons te tNil)) tNil)) (dSortSet de) := by
  refine ⟨pe_callB (cr_sortTx hc) hg hm (by decide +kernel) (pa_cons (pe_callTy (cr_setTx hc) hg2 hm2 (by decide +kernel) (pa_cons he.run pa_nil h1) (by decide) (by decide) h1 h2) pa_nil h3) (by decide) (by decide) h3 h4, fun {σV F H σ S Qd E Q} hs er h hq hx => ?_⟩
  refine he.snd hs er h (fun x H1 dx S1 g r h1 => ?_) hx
  split at h1
  · next ds eds =>
    split at h1
    · next zs ez =>
      obtain ⟨l, xs, rfl, hl, rx⟩ := see_lst g.hst r eds
      rw [strs_of ez] at rx
      have ex := reps_strs rx
      subst ex
      obtain ⟨hz, h1⟩ := h1
      refine ⟨l, zs, rfl, hl, hz, fun p1 L hp1 hL => ⟨p1, L, zs.length, rfl, upd_same, hz, fun ys p2 nd hm so hl2 hp2 => ?_⟩⟩
      have ga := good_new (u := TxO X.prog X.w p1 L zs.length) g.hst hp1
      have gb := good_new (u := .lst (ys.map V.str)) ga.hst hp2
      exact hq _ _ _ S1 ((g.trans ga).trans gb) (new_lst ga.hst hp2 (reps_of_strs ys)) (h1 ys nd (fun y => (hm y).trans (hL y)) so hl2)
    · cases h1
  · cases h1
end
end VL

/-! VL: repr of dicts of plain things and tuples. -/
namespace VL
open PySem PySem.Spec PyProof.Rows L2
mutual
def toT : D → Option PyData
  | .non => some .none
  | .bl b => some (.bool b)
  | .int i => some (.int i)
  | .str x => some (.str x)
  | .tup ds => (toTs ds).map .tuple
  | .lst _ => none
  | .dct _ => none
  | .ty _ => none
  | .ref _ => none
  | .exc _ _ _ _ => none
  | .ins _ _ => none
  | .dcs _ => none
def toTs : List D → Option (List PyData)
  | [] => some []
  | d :: ds => match toT d, toTs ds with
    | some p, some ps => some (p :: ps)
    | _, _ => none
end
def keyP : Key → PyData
  | .inl i => .int i
  | .inr x => .str x
def toTk : List (Key × D) → Option (List (PyData × PyData))
  | [] => some []
  | (k, d) :: r => match toT d, toTk r with
    | some p, some ps => some ((keyP k, p) :: ps)
    | _, _ => none
section
variable {X : Cx} {pins : List (Addr × Obj)} {σ : L2.St} {F H : Hp} {S : Sto} {s : Shared}
mutual
theorem reads_T (I : Inv X pins σ H s) : ∀ (d : D) {v : V} {u : Value} {p : PyData}, Rep X.K (mask F S H) v d → toT d = some p → RelV v u → Reads s.heap u p []
  | .non, v, u, p, r, e, ru => by cases r; rw [toT] at e; cases e; cases ru; exact .none
  | .bl b, v, u, p, r, e, ru => by cases r; rw [toT] at e; cases e; cases ru; exact .bool b
  | .int i, v, u, p, r, e, ru => by cases r; rw [toT] at e; cases e; obtain ⟨t, rfl⟩ := ru; exact .int i t
  | .str x, v, u, p, r, e, ru => by cases r; rw [toT] at e; cases e; obtain ⟨t, rfl⟩ := ru; exact .str x t
  | .tup ds, v, u, p, r, e, ru => by
    cases r with
    | tup h r =>
      rw [toT] at e
      obtain ⟨ps, e1, e2⟩ := Option.map_eq_some_iff.mp e
      subst e2
      cases ru
      obtain ⟨its, rv, ⟨o, ho, hc, n, hd⟩, _⟩ := I.tuple (same_t mask_le h)
      exact .tuple ho hc hd (reads_Ts I ds r e1 rv)
  | .lst _, v, u, p, r, e, ru => by rw [toT] at e; cases e
  | .dct _, v, u, p, r, e, ru => by rw [toT] at e; cases e
  | .ty _, v, u, p, r, e, ru => by rw [toT] at e; cases e
  | .ref _, v, u, p, r, e, ru => by rw [toT] at e; cases e
  | .exc _ _ _ _, v, u, p, r, e, ru => by rw [toT] at e; cases e
  | .ins _ _, v, u, p, r, e, ru => by rw [toT] at e; cases e
  | .dcs _, v, u, p, r, e, ru => by rw [toT] at e; cases e
theorem reads_Ts (I : Inv X pins σ H s) : ∀ (ds : List D) {vs : List V} {us : List Value} {ps : List PyData}, Reps X.K (mask F S H) vs ds → toTs ds = some ps → Vals vs us → ReadsAll s.heap us ps []
  | [], vs, us, ps, r, e, ru => by cases r; rw [toTs] at e; cases e; cases ru; exact .nil
  | d :: ds, vs, us, ps, r, e, ru => by
    cases r with
    | cons h r =>
      cases ru with
      | cons hu ru =>
        rw [toTs] at e
        cases e1 : toT d with
        | none => rw [e1] at e; cases e
        | some p =>
          cases e2 : toTs ds with
          | none => rw [e1, e2] at e; cases e
          | some qs =>
            rw [e1, e2] at e
            cases e
            exact .cons (as := []) (bs := []) (reads_T I d h e1 hu) (reads_Ts I ds r e2 ru)
end
theorem reads_Tk (I : Inv X pins σ H s) : ∀ (kds : List (Key × D)) {kvs : List (Key × V)} {vs : List (Key × Value)} {es : List DictEntry} {ps : List (PyData × PyData)}, RepK X.K (mask F S H) kvs kds → toTk kds = some ps → KV kvs vs → Pairs (mixKind X.prog X.w) es vs →
    ReadsAll s.heap (es.map (·.key)) (ps.map (·.1)) [] ∧ ReadsAll s.heap (es.map (·.val)) (ps.map (·.2)) []
  | [], kvs, vs, es, ps, r, e, rk, pr => by
    cases r
    rw [toTk] at e; cases e
    cases rk
    cases pr
    exact ⟨.nil, .nil⟩
  | (k, d) :: kds, kvs, vs, es, ps, r, e, rk, pr => by
    cases r with
    | cons h r =>
      rw [toTk] at e
      cases e1 : toT d with
      | none => rw [e1] at e; cases e
      | some p =>
        cases e2 : toTk kds with
        | none => rw [e1, e2] at e; cases e
        | some qs =>
          rw [e1, e2] at e
          cases e
          unfold KV at rk
          cases rk with
          | cons hk rk =>
            obtain ⟨hk1, hk2⟩ := hk
            cases pr with
            | cons p1 p2 p3 =>
              have ih := reads_Tk I kds r e2 (show KV _ _ from rk) p3
              refine ⟨?_, ?_⟩
              · refine .cons (as := []) (bs := []) ?_ ih.1
                dsimp only at hk1
                subst hk1
                rcases keyIs_shape (show keyIs _ _ = true from p1) with ⟨i, t, ek, ev⟩ | ⟨x, t, ek, ev⟩
                · dsimp only; rw [ek, ev]; exact .int i t
                · dsimp only; rw [ek, ev]; exact .str x t
              · refine .cons (as := []) (bs := []) ?_ ih.2
                dsimp only at hk2 ⊢
                rw [p2]
                exact reads_T I d h e1 hk2
end
def rReprK (K : PySem.W.Frag) : List V → Hp → VK → Prop := fun xs H Q => rRepr K xs H Q ∨ ∃ (a : Addr) (kvs : List (Key × V)) (F : Hp) (S : Sto) (kds : List (Key × D)) (ps : List (PyData × PyData)), xs = [.ref a] ∧ Rd H a (.dK kvs) ∧ RepK K (mask F S H) kvs kds ∧ toTk kds = some ps ∧
  (PyData.dict ps).showable = true ∧ (PyData.dict ps).depth ≤ 64 ∧ (PyData.dict ps).shown.length ≤ sizeLine ∧ Q (.str (PyData.dict ps).shown) H
def dReprK : RCd := fun ds S Q => match ds with
  | [x] => match vw S x with
    | .dct kds => match toTk kds with
      | some ps => (PyData.dict ps).showable = true ∧ (PyData.dict ps).depth ≤ 64 ∧ (PyData.dict ps).shown.length ≤ sizeLine ∧ Q (.str (PyData.dict ps).shown) S
      | none => False
    | _ => dRepr ds S Q
  | _ => False
theorem z_dReprK {ds : List D} {S : Sto} {Q : QD} : dReprK ds S Q = (match ds with
  | [x] => match vw S x with
    | .dct kds => match toTk kds with
      | some ps => (PyData.dict ps).showable = true ∧ (PyData.dict ps).depth ≤ 64 ∧ (PyData.dict ps).shown.length ≤ sizeLine ∧ Q (.str (PyData.dict ps).shown) S
      | none => False
    | _ => dRepr ds S Q
  | _ => False) := rfl
section
variable {X : Cx}
theorem call_reprK (hgd : X.A.guards = some []) (hu : X.A.units + 66 < cLine) : CallR X (.builtin "repr") (rReprK X.K) := fun pins s σ H xs us Q I r h => by
  rcases h with h | ⟨a, kvs, F, S, kds, ps, rfl, hd, rk, ek, h1, h2, h3, q⟩
  · exact call_reprD hgd hu pins s σ H xs us Q I r h
  · obtain ⟨u, rfl, ru⟩ := vals1 r
    cases ru
    obtain ⟨z, lo, vs, rel, o, es, ep, g1, g2, g3, g4, g5, g6⟩ := dk_rd I.hok hd
    obtain ⟨r1, r2⟩ := reads_Tk I kds rk ek rel g5
    have rd : Reads s.heap (.ref a) (.dict ps) (a :: [] ++ []) := Reads.dict g1 g2.1 g3 (by simpa using r1) (by simpa using r2)
    refine repr_of_reads' rd h1 (fun _ hm => ?_) hgd (by omega) (fun _ _ e => e) (fun h' u tk hk => ⟨.str _, H, I.kept (t' := tk) hk, ⟨u, rfl⟩, q⟩) h3
    simp at hm
    subst hm
    simp at lo
theorem snd_reprK : SndC X.K (rReprK X.K) dReprK := fun {xs ds F H S Qd Q} hs r h hq => by
  unfold dReprK at h; split at h
  · next x =>
    split at h
    · next kds e =>
      split at h
      · next ps ep =>
        cases r with
        | cons r1 r2 =>
          cases r2
          obtain ⟨a, kvs, rfl, ha, rk⟩ := see_dct hs r1 e
          exact .inr ⟨a, kvs, F, S, kds, ps, rfl, ha, rk, ep, h.1, h.2.1, h.2.2.1, hq _ H _ S (.refl hs) (.str _) h.2.2.2⟩
      · cases h
    · exact .inl (snd_repr hs r h hq)
  · cases h
end
end VL

/-! VL: l.pop(i). -/
namespace VL
open PySem PySem.Spec PyProof.Rows L2
section
variable {X : Cx} {W : WX} {o e1 : Expr} {to : TE} {d0 : TEd} {pos : Pos}
def dPopAt (d0 : TEd) (da : TAd) : TEd := fun σ S Q E => d0 σ S (fun x S1 => match x with
  | .ref p => (∃ es, S1 p = some (.lst es)) ∧ da σ S1 (fun vs S2 => match vs with
    | [.int i] => match S2 p with
      | some (.lst ds) => 0 ≤ i ∧ i < 2 ^ 62 ∧ (match ds[i.toNat]? with
        | some d => Q d (put S2 p (.lst (ds.eraseIdx i.toNat)))
        | none => False)
      | _ => False
    | _ => False) E
  | _ => False) E
@[simp ↓] theorem z_dPopAt {da : TAd} {σ : Sd} {S : Sto} {Q : QD} {E : XD} : dPopAt d0 da σ S Q E = d0 σ S (fun x S1 => match x with
  | .ref p => (∃ es, S1 p = some (.lst es)) ∧ da σ S1 (fun vs S2 => match vs with
    | [.int i] => match S2 p with
      | some (.lst ds) => 0 ≤ i ∧ i < 2 ^ 62 ∧ (match ds[i.toNat]? with
        | some d => Q d (put S2 p (.lst (ds.eraseIdx i.toNat)))
        | none => False)
      | _ => False
    | _ => False) E
  | _ => False) E := rfl
theorem seq_ix {i : Int} {n : Nat} (h0 : 0 ≤ i) (h1 : i.toNat < n) : seqIndex? i n = some i.toNat := by
  unfold seqIndex?
  have : i < (n : Int) := by omega
  have h2 : ¬ i < 0 := by omega
  simp [h0, h2, this]
theorem snd_popAt {ta1 : TA} {da1 : TAd} (ho : Snd X.K W to d0) (ha : SndA X.K W ta1 da1) : Snd X.K W (tBM X.K "list" rPopAt to ta1) (dPopAt d0 da1) := fun {σV F H σ S Qd E Q} hs er h hq hx =>
  ho hs er h (fun x H1 dx S1 g1 r1 h1 => by
    split at h1
    · next p =>
      cases r1
      obtain ⟨⟨es, he⟩, h1⟩ := h1
      obtain ⟨xs1, e1, _⟩ := g1.hst.at_ p _ he
      refine ⟨.inl ⟨rfl, xs1, SqL.of e1⟩, ha g1.hst (er.mono g1.same) h1 (fun vs H2 ds2 S2 g2 r2 h2 => ?_) (hx.next g1)⟩
      split at h2
      · next i =>
        cases r2 with
        | cons r2 r3 =>
          cases r3
          cases r2
          split at h2
          · next ds e2 =>
            obtain ⟨h0, hi, h2⟩ := h2
            split at h2
            · next d ed =>
              obtain ⟨xs, e3, q1⟩ := g2.hst.at_ p _ e2
              obtain ⟨v, ev, rv⟩ := q1.get ed
              have hl : i.toNat < xs.length := (List.getElem?_eq_some_iff.mp ev).1
              have gc : Good X.K F H2 S2 (upd H2 p (.lst (xs.eraseIdx i.toNat))) (put S2 p (.lst (ds.eraseIdx i.toNat))) := ⟨hst_chg g2.hst e2 (ook_lst (q1.eraseIdx _)), by rw [mask_chg e2]; exact Same.refl _⟩
              exact ⟨p, xs, i, i.toNat, v, rfl, rfl, e3, by omega, by omega, seq_ix h0 hl, ev, hq _ _ _ _ ((g1.trans g2).trans gc) (rv.mono gc.same) h2⟩
            · cases h2
          · cases h2
      · cases h2
    · cases h1) hx
theorem ve_popAt {apos : Pos} {ta1 : TA} {da1 : TAd} (ho : VE X W o to d0) (ha : VA X W [e1] ta1 da1) (hbase : attributeBase o "pop" X.env (eval o X.env) = eval o X.env := by rfl)
    (hfew : ((backTo pos (starEach [e1] X.env)).all (fun x => !x.1) && (backToKw pos (keywordEach [] X.env)).all (fun x => x.1.isSome)
      && decide ([e1].length + ([] : List Keyword).length + (if ([] : List Keyword).isEmpty then 0 else 1) < 30)) = true := by rfl)
    (hline : (apos.endLine == pos.line) = true := by rfl) (hs : starEach [e1] X.env = (false, eval e1 X.env) :: starEach [] X.env := by rfl) (hpl : (backTo pos (starEach [] X.env)).any (·.1) = false := by rfl) :
    VE X W (.Call (.Attribute o "pop" apos) [e1] [] pos) (tBM X.K "list" rPopAt to ta1) (dPopAt d0 da1) :=
  ⟨pe_bm PySem.F.plainAttrs_list PySem.F.slot_list_pop PySem.F.type_list_pop mt_popAt ho.run ha.run hbase hfew hline hs hpl, snd_popAt ho.snd ha.snd⟩
end
end VL

/-! VL: x is False, x a truth or None. -/
namespace VL
open PySem PySem.Spec PyProof.Rows L2
section
variable {X : Cx} {W : WX} {a b : Expr} {ta tb : TE} {da db : TEd} {pos : Pos}
def rIsBn (g : Bool → Bool) : R2 := fun x y H Q => ∃ b, y = .bl b ∧ ((x = .non ∧ Q (.bl (g false)) H) ∨ ∃ a, x = .bl a ∧ Q (.bl (g (decide (a = b)))) H)
theorem op_isBn : OpR X (compareOp .Is) (rIsBn id) := by
  intro pins s σ H x y v u Q I rx ry h
  obtain ⟨b, rfl, ⟨rfl, q⟩ | ⟨a, rfl, q⟩⟩ := h
  · cases rx; cases ry
    show wpAny _ _ ((isSame .none (.bool b)) >>= fun z => pure (Value.bool z)) _ _ s
    exact wpAny_pure (fin_bl I q rfl)
  · exact op_is_bl pins s σ H _ _ v u Q I rx ry ⟨a, b, rfl, rfl, q⟩
theorem op_isnotBn : OpR X (compareOp .IsNot) (rIsBn (!·)) := by
  intro pins s σ H x y v u Q I rx ry h
  obtain ⟨b, rfl, ⟨rfl, q⟩ | ⟨a, rfl, q⟩⟩ := h
  · cases rx; cases ry
    show wpAny _ _ ((isSame .none (.bool b)) >>= fun z => pure (Value.bool (!z))) _ _ s
    exact wpAny_pure (fin_bl I q rfl)
  · exact op_isnot_bl pins s σ H _ _ v u Q I rx ry ⟨a, b, rfl, rfl, q⟩
def dIsB (g : Bool → Bool) : R2d := fun x y S Q => match y with
  | .bl j => match x with
    | .non => Q (.bl (g false)) S
    | .bl i => Q (.bl (g (decide (i = j)))) S
    | _ => False
  | _ => False
@[simp ↓] theorem z_dIsB {g : Bool → Bool} {x y : D} {S : Sto} {Q : QD} : dIsB g x y S Q = (match y with
  | .bl j => match x with
    | .non => Q (.bl (g false)) S
    | .bl i => Q (.bl (g (decide (i = j)))) S
    | _ => False
  | _ => False) := rfl
theorem snd_isB {g : Bool → Bool} : Snd2 X.K (rIsBn g) (dIsB g) := fun {x y dx dy F H S Qd Q} hs rx ry h hq => by
  unfold dIsB at h
  split at h
  · cases ry
    split at h
    · cases rx; exact ⟨_, rfl, .inl ⟨rfl, hq _ H _ S (.refl hs) (.bl _) h⟩⟩
    · cases rx; exact ⟨_, rfl, .inr ⟨_, rfl, hq _ H _ S (.refl hs) (.bl _) h⟩⟩
    · cases h
  · cases h
theorem ve_isB (ha : VE X W a ta da) (hb : VE X W b tb db) : VE X W (.Compare a [.Is] [b] pos) (tOp (rIsBn id) ta tb) (dOp (dIsB id) da db) := ve_cmp op_isBn snd_isB ha hb (nomark _)
theorem vt_isB (ha : VE X W a ta da) (hb : VE X W b tb db) : VT X W (.Compare a [.Is] [b] pos) (tTest (tOp (rIsBn id) ta tb)) (dTest (dOp (dIsB id) da db)) := vt_cmp op_isBn snd_isB ha hb (nomark _)
end
end VL

/-! VL: by hand: small steps with an opaque wish, lists, sizes. -/
namespace VL
open PySem PySem.Spec PyProof.Rows L2
/-! ### steps -/
section
variable {de da db : TEd} {dr : TAd} {gd : TGd} {tb t u : TSd} {c : TTd} {Z : EndsD} {σ : Sd} {S : Sto} {Q : QD} {E : XD}
theorem ev_asg (d : D) (h1 : ∀ Q' : QD, Q' d S → de σ S Q' (Z.ex σ)) (h2 : gd d σ S Z.nx) : dAsg de gd Z σ S := h1 _ h2
theorem ev_drop (d : D) (h1 : ∀ Q' : QD, Q' d S → de σ S Q' (Z.ex σ)) (h2 : Z.nx σ S) : dDrop de Z σ S := h1 _ h2
theorem ev_ret (d : D) (h1 : ∀ Q' : QD, Q' d S → de σ S Q' (Z.ex σ)) (h2 : Z.rt d S) : dRet de Z σ S := h1 _ h2
theorem ev_if (b : Bool) (h1 : ∀ Q' : Bool → Sto → Prop, Q' b S → c σ S Q' (Z.ex σ)) (h2 : if b = true then t Z σ S else u Z σ S) : dIf c t u Z σ S := h1 _ h2
theorem ev_if1 (h1 : ∀ Q' : Bool → Sto → Prop, Q' true S → c σ S Q' (Z.ex σ)) (h2 : t Z σ S) : dIf c t u Z σ S := h1 _ h2
theorem ev_if0 (h1 : ∀ Q' : Bool → Sto → Prop, Q' false S → c σ S Q' (Z.ex σ)) (h2 : u Z σ S) : dIf c t u Z σ S := h1 _ h2
theorem ev_op {rd : R2d} (x y : D) (h1 : ∀ Q' : QD, Q' x S → da σ S Q' E) (h2 : ∀ Q' : QD, Q' y S → db σ S Q' E) (h3 : rd x y S Q) : dOp rd da db σ S Q E := h1 _ (h2 _ h3)
theorem ev_lst {da : TAd} (ds : List D) (h1 : ∀ Q' : List D → Sto → Prop, Q' ds S → da σ S Q' E) (hl : ds.length ≤ sizeLine) (h2 : Q (.lst ds) S) : dLst da σ S Q E := h1 _ ⟨hl, h2⟩
theorem ev_tup {da : TAd} (ds : List D) (h1 : ∀ Q' : List D → Sto → Prop, Q' ds S → da σ S Q' E) (hl : ds.length ≤ sizeLine) (h2 : Q (.tup ds) S) : dTup da σ S Q E := h1 _ ⟨hl, h2⟩
theorem ev_cons {Q : List D → Sto → Prop} (d : D) (ds : List D) (h1 : ∀ Q' : QD, Q' d S → de σ S Q' E) (h2 : ∀ Q' : List D → Sto → Prop, Q' ds S → dr σ S Q' E) (h3 : Q (d :: ds) S) : dCons de dr σ S Q E := h1 _ (h2 _ h3)
theorem ev_call {spd : Spd} {da : TAd} {dds : List D} (ds : List D) (h1 : ∀ Q' : List D → Sto → Prop, Q' ds S → da σ S Q' E) (h2 : spd (ds ++ dds) S Q E) : dCall spd dds da σ S Q E := h1 _ h2
theorem for_cons {d : D} {ds : List D} : dForL gd tb Z (d :: ds) σ S = gd d σ S fun σ1 S1 => tb { Z with nx := dForL gd tb Z ds, ct := dForL gd tb Z ds, bk := Z.nx } σ1 S1 := rfl
theorem for_nil : dForL gd tb Z [] σ S = Z.nx σ S := rfl
end
/-! ### sizes -/
theorem sz {n : Nat} (h : n ≤ 1000000) : n ≤ sizeLine := by rw [sizeLine_eq]; omega
theorem szl {n : Nat} (h : n < 1000000) : n < sizeLine := by rw [sizeLine_eq]; omega
theorem sz0 : (0 : Nat) ≤ sizeLine := Nat.zero_le _
theorem sz1 : (1 : Nat) ≤ sizeLine := sz (by decide)
theorem sz2 : (2 : Nat) ≤ sizeLine := sz (by decide)
theorem sz3 : (3 : Nat) ≤ sizeLine := sz (by decide)
theorem sz4 : (4 : Nat) ≤ sizeLine := sz (by decide)
theorem sz5 : (5 : Nat) ≤ sizeLine := sz (by decide)
theorem sz6 : (6 : Nat) ≤ sizeLine := sz (by decide)
theorem sz7 : (7 : Nat) ≤ sizeLine := sz (by decide)
theorem sz8 : (8 : Nat) ≤ sizeLine := sz (by decide)
theorem mulW {i j : Int} (hi : i.natAbs < 2 ^ 200) (hj : j.natAbs < 2 ^ 200) : CMulW i j := by
  have key : ∀ x : Int, x.natAbs < 2 ^ 200 → x.natAbs.log2 < 200 := by
    intro x hx
    by_cases z : x.natAbs = 0
    · rw [z]; decide
    · exact (Nat.log2_lt z).mpr hx
  have h1 := key i hi
  have h2 := key j hj
  show i.natAbs.log2 + j.natAbs.log2 < 1000000
  omega
theorem lt_big {n : Nat} (h : n < 2 ^ 64) : n < 2 ^ 200 := Nat.lt_trans h (by decide)
/-! ### lists -/
theorem fm_some {α β : Type} (f : α → β) (l : List α) : (l.filterMap fun x => some (f x)) = l.map f := by
  induction l with
  | nil => rfl
  | cons a l ih => simp [ih]
theorem fm_if {α β : Type} (p : α → Bool) (f : α → β) (l : List α) : (l.filterMap fun x => if p x = true then some (f x) else none) = (l.filter p).map f := by
  induction l with
  | nil => rfl
  | cons a l ih =>
    rw [List.filterMap_cons, List.filter_cons]
    cases p a <;> simp [ih]
theorem bools_true {α : Type} (l : List α) : bools (l.map fun _ => D.bl true) = some (l.map fun _ => true) := by
  induction l with
  | nil => rfl
  | cons a l ih => rw [List.map_cons, bools, ih]; rfl
theorem all_true {α : Type} (l : List α) : (l.map fun _ => true).all id = true := by
  induction l with
  | nil => rfl
  | cons a l ih => rw [List.map_cons, List.all_cons, ih]; rfl
theorem lcL_map {α : Type} {gd : TGd} {dt : TTd} {de : TEd} {σ0 : Sd} {Q : List D → Sto → Prop} {S : Sto} (g : α → D) (f : α → Option D) (l : List α) (acc : List D) (st : ∀ x ∈ l, ∀ R : Option D → Sto → Prop, R (f x) S → oneD gd dt de σ0 (g x) S R)
    (h : Q (acc ++ l.filterMap f) S) : dLcL gd dt de σ0 Q (l.map g) acc S := by
  induction l generalizing acc with
  | nil => simpa [dLcL] using h
  | cons x l ih =>
    have z := st x (List.mem_cons_self ..) (fun o S' => match o with
      | some y => dLcL gd dt de σ0 Q (l.map g) (acc ++ [y]) S'
      | none => dLcL gd dt de σ0 Q (l.map g) acc S')
    refine z ?_
    have st' : ∀ x ∈ l, ∀ R : Option D → Sto → Prop, R (f x) S → oneD gd dt de σ0 (g x) S R := fun x hx => st x (List.mem_cons_of_mem _ hx)
    rw [List.filterMap_cons] at h
    cases e : f x with
    | none => rw [e] at h; exact ih acc st' h
    | some y => rw [e] at h; exact ih (acc ++ [y]) st' (by rw [List.append_assoc]; exact h)
/-- every item gives one -/
theorem lc_all {α : Type} {gd : TGd} {dt : TTd} {de : TEd} {σ0 : Sd} {Q : List D → Sto → Prop} {S : Sto} (g f : α → D) (l : List α) (st : ∀ x ∈ l, ∀ R : Option D → Sto → Prop, R (some (f x)) S → oneD gd dt de σ0 (g x) S R) (h : Q (l.map f) S) : dLcL gd dt de σ0 Q (l.map g) [] S :=
  lcL_map g (fun x => some (f x)) l [] st (by rw [List.nil_append, fm_some]; exact h)
/-- those that hold -/
theorem lc_those {α : Type} {gd : TGd} {dt : TTd} {de : TEd} {σ0 : Sd} {Q : List D → Sto → Prop} {S : Sto} (p : α → Bool) (g f : α → D) (l : List α) (st : ∀ x ∈ l, ∀ R : Option D → Sto → Prop, R (if p x = true then some (f x) else none) S → oneD gd dt de σ0 (g x) S R) (h : Q ((l.filter p).map f) S) : dLcL gd dt de σ0 Q (l.map g) [] S :=
  lcL_map g (fun x => if p x = true then some (f x) else none) l [] st (by rw [List.nil_append, fm_if]; exact h)
theorem lcRL_map {α : Type} {P : Sto → Prop} {gd : TGd} {dt : TTd} {de : TEd} {σ0 : Sd} {Q : List D → Sto → Prop} {S : Sto} (hP : P S) (g : α → D) (f : α → Option D) : ∀ (l : List α) (acc : List D), (∀ x ∈ l, ∀ R : Option D → Sto → Prop, R (f x) S → oneD gd dt de σ0 (g x) S R) → Q (acc ++ l.filterMap f) S → dLcRL P gd dt de σ0 Q (l.map g) acc S
  | [], acc, _, h => ⟨hP, by simpa using h⟩
  | x :: l, acc, st, h => by
    refine ⟨hP, ?_⟩
    have z := st x (List.mem_cons_self ..) (fun o S' => match o with
      | some y => dLcRL P gd dt de σ0 Q (l.map g) (acc ++ [y]) S'
      | none => dLcRL P gd dt de σ0 Q (l.map g) acc S')
    refine z ?_
    rw [List.filterMap_cons] at h
    have st' := fun x hx => st x (List.mem_cons_of_mem _ hx)
    cases e : f x with
    | none => rw [e] at h; exact lcRL_map hP g f l acc st' h
    | some y => rw [e] at h; exact lcRL_map hP g f l (acc ++ [y]) st' (by rw [List.append_assoc]; exact h)
/-- a comprehension whose items change the store: f tells what is gathered -/
theorem lc_step {gd : TGd} {dt : TTd} {de : TEd} {σ0 : Sd} {Q : List D → Sto → Prop} {d : D} {ds acc : List D} {S : Sto} (h : oneD gd dt de σ0 d S fun o S' => match o with
    | some y => dLcL gd dt de σ0 Q ds (acc ++ [y]) S'
    | none => dLcL gd dt de σ0 Q ds acc S') : dLcL gd dt de σ0 Q (d :: ds) acc S := h
theorem lc_nil {gd : TGd} {dt : TTd} {de : TEd} {σ0 : Sd} {Q : List D → Sto → Prop} {acc : List D} {S : Sto} (h : Q acc S) : dLcL gd dt de σ0 Q [] acc S := h
theorem pick {l : List D} {d : Int} (P : D → Prop) (h0 : 0 ≤ d) (h1 : d < l.length) (hP : ∀ y ∈ l, P y) : ∃ y, atI l d = some y ∧ P y := by
  refine ⟨l[d.toNat]'(by omega), ?_, hP _ (List.getElem_mem _)⟩
  unfold atI ixN
  rw [if_pos h0, if_pos h1]
  simp
theorem at_n {ds : List D} {k : Nat} {d : D} (h : ds[k]? = some d) : atI ds (k : Int) = some d := by
  have := (List.getElem?_eq_some_iff.mp h).1
  unfold atI ixN
  rw [if_pos (by omega), if_pos (by omega)]
  simp [h]
theorem at_map {α : Type} {l : List α} {g : α → D} {i : Int} (h0 : 0 ≤ i) (h1 : i < l.length) : ∃ x, l[i.toNat]? = some x ∧ atI (l.map g) i = some (g x) := by
  have hl : i.toNat < l.length := by omega
  refine ⟨l[i.toNat], List.getElem?_eq_getElem hl, ?_⟩
  have := at_n (ds := l.map g) (k := i.toNat) (d := g l[i.toNat]) (by rw [List.getElem?_map, List.getElem?_eq_getElem hl]; rfl)
  rw [show ((i.toNat : Nat) : Int) = i by omega] at this
  exact this
theorem rangeD_map (lo : Int) (n : Nat) : rangeD lo n = (List.range n).map fun (i : Nat) => D.int (lo + (i : Int)) := rfl
/-! ### the store -/
theorem put_at {S : Sto} {a b : Addr} {o : O} : put S a o b = if b = a then some o else S b := rfl
theorem put_era {S : Sto} {a : Addr} {o : O} (h : S a = some o) : put (era S a) a o = S := by
  funext b
  unfold put era
  by_cases e : b = a
  · rw [if_pos e, e, h]
  · rw [if_neg e, if_neg e]
theorem era_at {S : Sto} {a : Addr} : era S a a = none := if_pos rfl
theorem era_ne {S : Sto} {a b : Addr} (h : b ≠ a) : era S a b = S b := if_neg h
theorem mem_ne {S : Sto} {a p : Addr} {o : O} (h : S a = some o) (hp : S p = none) : a ≠ p := fun e => by rw [e, hp] at h; cases h
end VL

/-! VL: dict(d), dict(pairs); == of dicts; x in l, its items data of any depth. -/
namespace VL
open PySem PySem.Spec PyProof.Rows L2
/-! ### dict(x) -/
/-- pairs (key, value) -/
def pairsD : List D → Option (List (Key × D))
  | [] => some []
  | .tup [k, d] :: r => match keyD k, pairsD r with
    | some k, some r => some ((k, d) :: r)
    | _, _ => none
  | _ :: _ => none
def mergeKD (kds more : List (Key × D)) : List (Key × D) := more.foldl (fun acc kv => putKD acc kv.1 kv.2) kds
section
variable {K : PySem.W.Frag} {M : Hp}
theorem keyV_of {v : V} {d : D} {k : Key} (r : Rep K M v d) (e : keyD d = some k) : v = kV k := by
  cases d with
  | int i => cases e; cases r; rfl
  | str i => cases e; cases r; rfl
  | _ => cases e
theorem repK_merge : ∀ {more : List (Key × V)} {moreD : List (Key × D)}, RepK K M more moreD → ∀ {kvs : List (Key × V)} {kds : List (Key × D)}, RepK K M kvs kds → RepK K M (mergeK kvs more) (mergeKD kds moreD)
  | _, _, .nil, _, _, r => r
  | _, _, .cons h t, _, _, r => repK_merge t (repK_put h r)
/-- pairs as they stand -/
theorem pairs_rep {F H : Hp} {S : Sto} : ∀ {ds : List D} {xs : List V} {kds : List (Key × D)}, Reps K (mask F S H) xs ds → pairsD ds = some kds → ∃ (ps : List Addr) (kvs : List (Key × V)), xs = ps.map V.ref ∧ Paired (fun p kv => SqT K H p [kV kv.1, kv.2]) ps kvs ∧ RepK K (mask F S H) kvs kds
  | [], _, kds, r, e => by cases r; cases e; exact ⟨[], [], rfl, .nil, .nil⟩
  | d :: ds, xs, kds, r, e => by
    cases r with
    | cons h r =>
      cases d with
      | tup es =>
        match es, h, e with
        | [k, d], h, e =>
          rw [pairsD] at e
          split at e
          · next k' r' ek er =>
            cases e
            obtain ⟨ps, kvs, rfl, pp, rk⟩ := pairs_rep r er
            cases h with
            | tup hq hr =>
              cases hr with
              | cons h1 hr =>
                cases hr with
                | cons h2 hr =>
                  cases hr
                  have e1 := keyV_of h1 ek
                  subst e1
                  exact ⟨_ :: ps, (k', _) :: kvs, rfl, .cons (st_up hq) pp, .cons h2 rk⟩
          · cases e
        | [], h, e => cases e
        | [_], h, e => cases e
        | _ :: _ :: _ :: _, h, e => cases e
      | _ => cases e
end
section
variable {X : Cx}
def rDictD : List V → Hp → VK → Prop := fun xs H Q => ∃ (a : Addr) (kvs : List (Key × V)), xs = [.ref a] ∧ Rd H a (.dK kvs) ∧ ∀ p, H p = none → Q (.ref p) (upd H p (.dK kvs))
def rDictP (K : PySem.W.Frag) : List V → Hp → VK → Prop := fun xs H Q => ∃ (a : Addr) (ps : List Addr) (kvs : List (Key × V)), xs = [.ref a] ∧ SqL K H a (ps.map V.ref) ∧ Paired (fun p kv => SqT K H p [kV kv.1, kv.2]) ps kvs ∧ ∀ p, H p = none → Q (.ref p) (upd H p (.dK (mergeK [] kvs)))
theorem call_dictA (hc : X.calm = true) : CallR X (.type "dict") (c2 rDictD (rDictP X.K)) := CallR.or call_dictD (call_dictP hc)
def dictV (S : Sto) (x : D) : Option (List (Key × D)) := match vw S x with
  | .dct kds => some kds
  | .lst ds => (pairsD ds).map (mergeKD [])
  | _ => none
def dDictOf : RCd := fun ds S Q => match ds with
  | [x] => match dictV S x with
    | some kds => Q (.dct kds) S
    | none => False
  | _ => False
def dDictOfM : RCd := fun ds S Q => match ds with
  | [x] => match dictV S x with
    | some kds => ∀ p, S p = none → Q (.ref p) (put S p (.dct kds))
    | none => False
  | _ => False
@[simp ↓] theorem z_dDictOf {ds : List D} {S : Sto} {Q : QD} : dDictOf ds S Q = (match ds with
  | [x] => match dictV S x with
    | some kds => Q (.dct kds) S
    | none => False
  | _ => False) := rfl
@[simp ↓] theorem z_dDictOfM {ds : List D} {S : Sto} {Q : QD} : dDictOfM ds S Q = (match ds with
  | [x] => match dictV S x with
    | some kds => ∀ p, S p = none → Q (.ref p) (put S p (.dct kds))
    | none => False
  | _ => False) := rfl
theorem dict_core {F H : Hp} {S : Sto} {v : V} {x : D} {kds : List (Key × D)} {Q : VK} (hs : HSt X.K F H S) (r : Rep X.K (mask F S H) v x) (e : dictV S x = some kds) (h : ∀ kvs p, H p = none → RepK X.K (mask F S H) kvs kds → Q (.ref p) (upd H p (.dK kvs))) : c2 rDictD (rDictP X.K) [v] H Q := by
  unfold dictV at e
  split at e
  · next k ek =>
    cases e
    obtain ⟨a, kvs, rfl, ha, rk⟩ := see_dct hs r ek
    exact .inl ⟨a, kvs, rfl, ha, fun p hp => h kvs p hp rk⟩
  · next ds ek =>
    obtain ⟨k, e1, rfl⟩ := Option.map_eq_some_iff.mp e
    obtain ⟨a, xs, rfl, hq, rx⟩ := see_lst hs r ek
    obtain ⟨ps, kvs, rfl, pp, rk⟩ := pairs_rep rx e1
    exact .inr ⟨a, ps, kvs, rfl, hq, pp, fun p hp => h _ p hp (repK_merge rk .nil)⟩
  · cases e
theorem snd_dictOf : SndC X.K (c2 rDictD (rDictP X.K)) dDictOf := fun {xs ds F H S Qd Q} hs r h hq => by
  unfold dDictOf at h; split at h
  · next x =>
    split at h
    · next kds e =>
      cases r with
      | cons r1 r2 =>
        cases r2
        exact dict_core hs r1 e fun kvs p hp rk => hq _ _ _ S (good_new hs hp) (new_dct hs hp rk) h
    · cases h
  · cases h
theorem snd_dictOfM : SndC X.K (c2 rDictD (rDictP X.K)) dDictOfM := fun {xs ds F H S Qd Q} hs r h hq => by
  unfold dDictOfM at h; split at h
  · next x =>
    split at h
    · next kds e =>
      cases r with
      | cons r1 r2 =>
        cases r2
        exact dict_core hs r1 e fun kvs p hp rk => hq _ _ _ _ (good_newM hs hp (ook_dct rk)) (.ref p) (h p (hs.free hp))
    · cases h
  · cases h
end
/-! ### == of dicts that are alike -/
section
variable {X : Cx} {W : WX} {a b : Expr} {ta tb : TE} {da db : TEd} {pos : Pos}
def rEqDR (r : Bool) : R2 := fun x y H Q => ∃ a b ks ls, x = .ref a ∧ y = .ref b ∧ Rd H a (.dK ks) ∧ Rd H b (.dK ls) ∧ ks.length = ls.length ∧ (∀ p ∈ ks, L2.valV ls p.1 = some p.2 ∧ flatB p.2 = true) ∧ Q (.bl r) H
theorem op_eqDR (hu : X.A.units < cLine) : OpR X (compareOp .Eq) (rEqDR true) := by
  intro pins s σ H x y v u Q I rx ry h
  obtain ⟨a, b, ks, ls, rfl, rfl, ea, eb, hlen, hp, q⟩ := h
  obtain rfl : v = Value.ref a := rx
  obtain rfl : u = Value.ref b := ry
  obtain ⟨_, ya, va, ra, da⟩ := dk_rd I.hok ea
  obtain ⟨_, yb, vb, rb, db⟩ := dk_rd I.hok eb
  have hl : va.length = vb.length := by rw [← ra.length, ← rb.length]; exact hlen
  exact PySem.W.keq_eq (knd := mixKind X.prog X.w) (r := true) ya yb da db hu (fun _ => hits_all rb ra hp) (fin_bl I q (by simp [hl]))
theorem op_neDR (hu : X.A.units < cLine) : OpR X (compareOp .NotEq) (rEqDR false) := by
  intro pins s σ H x y v u Q I rx ry h
  obtain ⟨a, b, ks, ls, rfl, rfl, ea, eb, hlen, hp, q⟩ := h
  obtain rfl : v = Value.ref a := rx
  obtain rfl : u = Value.ref b := ry
  obtain ⟨_, ya, va, ra, da⟩ := dk_rd I.hok ea
  obtain ⟨_, yb, vb, rb, db⟩ := dk_rd I.hok eb
  have hl : va.length = vb.length := by rw [← ra.length, ← rb.length]; exact hlen
  exact PySem.W.keq_ne (knd := mixKind X.prog X.w) (r := true) ya yb da db hu (fun _ => hits_all rb ra hp) (fin_bl I q (by simp [hl]))
theorem flat_one {K : PySem.W.Frag} {M : Hp} {v w : V} {d : D} (r : Rep K M v d) (q : Rep K M w d) (h : flatD d = true) : v = w := by
  cases d with
  | non => cases r; cases q; rfl
  | bl i => cases r; cases q; rfl
  | int i => cases r; cases q; rfl
  | str i => cases r; cases q; rfl
  | _ => cases h
theorem flatB_of {K : PySem.W.Frag} {M : Hp} {v : V} {d : D} (r : Rep K M v d) (h : flatD d = true) : flatB v = true := by
  cases d with
  | non => cases r; rfl
  | bl i => cases r; rfl
  | int i => cases r; rfl
  | str i => cases r; rfl
  | _ => cases h
theorem repK_mem {K : PySem.W.Frag} {M : Hp} : ∀ {kvs : List (Key × V)} {kds : List (Key × D)}, RepK K M kvs kds → ∀ p ∈ kvs, ∃ d, (p.1, d) ∈ kds ∧ Rep K M p.2 d
  | _, _, .nil, p, m => by cases m
  | _, _, .cons h r, p, m => by
    rcases List.mem_cons.mp m with rfl | m
    · exact ⟨_, List.mem_cons_self .., h⟩
    · obtain ⟨d, m2, rd⟩ := repK_mem r p m
      exact ⟨d, List.mem_cons_of_mem _ m2, rd⟩
/-- two dicts that are alike: r is what is told -/
def dEqK (r : Bool) : R2d := fun x y S Q => match vw S x, vw S y with
  | .dct ks, .dct ls => ks.length = ls.length ∧ (∀ p ∈ ks, getK ls p.1 = some p.2 ∧ flatD p.2 = true) ∧ Q (.bl r) S
  | _, _ => False
@[simp ↓] theorem z_dEqK {r : Bool} {x y : D} {S : Sto} {Q : QD} : dEqK r x y S Q = (match vw S x, vw S y with
  | .dct ks, .dct ls => ks.length = ls.length ∧ (∀ p ∈ ks, getK ls p.1 = some p.2 ∧ flatD p.2 = true) ∧ Q (.bl r) S
  | _, _ => False) := rfl
theorem snd_eqK {r : Bool} : Snd2 X.K (rEqDR r) (dEqK r) := fun {x y dx dy F H S Qd Q} hs rx ry h hq => by
  unfold dEqK at h; split at h
  · next ks ls e1 e2 =>
    obtain ⟨a, kv, rfl, ha, ra⟩ := see_dct hs rx e1
    obtain ⟨b, lv, rfl, hb, rb⟩ := see_dct hs ry e2
    refine ⟨a, b, kv, lv, rfl, rfl, ha, hb, by rw [repK_len ra, repK_len rb]; exact h.1, fun p hp => ?_, hq _ H _ S (.refl hs) (.bl _) h.2.2⟩
    obtain ⟨d, md, rd⟩ := repK_mem ra p hp
    obtain ⟨g1, g2⟩ := h.2.1 _ md
    obtain ⟨w, hw, rw_⟩ := (repK_valV rb).1 d g1
    exact ⟨by rw [hw, flat_one rd rw_ g2], flatB_of rd g2⟩
  · cases h
theorem ve_eqK (hu : X.A.units + 64 < cLine) (ha : VE X W a ta da) (hb : VE X W b tb db) (hm : behindInMarks .Eq b = false := by rfl) : VE X W (.Compare a [.Eq] [b] pos) (tOp (rEqDR true) ta tb) (dOp (dEqK true) da db) := ve_cmp (op_eqDR (by omega)) snd_eqK ha hb hm
theorem vt_eqK (hu : X.A.units + 64 < cLine) (ha : VE X W a ta da) (hb : VE X W b tb db) (hm : behindInMarks .Eq b = false := by rfl) : VT X W (.Compare a [.Eq] [b] pos) (tTest (tOp (rEqDR true) ta tb)) (dTest (dOp (dEqK true) da db)) := vt_cmp (op_eqDR (by omega)) snd_eqK ha hb hm
theorem ve_neK (hu : X.A.units + 64 < cLine) (ha : VE X W a ta da) (hb : VE X W b tb db) (hm : behindInMarks .NotEq b = false := by rfl) : VE X W (.Compare a [.NotEq] [b] pos) (tOp (rEqDR false) ta tb) (dOp (dEqK false) da db) := ve_cmp (op_neDR (by omega)) snd_eqK ha hb hm
theorem vt_neK (hu : X.A.units + 64 < cLine) (ha : VE X W a ta da) (hb : VE X W b tb db) (hm : behindInMarks .NotEq b = false := by rfl) : VT X W (.Compare a [.NotEq] [b] pos) (tTest (tOp (rEqDR false) ta tb)) (dTest (dOp (dEqK false) da db)) := vt_cmp (op_neDR (by omega)) snd_eqK ha hb hm
/-! ### x in l, the items data of any depth -/
def dInP (g : Bool → Bool) : R2d := fun x y S Q => match toP (vw S x), toP (vw S y) with
  | some p, some (.list ps) => SeqAt.shaped p = true ∧ SeqAt.shaped (.list ps) = true ∧ Q (.bl (g (ps.any fun z => PyData.eqv z p))) S
  | _, _ => False
@[simp ↓] theorem z_dInP {g : Bool → Bool} {x y : D} {S : Sto} {Q : QD} : dInP g x y S Q = (match toP (vw S x), toP (vw S y) with
  | some p, some (.list ps) => SeqAt.shaped p = true ∧ SeqAt.shaped (.list ps) = true ∧ Q (.bl (g (ps.any fun z => PyData.eqv z p))) S
  | _, _ => False) := rfl
theorem snd_inP : Snd2 X.K (L2.rInD X.K) (dInP id) := fun {x y dx dy F H S Qd Q} hs rx ry h hq => by
  unfold dInP at h; split at h
  · next p ps e1 e2 => exact ⟨p, ps, dp_vw hs rx e1, dp_vw hs ry e2, h.1, h.2.1, hq _ H _ S (.refl hs) (.bl _) h.2.2⟩
  · cases h
theorem snd_notInP : Snd2 X.K (L2.rNotInD X.K) (dInP (!·)) := fun {x y dx dy F H S Qd Q} hs rx ry h hq => by
  unfold dInP at h; split at h
  · next p ps e1 e2 => exact ⟨p, ps, dp_vw hs rx e1, dp_vw hs ry e2, h.1, h.2.1, hq _ H _ S (.refl hs) (.bl _) h.2.2⟩
  · cases h
theorem ve_inP (hu : X.A.units + 66 < cLine) (ha : VE X W a ta da) (hb : VE X W b tb db) (hm : behindInMarks .In b = false := by rfl) : VE X W (.Compare a [.In] [b] pos) (tOp (L2.rInD X.K) ta tb) (dOp (dInP id) da db) := ve_cmp (L2.op_inD (by omega)) snd_inP ha hb hm
theorem vt_inP (hu : X.A.units + 66 < cLine) (ha : VE X W a ta da) (hb : VE X W b tb db) (hm : behindInMarks .In b = false := by rfl) : VT X W (.Compare a [.In] [b] pos) (tTest (tOp (L2.rInD X.K) ta tb)) (dTest (dOp (dInP id) da db)) := vt_cmp (L2.op_inD (by omega)) snd_inP ha hb hm
theorem ve_notinP (hu : X.A.units + 66 < cLine) (ha : VE X W a ta da) (hb : VE X W b tb db) (hm : behindInMarks .NotIn b = false := by rfl) : VE X W (.Compare a [.NotIn] [b] pos) (tOp (L2.rNotInD X.K) ta tb) (dOp (dInP (!·)) da db) := ve_cmp (L2.op_notInD (by omega)) snd_notInP ha hb hm
theorem vt_notinP (hu : X.A.units + 66 < cLine) (ha : VE X W a ta da) (hb : VE X W b tb db) (hm : behindInMarks .NotIn b = false := by rfl) : VT X W (.Compare a [.NotIn] [b] pos) (tTest (tOp (L2.rNotInD X.K) ta tb)) (dTest (dOp (dInP (!·)) da db)) := vt_cmp (L2.op_notInD (by omega)) snd_notInP ha hb hm
end
end VL

/-! VL: dicts whose keys are tuples of texts and numbers. -/
namespace VL
open PySem PySem.Spec PyProof.Rows L2
def keysD : List D → Option (List Key)
  | [] => some []
  | d :: r => match keyD d, keysD r with
    | some k, some r => some (k :: r)
    | _, _ => none
def getQ (kds : List (List Key × D)) (k : List Key) : Option D := (kds.find? fun kv => decide (kv.1 = k)).map (·.2)
def putQD (kds : List (List Key × D)) (k : List Key) (d : D) : List (List Key × D) := if (kds.any fun kv => decide (kv.1 = k)) = true then kds.map (fun kv => if kv.1 = k then (kv.1, d) else kv) else kds ++ [(k, d)]
section
variable {K : PySem.W.Frag} {M : Hp}
theorem keys_reps : ∀ {xs : List V} {ds : List D} {ks : List Key}, Reps K M xs ds → keysD ds = some ks → xs = ks.map kV
  | _, _, ks, .nil, e => by cases e; rfl
  | _, _, ks, .cons h r, e => by
    rw [keysD] at e
    split at e
    · next k r' e1 e2 => cases e; rw [List.map_cons, keyV_of h e1, keys_reps r e2]
    · cases e
theorem reps_keys : ∀ ks : List Key, Reps K M (ks.map kV) (ks.map keyV)
  | [] => .nil
  | .inl i :: ks => .cons (.int i) (reps_keys ks)
  | .inr x :: ks => .cons (.str x) (reps_keys ks)
theorem repQ_len : ∀ {kvs : List (List Key × V)} {kds : List (List Key × D)}, RepQ K M kvs kds → kvs.length = kds.length
  | _, _, .nil => rfl
  | _, _, .cons _ r => congrArg Nat.succ (repQ_len r)
theorem repQ_get : ∀ {kvs : List (List Key × V)} {kds : List (List Key × D)} {i : Nat} {k : List Key} {v : V}, RepQ K M kvs kds → kvs[i]? = some (k, v) → ∃ e, kds[i]? = some (k, e) ∧ Rep K M v e
  | _, _, _, _, _, .nil, h => by simp at h
  | _, _, 0, _, _, .cons h _, e => by simp at e; obtain ⟨rfl, rfl⟩ := e; exact ⟨_, rfl, h⟩
  | _, _, i + 1, _, _, .cons _ r, e => by
    obtain ⟨x, h1, h2⟩ := repQ_get (i := i) r (by simpa using e)
    exact ⟨x, by simpa using h1, h2⟩
theorem repQ_valV {k : List Key} : ∀ {kvs : List (List Key × V)} {kds : List (List Key × D)}, RepQ K M kvs kds → (∀ d, getQ kds k = some d → ∃ v, L2.valV kvs k = some v ∧ Rep K M v d) ∧ (getQ kds k = none → L2.valV kvs k = none)
  | _, _, .nil => ⟨(fun _ e => by cases e), fun _ => rfl⟩
  | _, _, .cons (k := g) (v := v) (d := d) h r => by
    have ih := repQ_valV (k := k) r
    unfold getQ L2.valV at *
    rw [List.find?_cons, List.find?_cons]
    by_cases e : g = k
    · subst e
      simp only [decide_true]
      exact ⟨fun d' q => by cases q; exact ⟨v, rfl, h⟩, fun q => nomatch q⟩
    · simp only [e, decide_false]
      exact ih
theorem repQ_any {k : List Key} : ∀ {kvs : List (List Key × V)} {kds : List (List Key × D)}, RepQ K M kvs kds → (kvs.any fun kv => decide (kv.1 = k)) = (kds.any fun kv => decide (kv.1 = k))
  | _, _, .nil => rfl
  | _, _, .cons h r => by rw [List.any_cons, List.any_cons, repQ_any r]
theorem repQ_map {k : List Key} {v : V} {d : D} (h : Rep K M v d) : ∀ {kvs : List (List Key × V)} {kds : List (List Key × D)}, RepQ K M kvs kds → RepQ K M (kvs.map fun kv => if kv.1 = k then (kv.1, v) else kv) (kds.map fun kv => if kv.1 = k then (kv.1, d) else kv)
  | _, _, .nil => .nil
  | _, _, .cons (k := g) q r => by
    rw [List.map_cons, List.map_cons]
    by_cases e : g = k
    · simp only [e, if_true]; exact .cons h (repQ_map h r)
    · simp only [e, if_false]; exact .cons q (repQ_map h r)
theorem repQ_app {k : List Key} {v : V} {d : D} (h : Rep K M v d) : ∀ {kvs : List (List Key × V)} {kds : List (List Key × D)}, RepQ K M kvs kds → RepQ K M (kvs ++ [(k, v)]) (kds ++ [(k, d)])
  | _, _, .nil => .cons h .nil
  | _, _, .cons q r => .cons q (repQ_app h r)
theorem repQ_put {k : List Key} {v : V} {d : D} (h : Rep K M v d) {kvs : List (List Key × V)} {kds : List (List Key × D)} (r : RepQ K M kvs kds) : RepQ K M (putK kvs k v) (putQD kds k d) := by
  unfold putK putQD
  rw [repQ_any r]
  split
  · exact repQ_map h r
  · exact repQ_app h r
theorem ook_dcs {xs : List (List Key × V)} {ds : List (List Key × D)} (r : RepQ K M xs ds) : OOk K M (some (.dT xs)) (.dcs ds) := ⟨xs, rfl, r⟩
end
/-! ### {} -/
section
variable {X : Cx} {W : WX} {pos : Pos}
def dDctT : TEd := fun _ S Q _ => ∀ p, S p = none → Q (.ref p) (put S p (.dcs []))
@[simp ↓] theorem z_dDctT {σ : Sd} {S : Sto} {Q : QD} {E : XD} : dDctT σ S Q E = ∀ p, S p = none → Q (.ref p) (put S p (.dcs [])) := rfl
theorem ve_dctT : VE X W (.Dict [] [] pos) tDNewT dDctT := ⟨pe_dnewT, fun {σV F H σ S Qd E Q} hs er h hq hx p hp => hq _ _ _ _ (good_newM hs hp (ook_dcs .nil)) (.ref p) (h p (hs.free hp))⟩
end
/-! ### x in d, d[x], x a tuple -/
section
variable {X : Cx} {W : WX} {a b : Expr} {ta tb : TE} {da db : TEd} {pos : Pos}
theorem key_is {pins : List (Addr × Obj)} {σ : L2.St} {H : Hp} {s : Shared} {q : Addr} {ks : List Key} (I : Inv X pins σ H s) (h : SqT X.K H q (ks.map kV)) : (tupleKind (mixKind X.prog X.w)).is s.heap ks q := by
  obtain ⟨its, rv, ⟨ob, g1, g2, n, g3⟩, _⟩ := I.tuple h
  exact ⟨ob, its.toArray, n, g1, g2, g3, by simpa using items_are rv⟩
def rInT (K : PySem.W.Frag) (g : Bool → Bool) : R2 := fun x y H Q => ∃ q a ks kvs, x = .ref q ∧ y = .ref a ∧ SqT K H q (ks.map kV) ∧ Rd H a (.dT kvs) ∧ Q (.bl (g (L2.valV kvs ks).isSome)) H
theorem op_inT (hu : X.A.units + 1 < cLine) : OpR X (compareOp .In) (rInT X.K id) := by
  intro pins s σ H x y v u Q I rx ry h
  obtain ⟨q, a, ks, kvs, rfl, rfl, hk, hd, hq⟩ := h
  obtain rfl : v = Value.ref q := rx
  obtain rfl : u = Value.ref a := ry
  obtain ⟨_, nm, es, kt, dh⟩ := dt_rd I.hok hd
  refine wpAny_in_heap (tupleKind_room_in1 hu) (key_is I hk) nm dh ?_
  have e := (kt.val ks).isSome_eq
  rw [Option.isSome_map] at e
  rw [← e]
  exact ⟨.bl _, H, I.tok _, rfl, hq⟩
theorem op_notInT (hu : X.A.units + 1 < cLine) : OpR X (compareOp .NotIn) (rInT X.K (!·)) := by
  intro pins s σ H x y v u Q I rx ry h
  obtain ⟨q, a, ks, kvs, rfl, rfl, hk, hd, hq⟩ := h
  obtain rfl : v = Value.ref q := rx
  obtain rfl : u = Value.ref a := ry
  obtain ⟨_, nm, es, kt, dh⟩ := dt_rd I.hok hd
  refine wpAny_notIn_heap (tupleKind_room_in1 hu) (key_is I hk) nm dh ?_
  have e := (kt.val ks).isSome_eq
  rw [Option.isSome_map] at e
  rw [← e]
  exact ⟨.bl _, H, I.tok _, rfl, hq⟩
def dInT (g : Bool → Bool) : R2d := fun x y S Q => match x with
  | .tup ds => match keysD ds, vwT S y with
    | some ks, some kds => Q (.bl (g (getQ kds ks).isSome)) S
    | _, _ => False
  | _ => False
@[simp ↓] theorem z_dInT {g : Bool → Bool} {x y : D} {S : Sto} {Q : QD} : dInT g x y S Q = (match x with
  | .tup ds => match keysD ds, vwT S y with
    | some ks, some kds => Q (.bl (g (getQ kds ks).isSome)) S
    | _, _ => False
  | _ => False) := rfl
theorem snd_inT {g : Bool → Bool} : Snd2 X.K (rInT X.K g) (dInT g) := fun {x y dx dy F H S Qd Q} hs rx ry h hq => by
  unfold dInT at h; split at h
  · next ds =>
    split at h
    · next ks kds e1 e2 =>
      cases rx with
      | tup hx rv =>
        obtain ⟨a, kvs, rfl, hd, rk⟩ := see_dcs hs ry e2
        have ek := keys_reps rv e1
        subst ek
        refine ⟨_, a, ks, kvs, rfl, rfl, st_up hx, hd, ?_⟩
        have eo : (L2.valV kvs ks).isSome = (getQ kds ks).isSome := by
          cases c : getQ kds ks with
          | some d => obtain ⟨w, hw, _⟩ := (repQ_valV rk).1 d c; rw [hw]; rfl
          | none => rw [(repQ_valV rk).2 c]; rfl
        rw [eo]
        exact hq _ H _ S (.refl hs) (.bl _) h
    · cases h
  · cases h
theorem ve_inT (hu : X.A.units + 1 < cLine) (ha : VE X W a ta da) (hb : VE X W b tb db) (hm : behindInMarks .In b = false := by rfl) : VE X W (.Compare a [.In] [b] pos) (tOp (rInT X.K id) ta tb) (dOp (dInT id) da db) := ve_cmp (op_inT hu) snd_inT ha hb hm
theorem vt_inT (hu : X.A.units + 1 < cLine) (ha : VE X W a ta da) (hb : VE X W b tb db) (hm : behindInMarks .In b = false := by rfl) : VT X W (.Compare a [.In] [b] pos) (tTest (tOp (rInT X.K id) ta tb)) (dTest (dOp (dInT id) da db)) := vt_cmp (op_inT hu) snd_inT ha hb hm
theorem ve_notinT (hu : X.A.units + 1 < cLine) (ha : VE X W a ta da) (hb : VE X W b tb db) (hm : behindInMarks .NotIn b = false := by rfl) : VE X W (.Compare a [.NotIn] [b] pos) (tOp (rInT X.K (!·)) ta tb) (dOp (dInT (!·)) da db) := ve_cmp (op_notInT hu) snd_inT ha hb hm
theorem vt_notinT (hu : X.A.units + 1 < cLine) (ha : VE X W a ta da) (hb : VE X W b tb db) (hm : behindInMarks .NotIn b = false := by rfl) : VT X W (.Compare a [.NotIn] [b] pos) (tTest (tOp (rInT X.K (!·)) ta tb)) (dTest (dOp (dInT (!·)) da db)) := vt_cmp (op_notInT hu) snd_inT ha hb hm
end
end VL

/-! VL: d[x] = v, x a tuple made there. -/
namespace VL
open PySem PySem.Spec PyProof.Rows L2
/-- an expression that makes a tuple -/
def SndK (K : PySem.W.Frag) (W : WX) (t : TE) (td : TEd) : Prop := ∀ {σV : L2.St} {F H : Hp} {σ : Sd} {S : Sto} {Qd : QD} {E : XD} {Q : VK},
  HSt K F H S → ER K (mask F S H) σV σ → td σ S Qd E → (∀ a xs H' ds S', Good K F H S H' S' → H' a = some (.tup xs) → Reps K (mask F S' H') xs ds → Qd (.tup ds) S' → Q (.ref a) H') → LX K F W σV H S E → t σV H Q
structure VK1 (X : Cx) (W : WX) (e : Expr) (t : TE) (td : TEd) : Prop where
  run : PE X e t
  snd : SndK X.K W t td
section
variable {X : Cx} {W : WX} {pos p2 : Pos}
theorem vk_tup {es : List Expr} {x1} {t : TA} {da : TAd} (h : VA X W es t da) : VK1 X W (.Tuple es x1 pos) (tTup t) (dTup da) := ⟨pe_tup h.run, fun {σV F H σ S Qd E Q} hs er hh hq hx =>
  h.snd (Q := fun xs H1 => xs.length ≤ sizeLine ∧ ∀ p, H1 p = none → Q (.ref p) (upd H1 p (.tup xs))) hs er hh (fun xs H1 ds S1 g r h1 => ⟨by rw [r.length]; exact h1.1, fun p hp => hq _ _ _ _ S1 (g.trans (good_new g.hst hp)) upd_same (r.mono (same_new g.hst hp)) h1.2⟩) hx⟩
/-- x[lo:hi] of a tuple, not all of it -/
def dSliceT (de : TEd) (dl dh : TOd) : TEd := fun σ S Q E => de σ S (fun x S1 => dl σ S1 (fun lo S2 => dh σ S2 (fun hi S3 => match x with
  | .tup ds => ¬ (HT.sIx ds.length 0 lo = 0 ∧ HT.sIx ds.length ds.length hi = ds.length) ∧ Q (.tup (cutD ds lo hi)) S3
  | _ => False) E) E) E
@[simp ↓] theorem z_dSliceT {de : TEd} {dl dh : TOd} {σ : Sd} {S : Sto} {Q : QD} {E : XD} : dSliceT de dl dh σ S Q E = de σ S (fun x S1 => dl σ S1 (fun lo S2 => dh σ S2 (fun hi S3 => match x with
  | .tup ds => ¬ (HT.sIx ds.length 0 lo = 0 ∧ HT.sIx ds.length ds.length hi = ds.length) ∧ Q (.tup (cutD ds lo hi)) S3
  | _ => False) E) E) E := rfl
theorem vk_slice {e : Expr} {lo hi : Option Expr} {te : TE} {tl th : TO} {de : TEd} {dl dh : TOd} (he : VE X W e te de) (hl : VO X W lo tl dl) (hh : VO X W hi th dh) :
    VK1 X W (.Subscript e (.Slice lo hi none p2) pos) (tSl (rSlT X.K) te tl th) (dSliceT de dl dh) := by
  refine ⟨pe_slice sl_tup he.run hl.run hh.run, fun {σV F H σ S Qd E Q} hs er h hq hx => ?_⟩
  refine he.snd (Q := fun x H1 => tl σV H1 fun l H2 => th σV H2 fun u H3 => rSlT X.K x l u H3 Q) hs er h (fun x H1 dx S1 g1 r1 h1 => ?_) hx
  refine hl.snd (Q := fun l H2 => th σV H2 fun u H3 => rSlT X.K x l u H3 Q) g1.hst (er.mono g1.same) h1 (fun l H2 S2 g2 h2 => ?_) (hx.next g1)
  refine hh.snd (Q := fun u H3 => rSlT X.K x l u H3 Q) g2.hst (er.mono (g1.trans g2).same) h2 (fun u H3 S3 g3 h3 => ?_) (hx.next (g1.trans g2))
  have gg := (g1.trans g2).trans g3
  have rr := (r1.mono g2.same).mono g3.same
  split at h3
  · next ds =>
    cases rr with
    | tup hx rv =>
      exact ⟨_, _, rfl, st_up hx, by rw [rv.length]; exact h3.1, fun p hp => hq _ _ _ _ S3 (gg.trans (good_new gg.hst hp)) upd_same ((rv.cut l u).mono (same_new gg.hst hp)) h3.2⟩
  · cases h3
variable {o i e : Expr} {to ti te : TE} {d0 di de : TEd} {p1 : Pos}
def dSetT (de d0 di : TEd) : TSd := fun D σ S => de σ S (fun v S1 => d0 σ S1 (fun x S2 => di σ S2 (fun y S3 => match x with
  | .ref p => match S3 p with
    | some (.dcs kds) => match y with
      | .tup ds => match keysD ds with
        | some k => kds.length < sizeLine ∧ D.nx σ (put S3 p (.dcs (putQD kds k v)))
        | none => False
      | _ => False
    | _ => False
  | _ => False) (D.ex σ)) (D.ex σ)) (D.ex σ)
@[simp ↓] theorem z_dSetT {D : EndsD} {σ : Sd} {S : Sto} : dSetT de d0 di D σ S = de σ S (fun v S1 => d0 σ S1 (fun x S2 => di σ S2 (fun y S3 => match x with
  | .ref p => match S3 p with
    | some (.dcs kds) => match y with
      | .tup ds => match keysD ds with
        | some k => kds.length < sizeLine ∧ D.nx σ (put S3 p (.dcs (putQD kds k v)))
        | none => False
      | _ => False
    | _ => False
  | _ => False) (D.ex σ)) (D.ex σ)) (D.ex σ) := rfl
theorem vs_setT (hu : X.A.units + 1 < cLine) (he : VE X W e te de) (ho : VE X W o to d0) (hi : VK1 X W i ti di) (hs : swapsWithSole [.Subscript o i p1] e pos.line X.env = pure false := by rfl) (hw : swappedStores [.Subscript o i p1] e X.env = pure none := by rfl)
    (h1 : (assignEach [.Subscript o i p1] X.env).map (·.2) = [assign (.Subscript o i p1) X.env] := by rfl)
    (ha : ∀ v, assign (.Subscript o i p1) X.env v = (do
      let ov ← holding [v] (eval o X.env)
      let iv ← holding [v, ov] (eval i X.env)
      standAt p1
      holding [v, ov, iv] (setItem ov iv v)
      release [v, ov, iv] []) := by intro _; rfl) : VS X W (.Assign [.Subscript o i p1] e pos) (tAsg te (gSub to ti rSetA)) (dSetT de d0 di) := ⟨ps_asg he.run (pg_sub ho.run hi.run (set_all hu) ha) hs hw h1, fun {σV F H σ S Dd D} hs er h l => by
  refine he.snd hs er h (fun v H1 d S1 g1 r1 h1 => ?_) (l.exs hs er)
  refine ho.snd g1.hst (er.mono g1.same) h1 (fun x H2 dx S2 g2 r2 h2 => ?_) ((l.exs hs er).next g1)
  refine hi.snd g2.hst (er.mono (g1.trans g2).same) h2 (fun b ks H3 kd S3 g3 hb r3 h3 => ?_) ((l.exs hs er).next (g1.trans g2))
  have gg := (g1.trans g2).trans g3
  have rv := (r1.mono g2.same).mono g3.same
  split at h3
  · next p =>
    cases r2
    split at h3
    · next kds es =>
      obtain ⟨kvs, e1, q1⟩ := g3.hst.at_ p _ es
      dsimp only at h3
      split at h3
      · next k ek =>
        have gc : Good X.K F H3 S3 (upd H3 p (.dT (putK kvs k v))) (put S3 p (.dcs (putQD kds k d))) := ⟨hst_chg g3.hst es (ook_dcs (repQ_put rv q1)), by rw [mask_chg es]; exact Same.refl _⟩
        have eks := keys_reps r3 ek
        subst eks
        exact .inr ⟨p, _, rfl, DPut.t e1 hb (by rw [repQ_len q1]; exact h3.1), l.nx _ _ _ _ (gg.trans gc) ((er.mono gg.same).mono gc.same) h3.2⟩
      · cases h3
    · cases h3
  · cases h3⟩
end
end VL

/-! VL: walks over the keys of a dict whose keys are tuples: for a, b in d. -/
namespace VL
open PySem PySem.Spec PyProof.Rows L2
def tLockT (X : Cx) (td : TE) : TE := fun σ H Q => td σ H fun x H1 => ∃ d kvs, x = V.ref d ∧ ((∃ o, H1 d = some (.frz o (.dT kvs)) ∧ Q x H1) ∨ (H1 d = some (.dT kvs) ∧ ∀ od, NoF X d → Q x (upd H1 d (.frz od (.dT kvs)))))
theorem pe_lockT {X : Cx} {e : Expr} {td : TE} (h : PE X e td) : PE X e (tLockT X td) := by
  refine ⟨fun pins s σ H Q I hw => thn (h.run pins s σ H _ I hw) fun u s1 hh => ?_⟩
  obtain ⟨x, H1, I1, rx, d, kvs, ex, q⟩ := hh
  rcases q with ⟨o, _, q⟩ | ⟨hd, q⟩
  · exact ⟨x, H1, I1, rx, q⟩
  · obtain ⟨od, I2⟩ := I1.lock hd True.intro
    exact ⟨x, _, I2, rx, q od (I1.nofrz hd True.intro)⟩
def iVwT (X : Cx) (td : TE) : TI := fun σ H R => tLockT X td σ H fun x H1 => ∃ d o kvs, x = .ref d ∧ H1 d = some (.frz o (.dT kvs)) ∧ R (Itkt d o kvs) H1
theorem pi_vkeysT {X : Cx} {tg e : Expr} {td : TE} (he : PE X e td) : PI X tg e (iVwT X td) := by
  refine ⟨fun pins s σ H R I h => ?_⟩
  refine thn ((pe_lockT he).run pins s σ H _ I h) fun u s1 ⟨x, H1, I1, rx, d, o, kvs, ex, hd, q⟩ => ?_
  subst ex
  obtain rfl : u = Value.ref d := rx
  obtain ⟨nm, hg, xd, es, ep, od, sz, en⟩ := I1.frzT hd
  refine iter_keys nm hg xd od (pi_one (tk := s1.toks) I1 _ (turn_keysT _ od) ⟨_, Heap.get?_push_size _ rfl, rfl, ?_⟩ q)
  rw [sz] <;> rfl
/-! ### the target: a tuple of names -/
def SndGT (K : PySem.W.Frag) (vs : List Nat) (g : TG) (gd : TGd) : Prop := ∀ {q : Addr} {ks : List Key} {σV : L2.St} {F H : Hp} {σ : Sd} {S : Sto} {Qd : Sd → Sto → Prop} {Q : L2.St → Hp → Prop},
  HSt K F H S → ER K (mask F S H) σV σ → H q = some (.tup (ks.map kV)) → gd (.tup (ks.map keyV)) σ S Qd →
  (∀ σV' H' σ' S', Good K F H S H' S' → ER K (mask F S' H') σV' σ' → σV'.length = σV.length → (∀ i, i ∉ vs → σV'[i]? = σV[i]?) → Qd σ' S' → Q σV' H') → g (.ref q) σV H Q
structure VGT (X : Cx) (vs : List Nat) (e : Expr) (g : TG) (gd : TGd) : Prop where
  run : PG X e g
  snd : SndGT X.K vs g gd
section
variable {X : Cx} {W : WX} {pos : Pos} {vs : List Nat} {g : TG} {gd : TGd} {t : TS} {tb : TSd}
theorem vgT_tup {es : List Expr} {k : Nat} {t : TGs} {td : TGsd} {n : Nat} (hc : X.calm = true) (h : VGs X vs es t td)
    (hn : (assignEach es X.env).length = n := by rfl) (hst : (assignEach es X.env).findIdx? (·.1) = none := by rfl) : VGT X vs (.Tuple es k pos) (gSeq X.K n t) (hTup n td) := ⟨pg_seq hc h.run hn hst, fun {q ks σV F H σ S Qd Q} hs er hk hh hq => by
  have hh' : (ks.map keyV).length = n ∧ td (ks.map keyV) σ S Qd := hh
  exact .inl ⟨q, ks.map kV, rfl, .inl (.inl hk), by rw [List.length_map, ← hh'.1, List.length_map], h.snd hs er (reps_keys ks) hh'.2 hq⟩⟩
def keysQ (kds : List (List Key × D)) : List D := kds.map fun x => .tup (x.1.map keyV)
theorem for_runT {d : Addr} {o : Obj} {kvs : List (List Key × V)} {kds : List (List Key × D)} {F H1 : Hp} {S1 : Sto} {σV : L2.St} {σ : Sd} {Dd : EndsD} {Y : Ends} (hd : mask F S1 H1 d = some (.frz o (.dT kvs)) ∨ F d = some (.frz o (.dT kvs))) (hk : ∀ i : Nat, (kvs[i]?).map (·.1) = (kds[i]?).map (·.1)) (hl0 : kvs.length = kds.length)
    (hg : SndGT X.K vs g gd) (hb : SndS X.K W t tb) (hs : HSt X.K F H1 S1) (er : ER X.K (mask F S1 H1) σV σ)
    (h1 : dForL gd tb Dd (keysQ kds) σ S1) (l : LS X.K F W H1 S1 Dd Y) : ∃ Wv : Nat → Nat → L2.St → Hp → Prop, (∃ m, Wv 0 m σV H1) ∧ ∀ i m σ H, Wv i m σ H →
      ((Itkt d o kvs).stop i H ∧ Y.nx σ H) ∨ ((Itkt d o kvs).go i H ∧ ∃ N : L2.St → Hp → Prop, (∀ σ' H', N σ' H' → ∃ m', m' < m ∧ Wv (i + 1) m' σ' H') ∧ ∀ x H', (Itkt d o kvs).yld i H x H' → g x σ H' fun σ2 H2 => t { Y with nx := N, ct := N, bk := Y.nx } σ2 H2) := by
  have hat : ∀ (H : Hp) (S : Sto), HSt X.K F H S → Same (mask F S1 H1) (mask F S H) → H d = some (.frz o (.dT kvs)) := fun H S hs' sm => by
    rcases hd with hd | hd
    · exact mask_le _ _ (sm _ _ hd)
    · exact (hs'.side d _ hd).1
  have hlen : (keysQ kds).length = kds.length := by unfold keysQ; rw [List.length_map]
  let Iv : Nat → L2.St → Hp → Prop := fun i σV' H => ∃ (σ' : Sd) (S : Sto), Good X.K F H1 S1 H S ∧ ER X.K (mask F S H) σV' σ' ∧ dForL gd tb Dd ((keysQ kds).drop i) σ' S
  refine ⟨fun i m σV' H => m = kds.length - i ∧ i ≤ kds.length ∧ Iv i σV' H, ⟨kds.length, by simp, Nat.zero_le _, σ, S1, .refl hs, er, by simpa using h1⟩, ?_⟩
  rintro i m σV' H ⟨rfl, hi', σ', S, gg, er', hl⟩
  have hdH := hat H S gg.hst gg.same
  by_cases hlt : i < kds.length
  · have hlt2 : i < (keysQ kds).length := by omega
    have ed : (keysQ kds).drop i = (keysQ kds)[i] :: (keysQ kds).drop (i + 1) := List.drop_eq_getElem_cons hlt2
    rw [ed] at hl
    refine .inr ⟨⟨hdH, by omega⟩, Iv (i + 1), fun σ2 H' p' => ⟨kds.length - (i + 1), by omega, rfl, hlt, p'⟩, fun x H' y => ?_⟩
    obtain ⟨rfl, k, v, q, hkv, rfl, hq⟩ := y
    have e1 : (keysQ kds)[i] = .tup (k.map keyV) := by
      have e2 := hk i
      rw [hkv, List.getElem?_eq_getElem hlt] at e2
      have e3 : (kds[i]).1 = k := (Option.some.inj e2).symm
      have e4 : (keysQ kds)[i] = .tup ((kds[i]).1.map keyV) := by simp [keysQ]
      rw [e4, e3]
    rw [e1] at hl
    refine hg gg.hst er' hq hl fun σ3 H3 σd3 S3 g3 er3 _ _ h3 => ?_
    have gg3 := gg.trans g3
    have ll := l.next gg3
    exact hb g3.hst er3 h3 ⟨fun a b c d' g4 er4 h4 => ⟨c, d', gg3.trans g4, er4, h4⟩, ll.rt, ll.nx, fun a b c d' g4 er4 h4 => ⟨c, d', gg3.trans g4, er4, h4⟩, ll.ex⟩
  · have e : i = kds.length := by omega
    subst e
    rw [List.drop_of_length_le (by omega)] at hl
    exact .inl ⟨⟨hdH, by omega⟩, l.nx _ H _ S gg er' hl⟩
def dForT (d0 : TEd) (gd : TGd) (tb : TSd) : TSd := fun D σ S => d0 σ S (fun x S1 => match x with
  | .dcs kds => dForL gd tb { D with ex := fun _ => XF } (keysQ kds) σ S1
  | .ref p => match S1 p with
    | some (.dcs kds) => dForL gd tb { nx := fun σ' S' => S' p = none → D.nx σ' (put S' p (.dcs kds)), rt := fun v S' => S' p = none → D.rt v (put S' p (.dcs kds)), ex := fun _ => XF } (keysQ kds) σ (era S1 p)
    | _ => False
  | _ => False) (D.ex σ)
@[simp ↓] theorem z_dForT {d0 : TEd} {D : EndsD} {σ : Sd} {S : Sto} : dForT d0 gd tb D σ S = d0 σ S (fun x S1 => match x with
  | .dcs kds => dForL gd tb { D with ex := fun _ => XF } (keysQ kds) σ S1
  | .ref p => match S1 p with
    | some (.dcs kds) => dForL gd tb { nx := fun σ' S' => S' p = none → D.nx σ' (put S' p (.dcs kds)), rt := fun v S' => S' p = none → D.rt v (put S' p (.dcs kds)), ex := fun _ => XF } (keysQ kds) σ (era S1 p)
    | _ => False
  | _ => False) (D.ex σ) := rfl
theorem repQ_keys {K : PySem.W.Frag} {M : Hp} : ∀ {kvs : List (List Key × V)} {kds : List (List Key × D)}, RepQ K M kvs kds → ∀ i : Nat, (kvs[i]?).map (·.1) = (kds[i]?).map (·.1)
  | _, _, .nil, i => by simp
  | _, _, .cons h r, 0 => by simp
  | _, _, .cons h r, i + 1 => by simpa using repQ_keys r i
theorem snd_forT {te : TE} {d0 : TEd} (hi : Snd X.K W te d0) (hg : SndGT X.K vs g gd) (hb : SndS X.K W t tb) : SndS X.K W (tUnl X (tFor (iVwT X te) g t)) (dForT d0 gd tb) := fun {σV F H0 σ S0 Dd D} hs er h l => by
  unfold tUnl tFor iVwT tLockT
  refine hi hs er h (fun x H1 dx S1 g1 rx h1 => ?_) (l.exs hs er)
  have l1 := l.next g1
  have er1 := er.mono g1.same
  split at h1
  · next kds =>
    cases rx with
    | dcs hd rk =>
      rename_i d kvs
      have hk := repQ_keys rk
      have hn := repQ_len rk
      rcases hd with hd | ⟨o, hd⟩
      · obtain ⟨s1, f1, hd1⟩ := mask_free hd
        refine ⟨d, kvs, rfl, .inr ⟨hd1, fun od nf => ⟨d, od, kvs, rfl, upd_same, ?_⟩⟩⟩
        have lk := lk_in (od := od) (w := .dT kvs) trivial hd1 s1 f1
        have out := fun {H' : Hp} {S' : Sto} => good_out (K := X.K) (H' := H') (S' := S') (od := od) (w := .dT kvs) trivial hd1 s1 f1
        refine for_runT (Y := ⟨fun σ' => UnlK X (D.nx σ'), fun v => UnlK X (D.rt v), fun σ' => UnlK X (D.bk σ'), fun σ' => UnlK X (D.ct σ')⟩) (Dd := { Dd with ex := fun _ => XF }) (.inl (by rw [mask_upd s1 f1, upd_same])) hk hn hg hb (hst_lk g1.hst s1 f1 lk) (er1.lk lk) h1 ⟨?_, ?_, ?_, ?_, fun _ _ _ _ _ _ => ls_xf⟩
        · intro σ' H' σd S' g' er' q
          obtain ⟨a, b, c, e⟩ := out g'
          exact .inr ⟨d, od, _, a, nf, l1.nx _ _ _ _ c (er'.lk e) q⟩
        · intro v H' dv S' g' r' q
          obtain ⟨a, b, c, e⟩ := out g'
          exact .inr ⟨d, od, _, a, nf, l1.rt _ _ _ _ c (r'.lk e) q⟩
        · intro σ' H' σd S' g' er' q
          obtain ⟨a, b, c, e⟩ := out g'
          exact .inr ⟨d, od, _, a, nf, l1.bk _ _ _ _ c (er'.lk e) q⟩
        · intro σ' H' σd S' g' er' q
          obtain ⟨a, b, c, e⟩ := out g'
          exact .inr ⟨d, od, _, a, nf, l1.ct _ _ _ _ c (er'.lk e) q⟩
      · have hd1 := mask_le _ _ hd
        refine ⟨d, kvs, rfl, .inl ⟨o, hd1, d, o, kvs, rfl, hd1, ?_⟩⟩
        exact for_runT (Y := ⟨fun σ' => UnlK X (D.nx σ'), fun v => UnlK X (D.rt v), fun σ' => UnlK X (D.bk σ'), fun σ' => UnlK X (D.ct σ')⟩) (Dd := { Dd with ex := fun _ => XF }) (.inl hd) hk hn hg hb g1.hst er1 h1 ⟨fun a b c d g' er' q => .inl (l1.nx a b c d g' er' q), fun a b c d g' r' q => .inl (l1.rt a b c d g' r' q), fun a b c d g' er' q => .inl (l1.bk a b c d g' er' q), fun a b c d g' er' q => .inl (l1.ct a b c d g' er' q), fun _ _ _ _ _ _ => ls_xf⟩
  · next p =>
    cases rx
    split at h1
    · next kds es =>
      obtain ⟨kvs, hk0, rk⟩ := g1.hst.at_ p _ es
      have hk := repQ_keys rk
      have hn := repQ_len rk
      refine ⟨p, kvs, rfl, .inr ⟨hk0, fun od nf => ⟨p, od, kvs, rfl, upd_same, ?_⟩⟩⟩
      have em := mask_as (F := F) (H := H1) (u := .frz od (.dT kvs)) es
      have out := fun {H' : Hp} {S' : Sto} => good_back (H' := H') (S' := S') (od := od) (w := .dT kvs) g1.hst es ⟨kvs, rfl, rk⟩
      refine for_runT (Y := ⟨fun σ' => UnlK X (D.nx σ'), fun v => UnlK X (D.rt v), fun σ' => UnlK X (D.bk σ'), fun σ' => UnlK X (D.ct σ')⟩) (F := upd F p (.frz od (.dT kvs))) (.inr upd_same) hk hn hg hb (hst_as g1.hst es) (by rw [em]; exact er1) h1 ⟨?_, ?_, ?_, ?_, fun _ _ _ _ _ _ => ls_xf⟩
      · intro σ' H' σd S' g' er' q
        obtain ⟨a, b, c, e⟩ := out g'
        exact .inr ⟨p, od, _, a, nf, l1.nx _ _ _ _ c (by rw [e]; exact er') (q b)⟩
      · intro v H' dv S' g' r' q
        obtain ⟨a, b, c, e⟩ := out g'
        exact .inr ⟨p, od, _, a, nf, l1.rt _ _ _ _ c (by rw [e]; exact r') (q b)⟩
      · intro σ' H' σd S' g' er' q
        exact q.elim
      · intro σ' H' σd S' g' er' q
        exact q.elim
    · cases h1
  · cases h1
theorem vs_forT {tg iter : Expr} {body : List Stmt} {te : TE} {d0 : TEd} (hp : PassesOwn (model X.prog X.w) X.A X.env X.xe) (hc : X.calm = true) (hi : VE X W iter te d0) (hg : VGT X vs tg g gd) (hb : VSs X W body t tb)
    (hs : ∀ x, foldedSetIterable iter X.env x = pure x := by intro _; rfl) : VS X W (.For tg iter body [] pos) (tUnl X (tFor (iVwT X te) g t)) (dForT d0 gd tb) := ⟨ps_unl (ps_for hp hc (pi_vkeysT hi.run) hg.run hb.run hs), snd_forT hi.snd hg.snd hb.snd⟩
end
end VL

/-! VL: dict comprehensions, `x.extend(y)`, a try whose body raises nothing. -/
namespace VL
open PySem PySem.Spec PyProof.Rows L2
/-! ### a dict comprehension's loop -/
def dDcL (gd : TGd) (dt : TTd) (dk dv : TEd) (σ0 : Sd) (Q : List (Key × D) → Sto → Prop) : List D → List (Key × D) → Sto → Prop
  | [], acc, S => Q acc S
  | d :: ds, acc, S => gd d σ0 S fun σ1 S1 => dt σ1 S1 (fun b S2 => if b = true then dk σ1 S2 (fun y S3 => dv σ1 S3 (fun z S4 => match keyD y with
    | some k => dDcL gd dt dk dv σ0 Q ds (putKD acc k z) S4
    | none => False) XF) XF else dDcL gd dt dk dv σ0 Q ds acc S2) XF
/-- {k: v for target in iter if ..}: a new dict that may change -/
def dDcM (id : TId) (gd : TGd) (dt : TTd) (dk dv : TEd) (vs : List Nat) : TEd := fun σ S Q E => id σ S (fun ds S1 => ds.length ≤ sizeLine ∧ dDcL gd dt dk dv (wipeD σ vs) (fun acc S2 => ∀ p, S2 p = none → Q (.ref p) (put S2 p (.dct acc))) ds [] S1) E
/-- .. over a dict's keys, values or pairs -/
def dDcD (w : Vw) (d0 : TEd) (gd : TGd) (dt : TTd) (dk dv : TEd) (vs : List Nat) : TEd := fun σ S Q E => d0 σ S (fun x S1 => match x with
  | .dct kds => kds.length ≤ sizeLine ∧ dDcL gd dt dk dv (wipeD σ vs) (fun acc S2 => ∀ p, S2 p = none → Q (.ref p) (put S2 p (.dct acc))) (w.ds kds) [] S1
  | .ref p => match S1 p with
    | some (.dct kds) => kds.length ≤ sizeLine ∧ dDcL gd dt dk dv (wipeD σ vs) (fun acc S2 => S2 p = none → ∀ q, (put S2 p (.dct kds)) q = none → Q (.ref q) (put (put S2 p (.dct kds)) q (.dct acc))) (w.ds kds) [] (era S1 p)
    | _ => False
  | _ => False) E
section
variable {X : Cx} {W : WX} {pos : Pos} {K : PySem.W.Frag} {wi : TI} {id : TId} {g : TG} {gd : TGd} {tt : TT} {dt : TTd} {tk tv : TE} {dk dv : TEd} {vs : List Nat}
theorem keyD_see {M : Hp} {y : V} {d : D} {k : Key} (h : keyD d = some k) (r : Rep K M y d) : y = kV k := by
  unfold keyD at h
  split at h
  · cases h; cases r; rfl
  · cases h; cases r; rfl
  · cases h
theorem putKD_len (kds : List (Key × D)) (k : Key) (d : D) : (putKD kds k d).length ≤ kds.length + 1 := by
  unfold putKD
  split
  · rw [List.length_map]; omega
  · rw [List.length_append, List.length_singleton]; omega
/-- what a walk yields, as far as a comprehension asks -/
structure JW (K : PySem.W.Frag) (F : Hp) (J : It) (ds : List D) (M : Hp) : Prop where
  go : ∀ (i : Nat) (F' H : Hp) (S : Sto), (∀ a u, F a = some u → F' a = some u) → HSt K F' H S → Same M (mask F' S H) → i < ds.length → J.go i H
  stop : ∀ (i : Nat) (F' H : Hp) (S : Sto), (∀ a u, F a = some u → F' a = some u) → HSt K F' H S → Same M (mask F' S H) → ds.length ≤ i → J.stop i H
  yld : ∀ (i : Nat) (F' H : Hp) (S : Sto) (x : V) (H' : Hp) (d : D), (∀ a u, F a = some u → F' a = some u) → HSt K F' H S → Same M (mask F' S H) → ds[i]? = some d → J.yld i H x H' → Good K F' H S H' S ∧ Rep K (mask F' S H') x d
theorem jw_jx {F M : Hp} {J : It} {ds : List D} (h : JX K F J ds M) : JW K F J ds M := ⟨h.go, h.stop, h.yld⟩
theorem jw_jr {F M : Hp} {J : It} {ds : List D} (h : JR K J ds M) : JW K F J ds M := ⟨fun i F' H S _ => h.go i F' H S, fun i F' H S _ => h.stop i F' H S, fun i F' H S x H' d _ => h.yld i F' H S x H' d⟩
theorem dc_run {σV : L2.St} {F H1 : Hp} {σ : Sd} {S1 : Sto} {J : It} {ds : List D} {Q : VK} {Qf : List (Key × D) → Sto → Prop} (hg : SndG K vs g gd) (ht : SndT K WF tt dt) (hk : Snd K WF tk dk) (hv : Snd K WF tv dv)
    (hs : HSt K F H1 S1) (er : ER K (mask F S1 H1) σV σ) (jr : JW K F J ds (mask F S1 H1)) (hz : ds.length ≤ sizeLine) (h : dDcL gd dt dk dv (wipeD σ vs) Qf ds [] S1)
    (fin : ∀ (Dp : Addr) (H : Hp) (S : Sto) (accV : List (Key × V)) (acc : List (Key × D)), H1 Dp = none → F Dp = none → S1 Dp = none → HSt K (upd F Dp (.dK accV)) H S → Same (mask F S1 H1) (mask (upd F Dp (.dK accV)) S H) → RepK K (mask (upd F Dp (.dK accV)) S H) accV acc → Qf acc S → Q (.ref Dp) H) :
    ∀ Dp, H1 Dp = none → ∃ Wv : Nat → Nat → Hp → Prop, (∃ m, Wv 0 m (upd H1 Dp (.dK []))) ∧ ∀ i m H, Wv i m H →
      (J.stop i H ∧ Q (.ref Dp) H) ∨ (J.go i H ∧ ∃ Nx : Hp → Prop, (∀ H', Nx H' → ∃ m', m' < m ∧ Wv (i + 1) m' H') ∧ ∀ x H', J.yld i H x H' → g x (wipe σV vs) H' fun σ2 H2 => wipe σ2 vs = wipe σV vs ∧ tt σ2 H2 fun b H3 =>
        if b = true then tk σ2 H3 fun y H4 => tv σ2 H4 fun z H5 => ∃ kvs k, y = kV k ∧ H5 Dp = some (.dK kvs) ∧ kvs.length < sizeLine ∧ Nx (upd H5 Dp (.dK (putK kvs k z))) else Nx H3) := by
  intro Dp hD
  have fD := hs.freeF hD
  have sD := hs.free hD
  have fx : ∀ (l : List (Key × V)) a u, F a = some u → upd F Dp (.dK l) a = some u := fun l a u e => by
    rw [upd_ne (fun z => by rw [z, fD] at e; cases e)]; exact e
  let Iv : Nat → Hp → Prop := fun i H => ∃ (S : Sto) (accV : List (Key × V)) (acc : List (Key × D)), HSt K (upd F Dp (.dK accV)) H S ∧ Same (mask F S1 H1) (mask (upd F Dp (.dK accV)) S H) ∧ RepK K (mask (upd F Dp (.dK accV)) S H) accV acc ∧ acc.length ≤ i ∧ dDcL gd dt dk dv (wipeD σ vs) Qf (ds.drop i) acc S
  refine ⟨fun i m H => m = ds.length - i ∧ i ≤ ds.length ∧ Iv i H, ⟨ds.length, by simp, Nat.zero_le _, S1, [], [], hst_beside hs hD, mask_beside hs hD, .nil, Nat.le_refl _, by simpa using h⟩, ?_⟩
  rintro i m H ⟨rfl, hi, S, accV, acc, hh, sm, ra, la, hl⟩
  by_cases hlt : i < ds.length
  · have ed : ds.drop i = ds[i] :: ds.drop (i + 1) := List.drop_eq_getElem_cons hlt
    rw [ed] at hl
    refine .inr ⟨jr.go i _ H S (fx accV) hh sm hlt, Iv (i + 1), fun H' p' => ⟨ds.length - (i + 1), by omega, rfl, hlt, p'⟩, fun x H' y => ?_⟩
    obtain ⟨g1, rx⟩ := jr.yld i _ H S x H' ds[i] (fx accV) hh sm (List.getElem?_eq_getElem hlt) y
    refine hg g1.hst (((er_wipe er vs).mono sm).mono g1.same) rx hl fun σ2 H2 σd2 S2 g2 er2 l2 o2 h2 => ⟨wipe_eq (by rw [l2, wipe_length]) o2, ?_⟩
    have g12 := g1.trans g2
    refine ht g2.hst er2 h2 (fun b H3 S3 g3 h3 => ?_) lxF
    have g13 := g12.trans g3
    cases b with
    | false => exact ⟨S3, accV, acc, g3.hst, sm.trans g13.same, ra.mono g13.same, Nat.le_succ_of_le la, h3⟩
    | true =>
      refine hk g3.hst (er2.mono g3.same) h3 (fun yk H4 yd S4 g4 r4 h4 => ?_) lxF
      refine hv g4.hst ((er2.mono g3.same).mono g4.same) h4 (fun yv H5 zd S5 g5 r5 h5 => ?_) lxF
      have g15 := (g13.trans g4).trans g5
      have e5 := (g5.hst.side Dp _ upd_same).1
      split at h5
      · next k ek =>
        have la' : accV.length < sizeLine := by rw [repK_len ra]; omega
        refine ⟨accV, k, keyD_see ek r4, e5, la', S5, putK accV k yv, putKD acc k zd, hst_side_chg g5.hst, ?_, ?_, ?_, h5⟩
        · rw [mask_side_chg (u := .dK accV)]; exact sm.trans g15.same
        · rw [mask_side_chg (u := .dK accV)]; exact repK_put r5 (ra.mono g15.same)
        · have := putKD_len acc k zd; omega
      · exact h5.elim
  · have e : i = ds.length := by omega
    subst e
    rw [List.drop_of_length_le (Nat.le_refl _)] at hl
    exact .inl ⟨jr.stop _ _ H S (fx accV) hh sm (Nat.le_refl _), fin Dp H S accV acc hD fD sD hh sm ra hl⟩
theorem mask_took {F : Hp} {H2 : Hp} {S2 : Sto} {Dp : Addr} {u : HO} {o : O} : mask F (put S2 Dp o) H2 = mask (upd F Dp u) S2 H2 := by
  funext b
  unfold mask
  by_cases e : b = Dp
  · subst e; rw [if_pos (.inl (by rw [put_same]; rfl)), if_pos (.inr (by rw [upd_same]; rfl))]
  · rw [put_ne e, upd_ne e]
/-- the done dict is taken into the store -/
theorem dc_took {F H2 : Hp} {S2 : Sto} {Dp : Addr} {accV : List (Key × V)} {acc : List (Key × D)} (fD : F Dp = none) (hh : HSt K (upd F Dp (.dK accV)) H2 S2) (ra : RepK K (mask (upd F Dp (.dK accV)) S2 H2) accV acc) : HSt K F H2 (put S2 Dp (.dct acc)) := by
  have e2 := (hh.side Dp _ upd_same).1
  refine ⟨fun b o q => ?_, fun b v q => ?_⟩
  · rw [mask_took (u := .dK accV)]
    by_cases hb : b = Dp
    · subst hb
      rw [put_same] at q; cases q
      rw [e2]; exact ook_dct ra
    · rw [put_ne hb] at q
      exact hh.at_ b o q
  · have hb : b ≠ Dp := fun z => by subst z; rw [fD] at q; cases q
    rw [put_ne hb]
    exact hh.side b v (by rw [upd_ne hb]; exact q)
theorem snd_dcM (hi : SndI K W wi id) (hg : SndG K vs g gd) (ht : SndT K WF tt dt) (hk : Snd K WF tk dk) (hv : Snd K WF tv dv) : Snd K W (tDc wi g tt tk tv vs) (dDcM id gd dt dk dv vs) := fun {σV F H σ S Qd E Q} hs er h hq hx => by
  refine hi hs er h (fun J H1 ds S1 g1 jr ⟨hz, h1⟩ => ?_) hx
  refine dc_run hg ht hk hv g1.hst (er.mono g1.same) (jw_jr jr) hz h1 fun Dp H2 S2 accV acc hD fD sD hh sm ra h2 => ?_
  have s2 := (hh.side Dp _ upd_same).2
  exact hq _ H2 _ _ ⟨dc_took fD hh ra, g1.same.trans (by rw [mask_took (u := .dK accV)]; exact sm)⟩ (.ref Dp) (h2 Dp s2)
end
section
variable {X : Cx} {W : WX} {pos : Pos} {g : TG} {gd : TGd} {vs : List Nat}
theorem snd_dcD {w : Vw} {t0 tk tv : TE} {d0 dk dv : TEd} {tt : TT} {dt : TTd} (hi : Snd X.K W t0 d0) (hg : SndG X.K vs g gd) (ht : SndT X.K WF tt dt) (hk : Snd X.K WF tk dk) (hv : Snd X.K WF tv dv) : Snd X.K W (tUnlE X (tDc (iVw X w t0) g tt tk tv vs)) (dDcD w d0 gd dt dk dv vs) := fun {σV F H σ S Qd E Q} hs er h hq hx => by
  unfold tUnlE tDc iVw tLockA
  refine hi hs er h (fun x H1 dx S1 g1 rx h1 => ?_) hx
  have er1 := er.mono g1.same
  have q1 := hq.next g1
  split at h1
  · next kds =>
    obtain ⟨hz, h1⟩ := h1
    cases rx with
    | dct hd rk =>
      rename_i d kvs
      rcases hd with hd | ⟨o, hd⟩
      · obtain ⟨s1, f1, hd1⟩ := mask_free hd
        refine ⟨d, kvs, rfl, .inr ⟨hd1, fun od nf => ⟨d, od, kvs, rfl, upd_same, ?_⟩⟩⟩
        have lk := lk_in (od := od) (w := .dK kvs) trivial hd1 s1 f1
        refine dc_run (Q := fun v => UnlK X (Q v)) hg ht hk hv (hst_lk g1.hst s1 f1 lk) (er1.lk lk) (jw_jx (jx_of w (.inl (by rw [mask_upd s1 f1, upd_same])) (rk.lk lk))) (by rw [Vw.len]; exact hz) h1 fun Dp H2 S2 accV acc hD fD sD hh sm ra h2 => ?_
        have s2 := (hh.side Dp _ upd_same).2
        have g2 : Good X.K F (upd H1 d (.frz od (.dK kvs))) S1 H2 (put S2 Dp (.dct acc)) := ⟨dc_took fD hh ra, by rw [mask_took (u := .dK accV)]; exact sm⟩
        obtain ⟨a, b, c, e⟩ := good_out (w := .dK kvs) trivial hd1 s1 f1 g2
        exact .inr ⟨d, od, _, a, nf, q1 _ _ _ _ c (.ref Dp) (h2 Dp s2)⟩
      · have hd1 := mask_le _ _ hd
        refine ⟨d, kvs, rfl, .inl ⟨o, hd1, d, o, kvs, rfl, hd1, ?_⟩⟩
        refine dc_run (Q := fun v => UnlK X (Q v)) hg ht hk hv g1.hst er1 (jw_jx (jx_of w (.inl hd) rk)) (by rw [Vw.len]; exact hz) h1 fun Dp H2 S2 accV acc hD fD sD hh sm ra h2 => ?_
        have s2 := (hh.side Dp _ upd_same).2
        have g2 : Good X.K F H1 S1 H2 (put S2 Dp (.dct acc)) := ⟨dc_took fD hh ra, by rw [mask_took (u := .dK accV)]; exact sm⟩
        exact .inl (q1 _ _ _ _ g2 (.ref Dp) (h2 Dp s2))
  · next p =>
    cases rx
    split at h1
    · next kds es =>
      obtain ⟨hz, h1⟩ := h1
      obtain ⟨kvs, hk', rk⟩ := g1.hst.at_ p _ es
      refine ⟨p, kvs, rfl, .inr ⟨hk', fun od nf => ⟨p, od, kvs, rfl, upd_same, ?_⟩⟩⟩
      have em := mask_as (F := F) (H := H1) (u := .frz od (.dK kvs)) es
      refine dc_run (Q := fun v => UnlK X (Q v)) (F := upd F p (.frz od (.dK kvs))) hg ht hk hv (hst_as g1.hst es) (by rw [em]; exact er1) (jw_jx (jx_of w (.inr upd_same) (by rw [em]; exact rk))) (by rw [Vw.len]; exact hz) h1 fun Dp H2 S2 accV acc hD fD sD hh sm ra h2 => ?_
      have s2 := (hh.side Dp _ upd_same).2
      have hp : p ≠ Dp := fun z => by rw [← z, upd_same] at fD; cases fD
      have g2 : Good X.K (upd F p (.frz od (.dK kvs))) (upd H1 p (.frz od (.dK kvs))) (era S1 p) H2 (put S2 Dp (.dct acc)) := ⟨dc_took fD hh ra, by rw [mask_took (u := .dK accV)]; exact sm⟩
      obtain ⟨a, b, c, e⟩ := good_back (w := .dK kvs) g1.hst es ⟨kvs, rfl, rk⟩ g2
      have b' : S2 p = none := by rw [put_ne hp] at b; exact b
      have ec : put (put S2 Dp (.dct acc)) p (.dct kds) = put (put S2 p (.dct kds)) Dp (.dct acc) := by
        funext q
        by_cases z : q = p
        · subst z; rw [put_same, put_ne hp, put_same]
        · rw [put_ne z]
          by_cases z2 : q = Dp
          · subst z2; rw [put_same, put_same]
          · rw [put_ne z2, put_ne z2, put_ne z]
      rw [ec] at c
      exact .inr ⟨p, od, _, a, nf, q1 _ _ _ _ c (.ref Dp) (h2 b' Dp (by rw [put_ne (Ne.symm hp)]; exact s2))⟩
    · cases h1
  · cases h1
end
/-! ### the rules -/
section
variable {X : Cx} {i : Nat} {y : Str} {py : Pos} {kx vx tg iter : Expr} {ifs : List Expr} {scope : Scope} {own : List (Str × Nat)} {pos spos : Pos} {wi : TI} {g : TG} {tt : TT} {tk tv : TE}
theorem swD_true {gs : List Comprehension} {l : Nat} {env : Env} (hk : env.scope.kind = .function) (hy : env.scope.names.lookup y = some .local) (hl : (py.line == pos.line) = true)
    (ha : (scope.names.any fun (n, k) => n == y && (k == .local || k == .cell)) = false) : swapsWith (.DictComp kx vx gs scope pos) (some (.Name y py)) l env = pure true := by
  have ky : env.kindOf y = some .local := hy
  have hb : env.blockKind = .function := by unfold Env.blockKind; rw [hk]; rfl
  unfold swapsWith
  simp only [hb, ky, ha, Expr.pos, hl]
  rfl
theorem ps_setDc (hc : X.calm = true) (hN : X.N.Nodup) (hy : X.N[i]? = some y) (hyl : X.env.scope.names.lookup y = some .local)
    (hsw : swapsWith (.DictComp kx vx [⟨tg, iter, ifs, 0⟩] scope pos) (some (.Name y py)) spos.line X.env = pure true) (hi : PI X tg iter wi) (ok : BlkOk X.N X.env.scope scope own)
    (hg : ∀ (s : Shared) (H : Hp) (C : Addr) (cl : List (Str × Addr)) (fp : List Addr), PG (X.blk s H scope (compEnvC scope cl C X.env) fp) tg g) (ht : ∀ (s : Shared) (H : Hp) (C : Addr) (cl : List (Str × Addr)) (fp : List Addr), PTs (X.blk s H scope (compEnvC scope cl C X.env) fp) ifs tt)
    (hk : ∀ (s : Shared) (H : Hp) (C : Addr) (cl : List (Str × Addr)) (fp : List Addr), PE (X.blk s H scope (compEnvC scope cl C X.env) fp) kx tk)
    (he : ∀ (s : Shared) (H : Hp) (C : Addr) (cl : List (Str × Addr)) (fp : List Addr), PE (X.blk s H scope (compEnvC scope cl C X.env) fp) vx tv) (hs : ∀ x, foldedSetIterable iter X.env x = pure x := by intro _; rfl) :
    PS X (.Assign [.Name y py] (.DictComp kx vx [⟨tg, iter, ifs, 0⟩] scope pos) spos) (tAsg (tDc wi g tt tk tv (own.map (·.2))) (gName i)) := by
  refine ⟨fun pins s σ H D I h => ?_⟩
  rw [exec_Assign_Name_used _ _ _ _ hsw]
  refine wpAny_bind (wpAny_standAt (wpAny_bind ?_))
  show wpAny _ X.A (do let _ ← comprehension (.DictComp kx vx [⟨tg, iter, ifs, 0⟩] scope pos) scope X.env (firstIterPos [⟨tg, iter, ifs, 0⟩] pos) newDict false (eval iter X.env) (some (assign (.Name y py) X.env))) _ _ s
  have h : tDc wi g tt tk tv (own.map (·.2)) σ H (fun x H1 => gName i x σ H1 D.nx) := h
  refine wpAny_bind (thn (dc_core (Qf := fun _ s' => SP X pins D .next s') hc hN I hi ok hg ht hk he hs h fun L C s' m H' I' q hn f => ?_) fun _ s' hq => wpAny_pure (wpAny_pure hq))
  show wpAny _ _ (assign (.Name y py) X.env (.ref L)) _ _ _
  refine wpAny_assign_Name (store_ok2 (v := V.ref L) I' hN hy (.inl hyl) rfl (fun s2 I2 ⟨a, sb, ha⟩ => ?_) (.inr hyl))
  obtain ⟨f0, f1, f2, f3, f4, f5⟩ := f
  have haC : C ≠ a := by
    rcases ha with z | z
    · rw [z]; exact f1
    · exact fun e => f4 y a z e.symm
  refine ⟨m, hn.sameBut sb haC, fun h3 sb3 => ?_⟩
  exact ⟨_, H', I2.turned (t' := s2.toks) (fun b o hb e => (sb3.2 b hb).trans e) f0 f1 f3 f4 f5, q⟩
end
section
variable {X : Cx} {W : WX} {w : Vw} {pos : Pos} {tg iter kx vx : Expr} {wi : TI} {id : TId} {te : TE} {d0 : TEd} {gd : TGd} {ifs : List Expr} {scope : Scope} {own : List (Str × Nat)} {dt : TTd} {dk dv : TEd}
theorem ve_dcM (hc : X.calm = true) (hN : X.N.Nodup) (hi : VI X W tg iter wi id) (ok : BlkOk X.N X.env.scope scope own) (hg : BlkG X scope (own.map (·.2)) tg gd) (ht : BlkT X scope ifs dt) (hk : BlkE X scope kx dk) (he : BlkE X scope vx dv) (hs : ∀ x, foldedSetIterable iter X.env x = pure x := by intro _; rfl) :
    VE X W (.DictComp kx vx [⟨tg, iter, ifs, 0⟩] scope pos) (tDc wi (gOf X.K (own.map (·.2)) gd) (tOfT X.K WF dt) (tOf X.K WF dk) (tOf X.K WF dv) (own.map (·.2))) (dDcM id gd dt dk dv (own.map (·.2))) := by
  have hg' := fun s H C cl fp => vg_of (hg s H C cl fp)
  have ht' := fun s H C cl fp => vts_of (ht s H C cl fp)
  have hk' := fun s H C cl fp => ve_of (hk s H C cl fp)
  have he' := fun s H C cl fp => ve_of (he s H C cl fp)
  exact ⟨pe_dc hc hN hi.run ok (fun s H C cl fp => (hg' s H C cl fp).run) (fun s H C cl fp => (ht' s H C cl fp).run) (fun s H C cl fp => (hk' s H C cl fp).run) (fun s H C cl fp => (he' s H C cl fp).run) hs,
    snd_dcM hi.snd (hg' {} noH 0 [] []).snd (ht' {} noH 0 [] []).snd (hk' {} noH 0 [] []).snd (he' {} noH 0 [] []).snd⟩
theorem ve_dcD (hc : X.calm = true) (hN : X.N.Nodup) (hi : VD X W w tg iter te d0) (ok : BlkOk X.N X.env.scope scope own) (hg : BlkG X scope (own.map (·.2)) tg gd) (ht : BlkT X scope ifs dt) (hk : BlkE X scope kx dk) (he : BlkE X scope vx dv) (hs : ∀ x, foldedSetIterable iter X.env x = pure x := by intro _; rfl) :
    VE X W (.DictComp kx vx [⟨tg, iter, ifs, 0⟩] scope pos) (tUnlE X (tDc (iVw X w te) (gOf X.K (own.map (·.2)) gd) (tOfT X.K WF dt) (tOf X.K WF dk) (tOf X.K WF dv) (own.map (·.2)))) (dDcD w d0 gd dt dk dv (own.map (·.2))) := by
  have hg' := fun s H C cl fp => vg_of (hg s H C cl fp)
  have ht' := fun s H C cl fp => vts_of (ht s H C cl fp)
  have hk' := fun s H C cl fp => ve_of (hk s H C cl fp)
  have he' := fun s H C cl fp => ve_of (he s H C cl fp)
  exact ⟨pe_unl (pe_dc hc hN hi.run ok (fun s H C cl fp => (hg' s H C cl fp).run) (fun s H C cl fp => (ht' s H C cl fp).run) (fun s H C cl fp => (hk' s H C cl fp).run) (fun s H C cl fp => (he' s H C cl fp).run) hs),
    snd_dcD hi.snd (hg' {} noH 0 [] []).snd (ht' {} noH 0 [] []).snd (hk' {} noH 0 [] []).snd (he' {} noH 0 [] []).snd⟩
theorem vs_setDcM {j : Nat} {y : Str} {py spos : Pos} (hc : X.calm = true) (hN : X.N.Nodup) (hi : VI X W tg iter wi id) (ok : BlkOk X.N X.env.scope scope own) (hg : BlkG X scope (own.map (·.2)) tg gd) (ht : BlkT X scope ifs dt) (hk0 : BlkE X scope kx dk) (he : BlkE X scope vx dv) (hy : X.N[j]? = some y := by rfl) (hyl : X.env.scope.names.lookup y = some .local := by rfl)
    (hk : X.env.scope.kind = .function := by rfl) (hln : (py.line == pos.line) = true := by rfl) (ha : (scope.names.any fun (n, k) => n == y && (k == .local || k == .cell)) = false := by rfl) (hl2 : spos.line = pos.line := by rfl) (hs : ∀ x, foldedSetIterable iter X.env x = pure x := by intro _; rfl) :
    VS X W (.Assign [.Name y py] (.DictComp kx vx [⟨tg, iter, ifs, 0⟩] scope pos) spos) (tAsg (tDc wi (gOf X.K (own.map (·.2)) gd) (tOfT X.K WF dt) (tOf X.K WF dk) (tOf X.K WF dv) (own.map (·.2))) (gName j)) (dAsg (dDcM id gd dt dk dv (own.map (·.2))) (hName j)) := by
  have hg' := fun s H C cl fp => vg_of (hg s H C cl fp)
  have ht' := fun s H C cl fp => vts_of (ht s H C cl fp)
  have hk' := fun s H C cl fp => ve_of (hk0 s H C cl fp)
  have he' := fun s H C cl fp => ve_of (he s H C cl fp)
  exact vs_set (ps_setDc hc hN hy hyl (swD_true hk hyl hln ha) hi.run ok (fun s H C cl fp => (hg' s H C cl fp).run) (fun s H C cl fp => (ht' s H C cl fp).run) (fun s H C cl fp => (hk' s H C cl fp).run) (fun s H C cl fp => (he' s H C cl fp).run) hs)
    (snd_dcM hi.snd (hg' {} noH 0 [] []).snd (ht' {} noH 0 [] []).snd (hk' {} noH 0 [] []).snd (he' {} noH 0 [] []).snd)
theorem vs_setDcD {j : Nat} {y : Str} {py spos : Pos} (hc : X.calm = true) (hN : X.N.Nodup) (hi : VD X W w tg iter te d0) (ok : BlkOk X.N X.env.scope scope own) (hg : BlkG X scope (own.map (·.2)) tg gd) (ht : BlkT X scope ifs dt) (hk0 : BlkE X scope kx dk) (he : BlkE X scope vx dv) (hy : X.N[j]? = some y := by rfl) (hyl : X.env.scope.names.lookup y = some .local := by rfl)
    (hk : X.env.scope.kind = .function := by rfl) (hln : (py.line == pos.line) = true := by rfl) (ha : (scope.names.any fun (n, k) => n == y && (k == .local || k == .cell)) = false := by rfl) (hl2 : spos.line = pos.line := by rfl) (hs : ∀ x, foldedSetIterable iter X.env x = pure x := by intro _; rfl) :
    VS X W (.Assign [.Name y py] (.DictComp kx vx [⟨tg, iter, ifs, 0⟩] scope pos) spos) (tAsg (tUnlE X (tDc (iVw X w te) (gOf X.K (own.map (·.2)) gd) (tOfT X.K WF dt) (tOf X.K WF dk) (tOf X.K WF dv) (own.map (·.2)))) (gName j)) (dAsg (dDcD w d0 gd dt dk dv (own.map (·.2))) (hName j)) := by
  have hg' := fun s H C cl fp => vg_of (hg s H C cl fp)
  have ht' := fun s H C cl fp => vts_of (ht s H C cl fp)
  have hk' := fun s H C cl fp => ve_of (hk0 s H C cl fp)
  have he' := fun s H C cl fp => ve_of (he s H C cl fp)
  exact vs_set (ps_unl (ps_setDc hc hN hy hyl (swD_true hk hyl hln ha) hi.run ok (fun s H C cl fp => (hg' s H C cl fp).run) (fun s H C cl fp => (ht' s H C cl fp).run) (fun s H C cl fp => (hk' s H C cl fp).run) (fun s H C cl fp => (he' s H C cl fp).run) hs))
    (snd_dcD hi.snd (hg' {} noH 0 [] []).snd (ht' {} noH 0 [] []).snd (hk' {} noH 0 [] []).snd (he' {} noH 0 [] []).snd)
end
section
variable {w : Vw} {id : TId} {d0 : TEd} {gd : TGd} {dt : TTd} {dk dv : TEd} {vs : List Nat} {σ : Sd} {S : Sto} {Q : QD} {E : XD}
@[simp ↓] theorem z_dDcM : dDcM id gd dt dk dv vs σ S Q E = id σ S (fun ds S1 => ds.length ≤ sizeLine ∧ dDcL gd dt dk dv (wipeD σ vs) (fun acc S2 => ∀ p, S2 p = none → Q (.ref p) (put S2 p (.dct acc))) ds [] S1) E := rfl
@[simp ↓] theorem z_dDcD : dDcD w d0 gd dt dk dv vs σ S Q E = d0 σ S (fun x S1 => match x with
  | .dct kds => kds.length ≤ sizeLine ∧ dDcL gd dt dk dv (wipeD σ vs) (fun acc S2 => ∀ p, S2 p = none → Q (.ref p) (put S2 p (.dct acc))) (w.ds kds) [] S1
  | .ref p => match S1 p with
    | some (.dct kds) => kds.length ≤ sizeLine ∧ dDcL gd dt dk dv (wipeD σ vs) (fun acc S2 => S2 p = none → ∀ q, (put S2 p (.dct kds)) q = none → Q (.ref q) (put (put S2 p (.dct kds)) q (.dct acc))) (w.ds kds) [] (era S1 p)
    | _ => False
  | _ => False) E := rfl
end
/-! ### x.extend(y): two lists that may change -/
def dExtend (d0 : TEd) (da : TAd) : TEd := fun σ S Q E => d0 σ S (fun x S1 => match x with
  | .ref p => (∃ es, S1 p = some (.lst es)) ∧ da σ S1 (fun vs S2 => match vs with
    | [.ref q] => match S2 p, S2 q with
      | some (.lst ds), some (.lst es) => ds.length + es.length ≤ sizeLine ∧ Q .non (put S2 p (.lst (ds ++ es)))
      | _, _ => False
    | _ => False) E
  | _ => False) E
section
variable {X : Cx} {W : WX} {o : Expr} {to : TE} {d0 : TEd} {pos : Pos}
theorem snd_extend {ta1 : TA} {da1 : TAd} (ho : Snd X.K W to d0) (ha : SndA X.K W ta1 da1) : Snd X.K W (tBM X.K "list" rExtend to ta1) (dExtend d0 da1) := fun {σV F H σ S Qd E Q} hs er h hq hx =>
  ho hs er h (fun x H1 dx S1 g1 r1 h1 => by
    split at h1
    · next p =>
      cases r1
      obtain ⟨⟨es, he⟩, h1⟩ := h1
      obtain ⟨xs1, e1, _⟩ := g1.hst.at_ p _ he
      refine ⟨.inl ⟨rfl, xs1, SqL.of e1⟩, ha g1.hst (er.mono g1.same) h1 (fun vs H2 ds2 S2 g2 r2 h2 => ?_) (hx.next g1)⟩
      split at h2
      · next q =>
        cases r2 with
        | cons r2 r3 =>
          cases r3
          cases r2
          split at h2
          · next ds es2 e2 e4 =>
            obtain ⟨xs, e3, q1⟩ := g2.hst.at_ p _ e2
            obtain ⟨zs, e5, q2⟩ := g2.hst.at_ q _ e4
            refine ⟨p, q, xs, zs, rfl, rfl, e3, e5, by rw [q1.length, q2.length]; exact h2.1, hq _ _ _ _ ((g1.trans g2).trans ⟨hst_chg g2.hst e2 (ook_lst (q1.append q2)), by rw [mask_chg e2]; exact Same.refl _⟩) .non h2.2⟩
          · cases h2
      · cases h2
    · cases h1) hx
theorem ve_ext {e1 : Expr} {apos : Pos} {ta1 : TA} {da1 : TAd} (ho : VE X W o to d0) (ha : VA X W [e1] ta1 da1) (hbase : attributeBase o "extend" X.env (eval o X.env) = eval o X.env := by rfl)
    (hfew : ((backTo pos (starEach [e1] X.env)).all (fun x => !x.1) && (backToKw pos (keywordEach [] X.env)).all (fun x => x.1.isSome)
      && decide ([e1].length + ([] : List Keyword).length + (if ([] : List Keyword).isEmpty then 0 else 1) < 30)) = true := by rfl)
    (hline : (apos.endLine == pos.line) = true := by rfl) (hs : starEach [e1] X.env = (false, eval e1 X.env) :: starEach [] X.env := by rfl) (hpl : (backTo pos (starEach [] X.env)).any (·.1) = false := by rfl) :
    VE X W (.Call (.Attribute o "extend" apos) [e1] [] pos) (tBM X.K "list" rExtend to ta1) (dExtend d0 da1) :=
  ⟨pe_bm PySem.F.plainAttrs_list PySem.F.slot_list_extend PySem.F.type_list_extend mt_extend ho.run ha.run hbase hfew hline hs hpl, snd_extend ho.snd ha.snd⟩
@[simp ↓] theorem z_dExtend {da : TAd} {σ : Sd} {S : Sto} {Q : QD} {E : XD} : dExtend d0 da σ S Q E = d0 σ S (fun x S1 => match x with
  | .ref p => (∃ es, S1 p = some (.lst es)) ∧ da σ S1 (fun vs S2 => match vs with
    | [.ref q] => match S2 p, S2 q with
      | some (.lst ds), some (.lst es) => ds.length + es.length ≤ sizeLine ∧ Q .non (put S2 p (.lst (ds ++ es)))
      | _, _ => False
    | _ => False) E
  | _ => False) E := rfl
/-! ### a try whose body raises nothing -/
def dThru (tb : TSd) : TSd := fun D σ S => tb { D with ex := fun _ => XF } σ S
@[simp ↓] theorem z_dThru {tb : TSd} {D : EndsD} {σ : Sd} {S : Sto} : dThru tb D σ S = tb { D with ex := fun _ => XF } σ S := rfl
theorem vs_thru {body : List Stmt} {h₀ : ExceptHandler} {hs : List ExceptHandler} {tb : TSd} (hb : ∃ t, VSs X.nox WF body t tb) : VS X W (.Try body (h₀ :: hs) [] [] pos) (sOf X.K WF tb) (dThru tb) := by
  have v := vss_of hb
  refine ⟨⟨fun pins s σ H D I h => ?_⟩, fun {σV F H σ S Dd D} a b c d => v.snd a b c ⟨d.nx, d.rt, d.bk, d.ct, fun _ _ _ _ _ _ => ls_xf⟩⟩
  refine wpAny_Try_except (wpAny_mono (v.run.run pins s σ H D (I.wish _) h) (fun f s1 q => ?_) fun e s1 z => z.elim)
  have q' : SP X pins D f s1 := q.unwish
  cases f with
  | next =>
    obtain ⟨σ', H', I', q2⟩ := q'
    exact (pss_nil (X := X)).run pins s1 σ' H' D I' q2
  | ret v => exact q'
  | brk => exact q'
  | cont => exact q'
end
end VL

/-! VL: repr of dicts whose values are plain things, tuples and lists. -/
namespace VL
open PySem PySem.Spec PyProof.Rows L2
def toPk : List (Key × D) → Option (List (PyData × PyData))
  | [] => some []
  | (k, d) :: r => match toP d, toPk r with
    | some p, some ps => some ((keyP k, p) :: ps)
    | _, _ => none
theorem repr_dictL {prog : Program} {w : World} {a : Addr} {o : Obj} {es : Array DictEntry} {n : Nat} {kvs : List (PyData × PyData)} {as bs : List Addr} {A : Around} {E : Value → Shared → Prop} {s : Shared} {Q : Value → Shared → Prop}
    (h1 : s.heap.get? a = some o) (h2 : o.cls = .type "dict") (h3 : o.data = .dict es n) (r1 : ReadsAll s.heap (es.toList.map (·.key)) (kvs.map (·.1)) as) (r2 : ReadsAll s.heap (es.toList.map (·.val)) (kvs.map (·.2)) bs)
    (n1 : PyData.hasDictAll (kvs.map (·.1)) = false) (n2 : PyData.hasDictAll (kvs.map (·.2)) = false) (lo : (a == sysModules) = false) (hs : (PyData.dict kvs).showable = true) (hz : (PyData.dict kvs).shown.length ≤ sizeLine) (hg : A.guards = some []) (hu : A.units + ((PyData.dict kvs).depth + 1) < cLine)
    (hQ : ∀ h' u tk, (∀ b o, s.heap.get? b = some o → h'.get? b = some o) → Q (.str (PyData.dict kvs).shown u) { s with heap := h', toks := tk }) : wpAny (model prog w) A (call (.builtin "repr") [.ref a]) Q E s := by
  have sz : (dictText (PyData.shownKv kvs)).length ≤ sizeLine := by rw [PyData.shown] at hz; exact hz
  have tw := PyData.showableKv_split kvs (by rw [PyData.showable] at hs; exact hs)
  have no : ∀ {l : List PyData} {cs : List Addr}, PyData.hasDictAll l = false → PyData.hasDictAll l = true → sysModules ∉ cs := fun e z => by rw [e] at z; cases z
  obtain ⟨c1, m1, k1⟩ := ReprAllK.of_readsAll (prog := prog) (w := w) r1 tw.1 (no n1) (fun t ht => (PyData.shownKv_key_le kvs t ht).elim fun p hp => Nat.le_trans hp.2 (Nat.le_trans (dictText_mem_le hp.1) sz))
  obtain ⟨c2, m2, k2⟩ := ReprAllK.of_readsAll (prog := prog) (w := w) r2 tw.2 (no n2) (fun t ht => (PyData.shownKv_val_le kvs t ht).elim fun p hp => Nat.le_trans hp.2 (Nat.le_trans (dictText_mem_le hp.1) sz))
  have mm : ReadAtMost s.heap (PyData.depthKv kvs) (c1 ++ c2) := (m1.mono (PyData.depthAll_keys_le kvs)).append (m2.mono (PyData.depthAll_vals_le kvs))
  have na : a ∉ c1 ++ c2 := not_mem_of_deeper (.dict h1 h2 h3 r1 r2) (by simp only [PyData.depth]; omega) mm
  have ent := ReprEntriesK.of_two es.toList _ _ (k1.more_le (fun b hb => List.mem_append_left c2 hb) (PyData.depthAll_keys_le kvs)) (k2.more_le (fun b hb => List.mem_append_right c1 hb) (PyData.depthAll_vals_le kvs))
  simp only [PyData.depth] at hu
  refine call_repr_slot (T := "dict") (idr := "dict.__repr__") (by omega) ⟨o, h1, h2⟩ F.slot_dict_repr ?_
  refine call_dict_reprK (h₀ := s.heap) h1 h2 h3 lo na ent hg (fun b _ => Clear.nil b) (by show A.units + 1 + (PyData.depthKv kvs + 1) < cLine; omega) (fun _ _ e => e) (fun h' u tk hk => ⟨_, _, rfl, ?_⟩) (by rw [← PyData.shownKv_eq]; exact sz)
  have q := hQ h' u tk hk
  simp only [PyData.shown, PyData.shownKv_eq] at q
  exact q
section
variable {X : Cx} {pins : List (Addr × Obj)} {σ : L2.St} {F H : Hp} {S : Sto} {s : Shared}
theorem reads_Pk (I : Inv X pins σ H s) : ∀ (kds : List (Key × D)) {kvs : List (Key × V)} {vs : List (Key × Value)} {es : List DictEntry} {ps : List (PyData × PyData)}, RepK X.K (mask F S H) kvs kds → toPk kds = some ps → KV kvs vs → Pairs (mixKind X.prog X.w) es vs →
    (∃ as, ReadsAll s.heap (es.map (·.key)) (ps.map (·.1)) as) ∧ (∃ bs, ReadsAll s.heap (es.map (·.val)) (ps.map (·.2)) bs) ∧ PyData.hasDictAll (ps.map (·.1)) = false ∧ PyData.hasDictAll (ps.map (·.2)) = false
  | [], kvs, vs, es, ps, r, e, rk, pr => by
    cases r
    rw [toPk] at e; cases e
    cases rk
    cases pr
    exact ⟨⟨_, .nil⟩, ⟨_, .nil⟩, rfl, rfl⟩
  | (k, d) :: kds, kvs, vs, es, ps, r, e, rk, pr => by
    cases r with
    | cons h r =>
      rw [toPk] at e
      cases e1 : toP d with
      | none => rw [e1] at e; cases e
      | some p =>
        cases e2 : toPk kds with
        | none => rw [e1, e2] at e; cases e
        | some qs =>
          rw [e1, e2] at e
          cases e
          unfold KV at rk
          cases rk with
          | cons hk rk =>
            obtain ⟨hk1, hk2⟩ := hk
            cases pr with
            | cons p1 p2 p3 =>
              obtain ⟨⟨as, ia⟩, ⟨bs, ib⟩, n1, n2⟩ := reads_Pk I kds r e2 (show KV _ _ from rk) p3
              have dp := dp_of h e1
              refine ⟨?_, ?_, ?_, ?_⟩
              · dsimp only at hk1
                subst hk1
                rcases keyIs_shape (show keyIs _ _ = true from p1) with ⟨i, t, ek, ev⟩ | ⟨x, t, ek, ev⟩
                · exact ⟨_, .cons (by dsimp only; rw [ek, ev]; exact .int i t) ia⟩
                · exact ⟨_, .cons (by dsimp only; rw [ek, ev]; exact .str x t) ia⟩
              · dsimp only at hk2 ⊢
                obtain ⟨cs, rd⟩ := Dp.reads I p _ _ dp hk2
                exact ⟨_, .cons (by dsimp only; rw [p2]; exact rd) ib⟩
              · rw [List.map_cons, PyData.hasDictAll, n1, Bool.or_false]
                cases k <;> rfl
              · rw [List.map_cons, PyData.hasDictAll, n2, Bool.or_false]
                exact dp_nodict.1 dp
end
def rReprL (K : PySem.W.Frag) : List V → Hp → VK → Prop := fun xs H Q => rRepr K xs H Q ∨ ∃ (a : Addr) (kvs : List (Key × V)) (F : Hp) (S : Sto) (kds : List (Key × D)) (ps : List (PyData × PyData)), xs = [.ref a] ∧ Rd H a (.dK kvs) ∧ RepK K (mask F S H) kvs kds ∧ toPk kds = some ps ∧
  (PyData.dict ps).showable = true ∧ (PyData.dict ps).depth ≤ 64 ∧ (PyData.dict ps).shown.length ≤ sizeLine ∧ Q (.str (PyData.dict ps).shown) H
def dReprL : RCd := fun ds S Q => match ds with
  | [x] => match vw S x with
    | .dct kds => match toPk kds with
      | some ps => (PyData.dict ps).showable = true ∧ (PyData.dict ps).depth ≤ 64 ∧ (PyData.dict ps).shown.length ≤ sizeLine ∧ Q (.str (PyData.dict ps).shown) S
      | none => False
    | _ => dRepr ds S Q
  | _ => False
section
variable {X : Cx}
theorem call_reprL (hgd : X.A.guards = some []) (hu : X.A.units + 66 < cLine) : CallR X (.builtin "repr") (rReprL X.K) := fun pins s σ H xs us Q I r h => by
  rcases h with h | ⟨a, kvs, F, S, kds, ps, rfl, hd, rk, ek, h1, h2, h3, q⟩
  · exact call_reprD hgd hu pins s σ H xs us Q I r h
  · obtain ⟨u, rfl, ru⟩ := vals1 r
    cases ru
    obtain ⟨z, lo, vs, rel, o, es, ep, g1, g2, g3, g4, g5, g6⟩ := dk_rd I.hok hd
    obtain ⟨⟨as, r1⟩, ⟨bs, r2⟩, n1, n2⟩ := reads_Pk I kds rk ek rel g5
    exact repr_dictL g1 g2.1 g3 (by simpa using r1) (by simpa using r2) n1 n2 lo h1 h3 hgd (by omega) (fun h' u tk hk => ⟨.str _, H, I.kept (t' := tk) hk, ⟨u, rfl⟩, q⟩)
theorem snd_reprL : SndC X.K (rReprL X.K) dReprL := fun {xs ds F H S Qd Q} hs r h hq => by
  unfold dReprL at h; split at h
  · next x =>
    split at h
    · next kds e =>
      split at h
      · next ps ep =>
        cases r with
        | cons r1 r2 =>
          cases r2
          obtain ⟨a, kvs, rfl, ha, rk⟩ := see_dct hs r1 e
          exact .inr ⟨a, kvs, F, S, kds, ps, rfl, ha, rk, ep, h.1, h.2.1, h.2.2.1, hq _ H _ S (.refl hs) (.str _) h.2.2.2⟩
      · cases h
    · exact .inl (snd_repr hs r h hq)
  · cases h
end
end VL

/-! VL: dict comprehensions, by hand. -/
namespace VL
open PySem PySem.Spec PyProof.Rows L2
def oneC (gd : TGd) (dt : TTd) (dk dv : TEd) (σ0 : Sd) (d : D) (S : Sto) (R : Option (Key × D) → Sto → Prop) : Prop := gd d σ0 S fun σ1 S1 => dt σ1 S1 (fun b S2 => if b = true then dk σ1 S2 (fun y S3 => dv σ1 S3 (fun z S4 => match keyD y with
    | some k => R (some (k, z)) S4
    | none => False) XF) XF else R none S2) XF
def putAll (acc kvs : List (Key × D)) : List (Key × D) := kvs.foldl (fun a kv => putKD a kv.1 kv.2) acc
theorem putKD_new {acc : List (Key × D)} {k : Key} {d : D} (h : k ∉ acc.map (·.1)) : putKD acc k d = acc ++ [(k, d)] := by
  unfold putKD
  rw [if_neg]
  intro z
  obtain ⟨kv, m, e⟩ := List.any_eq_true.mp z
  exact h (List.mem_map.mpr ⟨kv, m, by simpa using e⟩)
theorem putAll_new : ∀ (kvs acc : List (Key × D)), ((acc ++ kvs).map (·.1)).Nodup → putAll acc kvs = acc ++ kvs
  | [], acc, _ => by rw [List.append_nil]; rfl
  | kv :: kvs, acc, h => by
    have h' := h
    rw [List.map_append, List.map_cons] at h'
    have n1 : kv.1 ∉ acc.map (·.1) := fun m => (List.nodup_append.mp h').2.2 _ m _ (List.mem_cons_self ..) rfl
    show putAll (putKD acc kv.1 kv.2) kvs = _
    rw [putKD_new n1, putAll_new kvs (acc ++ [kv]) (by rw [List.append_assoc]; exact h), List.append_assoc]
    rfl
theorem dc_map {α : Type} {gd : TGd} {dt : TTd} {dk dv : TEd} {σ0 : Sd} {Q : List (Key × D) → Sto → Prop} {S : Sto} (g : α → D) (f : α → Option (Key × D)) : ∀ (l : List α) (acc : List (Key × D)), (∀ x ∈ l, ∀ R : Option (Key × D) → Sto → Prop, R (f x) S → oneC gd dt dk dv σ0 (g x) S R) →
    Q (putAll acc (l.filterMap f)) S → dDcL gd dt dk dv σ0 Q (l.map g) acc S
  | [], acc, _, h => h
  | x :: l, acc, st, h => by
    have z := st x (List.mem_cons_self ..) (fun o S' => match o with
      | some kv => dDcL gd dt dk dv σ0 Q (l.map g) (putKD acc kv.1 kv.2) S'
      | none => dDcL gd dt dk dv σ0 Q (l.map g) acc S')
    refine z ?_
    rw [List.filterMap_cons] at h
    have st' := fun x hx => st x (List.mem_cons_of_mem _ hx)
    cases e : f x with
    | none => rw [e] at h; exact dc_map g f l acc st' h
    | some kv => rw [e] at h; exact dc_map g f l _ st' h
/-- unlike keys: the dict is what is gathered -/
theorem dc_new {α : Type} {gd : TGd} {dt : TTd} {dk dv : TEd} {σ0 : Sd} {Q : List (Key × D) → Sto → Prop} {S : Sto} (g : α → D) (f : α → Option (Key × D)) (l : List α) (nd : ((l.filterMap f).map (·.1)).Nodup) (st : ∀ x ∈ l, ∀ R : Option (Key × D) → Sto → Prop, R (f x) S → oneC gd dt dk dv σ0 (g x) S R)
    (h : Q (l.filterMap f) S) : dDcL gd dt dk dv σ0 Q (l.map g) [] S := dc_map g f l [] st (by rw [putAll_new _ _ (by simpa using nd)]; exact h)
end VL

namespace K48
open PySem PySem.Spec PyProof.Rows L2 VL
def top (i : Nat) : Stmt := PySem.Challenge.pw_panelwatch_k48_pictures_by_histories.main.body.getD i (.Pass ⟨0, 0, 0, 0⟩)
abbrev st_is_whole : Stmt := top 24
abbrev st_is_name : Stmt := top 25
abbrev st_is_time : Stmt := top 26
abbrev st_is_mark : Stmt := top 27
abbrev st_is_word : Stmt := top 38
abbrev st_is_point : Stmt := top 39
abbrev st_is_rule : Stmt := top 40
abbrev st_is_cause : Stmt := top 41
abbrev st_is_lock : Stmt := top 42
abbrev st_is_command : Stmt := top 43
abbrev st_is_relation : Stmt := top 44
abbrev st_are_such : Stmt := top 45
abbrev st_names_of : Stmt := top 46
abbrev st_is_sign : Stmt := top 49
abbrev st_need_history : Stmt := top 50
abbrev st_need_works : Stmt := top 53
abbrev st_need_histories : Stmt := top 54
abbrev st_need_time : Stmt := top 55
abbrev st_worth_at : Stmt := top 56
abbrev st_picture_at : Stmt := top 57
abbrev st__law_cell : Stmt := top 59
abbrev st__law_box : Stmt := top 60
abbrev st__law_take : Stmt := top 61
abbrev st__law_names : Stmt := top 62
abbrev st__law_mixed : Stmt := top 63
abbrev st__law_points : Stmt := top 64
abbrev st__law_history : Stmt := top 71
abbrev st__law_histories : Stmt := top 72
abbrev st__law_picture_at : Stmt := top 73
abbrev st_law : Stmt := top 74
abbrev st_Works___init__ : Stmt := inClass (top 47) 0
abbrev st_Works_take_points : Stmt := inClass (top 47) 1
abbrev st_Works_take_rules : Stmt := inClass (top 47) 2
abbrev st_Works_take_causes : Stmt := inClass (top 47) 3
abbrev st_Works_take_commands : Stmt := inClass (top 47) 5
abbrev st_Works_take_relations : Stmt := inClass (top 47) 6
abbrev st_Works_points : Stmt := inClass (top 47) 7
abbrev st_Works_places : Stmt := inClass (top 47) 12
abbrev st_Works_has_point : Stmt := inClass (top 47) 13
abbrev st_Works_point : Stmt := inClass (top 47) 17
abbrev st_Works_is_worth : Stmt := inClass (top 47) 21
/-- what is asked of the classes -/
structure Txt (K : PySem.W.Frag) (mg : Str → Option Value) : Prop where
  b_all : mg "all" = none
  b_bool : mg "bool" = none
  b_dict : mg "dict" = none
  b_enumerate : mg "enumerate" = none
  b_int : mg "int" = none
  b_isinstance : mg "isinstance" = none
  b_len : mg "len" = none
  b_list : mg "list" = none
  b_max : mg "max" = none
  b_min : mg "min" = none
  b_range : mg "range" = none
  b_repr : mg "repr" = none
  b_set : mg "set" = none
  b_sorted : mg "sorted" = none
  b_str : mg "str" = none
  b_tuple : mg "tuple" = none
  b_zip : mg "zip" = none
  c_MOST_TIME : ∃ t, mg "MOST_TIME" = some (.int 9999 t)
  c_MOST_LEVEL : ∃ t, mg "MOST_LEVEL" = some (.int 63 t)
  c_MOST_LOCKS : ∃ t, mg "MOST_LOCKS" = some (.int 4 t)
  c_MOST_SIGNS : ∃ t, mg "MOST_SIGNS" = some (.int 100 t)
  c_MOST_POINTS : ∃ t, mg "MOST_POINTS" = some (.int 8 t)
  c_MOST_PLACES : ∃ t, mg "MOST_PLACES" = some (.int 3 t)
  c_MOST_RULES : ∃ t, mg "MOST_RULES" = some (.int 6 t)
  c_MOST_CAUSES : ∃ t, mg "MOST_CAUSES" = some (.int 8 t)
  c_MOST_COMMANDS : ∃ t, mg "MOST_COMMANDS" = some (.int 4 t)
  c_MOST_RELATIONS : ∃ t, mg "MOST_RELATIONS" = some (.int 5 t)
  c_LETTERS : ∃ t, mg "LETTERS" = some (.str "abcdefghijklmnopqrstuvwxyz" t)
  g_MARKS : mg "MARKS" = some (.ref (He.ga K "MARKS"))
  t_MARKS : ∀ M : Hp, Rep K M (.ref (He.ga K "MARKS")) (.tup [.str "good", .str "odd"])
  g_KINDS : mg "KINDS" = some (.ref (He.ga K "KINDS"))
  t_KINDS : ∀ M : Hp, Rep K M (.ref (He.ga K "KINDS")) (.tup [.str "level", .str "switch"])
  g_WORDS : mg "WORDS" = some (.ref (He.ga K "WORDS"))
  t_WORDS : ∀ M : Hp, Rep K M (.ref (He.ga K "WORDS")) (.tup [.str "above", .str "below"])
  f_is_cause : mg "is_cause" = some (.ref (He.ga K "is_cause"))
  f_is_command : mg "is_command" = some (.ref (He.ga K "is_command"))
  f_is_point : mg "is_point" = some (.ref (He.ga K "is_point"))
  f_is_relation : mg "is_relation" = some (.ref (He.ga K "is_relation"))
  f_is_rule : mg "is_rule" = some (.ref (He.ga K "is_rule"))
  o_Works : mg "Works" = some (.ref (He.ga K "Works"))
  C_Works : Cls K (He.ga K "Works")
  a_Works_all_causes : NoAttr K (He.ga K "Works") "all_causes"
  a_Works_all_commands : NoAttr K (He.ga K "Works") "all_commands"
  a_Works_all_points : NoAttr K (He.ga K "Works") "all_points"
  a_Works_all_relations : NoAttr K (He.ga K "Works") "all_relations"
  a_Works_all_rules : NoAttr K (He.ga K "Works") "all_rules"
  E_Works : EqC K (He.ga K "Works")
variable {P : Program} {w : World} {K : PySem.W.Frag} {mg : Str → Option Value} {base : Heap}
theorem sc_is_whole : FnScope ["thing", "low", "high"] ["thing", "low", "high"] (defScope st_is_whole) := ⟨rfl, rfl, rfl, by decide +kernel, rfl, by decide +kernel, by decide +kernel⟩
def d_is_whole (K : PySem.W.Frag) : TSd := (dRet (dAndV (dCB dIsi (dCons (dVar 0) (dCons (dC (.ty "int")) dNil))) (dAndV (dNotV (dCB dIsi (dCons (dVar 0) (dCons (dC (.ty "bool")) dNil)))) (dChain dLe dLe (dVar 1) (dVar 0) (dVar 2)))))
theorem w_is_whole {k : Nat} {f : Addr} {cdv : Value} {A : Around} {outer : List Env} {s : Shared} {H : Hp} {E : XK} (T : Txt K mg) (hgd : A.guards = some []) (hr : Room k (A.deeper (envOfC "is_whole" (defScope st_is_whole) s.heap.objs.size f cdv))) :
    ∃ t, VSs (cxOf (L2.CX P w) P w K mg base ["thing", "low", "high"] "is_whole" (defScope st_is_whole) f cdv A outer s H E) (wDef E) (defBody st_is_whole) t (d_is_whole K) :=
  have hu1 := room1 hr
  have hu64 := hr.units
  have hu66 := room66 hr
  ⟨_, by exact (vss_one (vs_ret (ve_and (ve_cb snd_isi call_isA T.b_isinstance (va_cons (ve_v 0) (va_cons (ve_ty T.b_int VL.boot_int) va_nil))) (ve_and (ve_not (ve_cb snd_isi call_isA T.b_isinstance (va_cons (ve_v 0) (va_cons (ve_ty T.b_bool VL.boot_bool) va_nil)))) (ve_one (ve_chain op_le snd_iCmp op_le snd_iCmp (ve_v 1) (ve_v 0) (ve_v 2)))))))⟩
/-- what is left to be shown of is_whole: BodyOk -/
theorem g_is_whole {k : Nat} {f : Addr} {fd : FuncData} {s_ : Spd} (T : Txt K mg) (Fd : FunD K "is_whole" "is_whole" (defArgs st_is_whole) (defBody st_is_whole) (defScope st_is_whole) [] [] f fd)
    (len : ∀ ds S Q E, s_ ds S Q E → ds.length = 3) (ok : BodyOk (d_is_whole K) ["thing", "low", "high"] s_) : FnG P w K mg base (k + 1) f fd ["thing", "low", "high"] (lift K s_) :=
  def_ok Fd sc_is_whole len fun cdv A outer s H E hgd hr => (w_is_whole T hgd hr ).elim fun t v => ⟨t, _, v, ok⟩
theorem r_is_whole {k : Nat} {f : Addr} {fd : FuncData} {s_ : Spd} (T : Txt K mg) (hm : mg "is_whole" = some (.ref f)) (Fd : FunD K "is_whole" "is_whole" (defArgs st_is_whole) (defBody st_is_whole) (defScope st_is_whole) [] [] f fd)
    (len : ∀ ds S Q E, s_ ds S Q E → ds.length = 3) (ok : BodyOk (d_is_whole K) ["thing", "low", "high"] s_) : Rdy P w K mg base (k + 1) "is_whole" [] [] s_ :=
  rdy_of (g_is_whole T Fd  len ok) hm Fd.kp (Fd.bindsN fun _ _ _ _ _ _ us hl => match us, hl with | [_, _, _], _ => rfl)
theorem sc_is_name : FnScope ["thing", "sign"] ["thing"] (defScope st_is_name) := ⟨rfl, rfl, rfl, by decide +kernel, rfl, by decide +kernel, by decide +kernel⟩
def d_is_name (K : PySem.W.Frag) : TSd := (dRet (dAndV (dCB dIsi (dCons (dVar 0) (dCons (dC (.ty "str")) dNil))) (dAndV (dChain dLe dLe (dC (.int 1)) (dCB dLen (dCons (dVar 0) dNil)) (dC (.int 8))) (dCB dAll (dCons (dLc (nAny (dVar 0)) (hName 1) dYes (dOp (dInG id) (dVar 1) (dC (.str "abcdefghijklmnopqrstuvwxyz"))) [1]) dNil)))))
theorem w_is_name {k : Nat} {f : Addr} {cdv : Value} {A : Around} {outer : List Env} {s : Shared} {H : Hp} {E : XK} (T : Txt K mg) (hgd : A.guards = some []) (hr : Room k (A.deeper (envOfC "is_name" (defScope st_is_name) s.heap.objs.size f cdv))) :
    ∃ t, VSs (cxOf (L2.CX P w) P w K mg base ["thing", "sign"] "is_name" (defScope st_is_name) f cdv A outer s H E) (wDef E) (defBody st_is_name) t (d_is_name K) :=
  have hu1 := room1 hr
  have hu64 := hr.units
  have hu66 := room66 hr
  ⟨_, by exact (vss_one (vs_ret (ve_and (ve_cb snd_isi call_isA T.b_isinstance (va_cons (ve_v 0) (va_cons (ve_ty T.b_str VL.boot_str) va_nil))) (ve_and (ve_chain op_le snd_iCmp op_le snd_iCmp ve_int (ve_cb snd_len call_lenA T.b_len (va_cons (ve_v 0) va_nil)) ve_int) (ve_one (ve_cb snd_all (cr_all rfl) T.b_all (va_cons (ve_lcX (own := [("sign", 1)]) rfl sc_is_name.nd (vi_any (ve_v 0)) (blkOk_by (N := ["thing", "sign"]) (sc := defScope st_is_name) (own := [("sign", 1)]) (by decide +kernel)) (fun _ _ _ _ _ => ⟨_, (vg_n sc_is_name.nd)⟩) (fun _ _ _ _ _ => ⟨_, vts_nil⟩) (fun _ _ _ _ _ => ⟨_, (ve_in hu1 (ve_v 1) (ve_gs T.c_LETTERS))⟩)) va_nil)))))))⟩
/-- what is left to be shown of is_name: BodyOk -/
theorem g_is_name {k : Nat} {f : Addr} {fd : FuncData} {s_ : Spd} (T : Txt K mg) (Fd : FunD K "is_name" "is_name" (defArgs st_is_name) (defBody st_is_name) (defScope st_is_name) [] [] f fd)
    (len : ∀ ds S Q E, s_ ds S Q E → ds.length = 1) (ok : BodyOk (d_is_name K) ["thing", "sign"] s_) : FnG P w K mg base (k + 1) f fd ["thing"] (lift K s_) :=
  def_ok Fd sc_is_name len fun cdv A outer s H E hgd hr => (w_is_name T hgd hr ).elim fun t v => ⟨t, _, v, ok⟩
theorem r_is_name {k : Nat} {f : Addr} {fd : FuncData} {s_ : Spd} (T : Txt K mg) (hm : mg "is_name" = some (.ref f)) (Fd : FunD K "is_name" "is_name" (defArgs st_is_name) (defBody st_is_name) (defScope st_is_name) [] [] f fd)
    (len : ∀ ds S Q E, s_ ds S Q E → ds.length = 1) (ok : BodyOk (d_is_name K) ["thing", "sign"] s_) : Rdy P w K mg base (k + 1) "is_name" [] [] s_ :=
  rdy_of (g_is_name T Fd  len ok) hm Fd.kp (Fd.bindsN fun _ _ _ _ _ _ us hl => match us, hl with | [_], _ => rfl)
theorem sc_is_time : FnScope ["thing"] ["thing"] (defScope st_is_time) := ⟨rfl, rfl, rfl, by decide +kernel, rfl, by decide +kernel, by decide +kernel⟩
def d_is_time (K : PySem.W.Frag) (s_is_whole : Spd) : TSd := (dRet (dCall s_is_whole [] (dCons (dVar 0) (dCons (dC (.int 0)) (dCons (dC (.int 9999)) dNil)))))
theorem w_is_time {k : Nat} {f : Addr} {cdv : Value} {A : Around} {outer : List Env} {s : Shared} {H : Hp} {E : XK} {s_is_whole : Spd} (T : Txt K mg) (hgd : A.guards = some []) (hr : Room k (A.deeper (envOfC "is_time" (defScope st_is_time) s.heap.objs.size f cdv))) (R_is_whole : Rdy P w K mg base k "is_whole" [] [] s_is_whole) :
    ∃ t, VSs (cxOf (L2.CX P w) P w K mg base ["thing"] "is_time" (defScope st_is_time) f cdv A outer s H E) (wDef E) (defBody st_is_time) t (d_is_time K s_is_whole) :=
  have hu1 := room1 hr
  have hu64 := hr.units
  have hu66 := room66 hr
  ⟨_, by exact (vss_one (vs_ret (ve_callR R_is_whole hgd hr (takes_of rfl rfl rfl rfl) (va_cons (ve_v 0) (va_cons ve_int (va_cons (ve_gi T.c_MOST_TIME) va_nil))))))⟩
/-- what is left to be shown of is_time: BodyOk -/
theorem g_is_time {k : Nat} {f : Addr} {fd : FuncData} {s_ : Spd} {s_is_whole : Spd} (T : Txt K mg) (Fd : FunD K "is_time" "is_time" (defArgs st_is_time) (defBody st_is_time) (defScope st_is_time) [] [] f fd) (R_is_whole : Rdy P w K mg base k "is_whole" [] [] s_is_whole)
    (len : ∀ ds S Q E, s_ ds S Q E → ds.length = 1) (ok : BodyOk (d_is_time K s_is_whole) ["thing"] s_) : FnG P w K mg base (k + 1) f fd ["thing"] (lift K s_) :=
  def_ok Fd sc_is_time len fun cdv A outer s H E hgd hr => (w_is_time T hgd hr R_is_whole).elim fun t v => ⟨t, _, v, ok⟩
theorem r_is_time {k : Nat} {f : Addr} {fd : FuncData} {s_ : Spd} {s_is_whole : Spd} (T : Txt K mg) (hm : mg "is_time" = some (.ref f)) (Fd : FunD K "is_time" "is_time" (defArgs st_is_time) (defBody st_is_time) (defScope st_is_time) [] [] f fd) (R_is_whole : Rdy P w K mg base k "is_whole" [] [] s_is_whole)
    (len : ∀ ds S Q E, s_ ds S Q E → ds.length = 1) (ok : BodyOk (d_is_time K s_is_whole) ["thing"] s_) : Rdy P w K mg base (k + 1) "is_time" [] [] s_ :=
  rdy_of (g_is_time T Fd R_is_whole len ok) hm Fd.kp (Fd.bindsN fun _ _ _ _ _ _ us hl => match us, hl with | [_], _ => rfl)
theorem sc_is_mark : FnScope ["thing"] ["thing"] (defScope st_is_mark) := ⟨rfl, rfl, rfl, by decide +kernel, rfl, by decide +kernel, by decide +kernel⟩
def d_is_mark (K : PySem.W.Frag) : TSd := (dRet (dAndV (dCB dIsi (dCons (dVar 0) (dCons (dC (.ty "str")) dNil))) (dOp (dInG id) (dVar 0) (dC (.tup [.str "good", .str "odd"])))))
theorem w_is_mark {k : Nat} {f : Addr} {cdv : Value} {A : Around} {outer : List Env} {s : Shared} {H : Hp} {E : XK} (T : Txt K mg) (hgd : A.guards = some []) (hr : Room k (A.deeper (envOfC "is_mark" (defScope st_is_mark) s.heap.objs.size f cdv))) :
    ∃ t, VSs (cxOf (L2.CX P w) P w K mg base ["thing"] "is_mark" (defScope st_is_mark) f cdv A outer s H E) (wDef E) (defBody st_is_mark) t (d_is_mark K) :=
  have hu1 := room1 hr
  have hu64 := hr.units
  have hu66 := room66 hr
  ⟨_, by exact (vss_one (vs_ret (ve_and (ve_cb snd_isi call_isA T.b_isinstance (va_cons (ve_v 0) (va_cons (ve_ty T.b_str VL.boot_str) va_nil))) (ve_one (ve_in hu1 (ve_v 0) (ve_go T.g_MARKS T.t_MARKS))))))⟩
/-- what is left to be shown of is_mark: BodyOk -/
theorem g_is_mark {k : Nat} {f : Addr} {fd : FuncData} {s_ : Spd} (T : Txt K mg) (Fd : FunD K "is_mark" "is_mark" (defArgs st_is_mark) (defBody st_is_mark) (defScope st_is_mark) [] [] f fd)
    (len : ∀ ds S Q E, s_ ds S Q E → ds.length = 1) (ok : BodyOk (d_is_mark K) ["thing"] s_) : FnG P w K mg base (k + 1) f fd ["thing"] (lift K s_) :=
  def_ok Fd sc_is_mark len fun cdv A outer s H E hgd hr => (w_is_mark T hgd hr ).elim fun t v => ⟨t, _, v, ok⟩
theorem r_is_mark {k : Nat} {f : Addr} {fd : FuncData} {s_ : Spd} (T : Txt K mg) (hm : mg "is_mark" = some (.ref f)) (Fd : FunD K "is_mark" "is_mark" (defArgs st_is_mark) (defBody st_is_mark) (defScope st_is_mark) [] [] f fd)
    (len : ∀ ds S Q E, s_ ds S Q E → ds.length = 1) (ok : BodyOk (d_is_mark K) ["thing"] s_) : Rdy P w K mg base (k + 1) "is_mark" [] [] s_ :=
  rdy_of (g_is_mark T Fd  len ok) hm Fd.kp (Fd.bindsN fun _ _ _ _ _ _ us hl => match us, hl with | [_], _ => rfl)
theorem sc_is_word : FnScope ["thing", "words"] ["thing", "words"] (defScope st_is_word) := ⟨rfl, rfl, rfl, by decide +kernel, rfl, by decide +kernel, by decide +kernel⟩
def d_is_word (K : PySem.W.Frag) : TSd := (dRet (dAndV (dCB dIsi (dCons (dVar 0) (dCons (dC (.ty "str")) dNil))) (dOp (dInG id) (dVar 0) (dVar 1))))
theorem w_is_word {k : Nat} {f : Addr} {cdv : Value} {A : Around} {outer : List Env} {s : Shared} {H : Hp} {E : XK} (T : Txt K mg) (hgd : A.guards = some []) (hr : Room k (A.deeper (envOfC "is_word" (defScope st_is_word) s.heap.objs.size f cdv))) :
    ∃ t, VSs (cxOf (L2.CX P w) P w K mg base ["thing", "words"] "is_word" (defScope st_is_word) f cdv A outer s H E) (wDef E) (defBody st_is_word) t (d_is_word K) :=
  have hu1 := room1 hr
  have hu64 := hr.units
  have hu66 := room66 hr
  ⟨_, by exact (vss_one (vs_ret (ve_and (ve_cb snd_isi call_isA T.b_isinstance (va_cons (ve_v 0) (va_cons (ve_ty T.b_str VL.boot_str) va_nil))) (ve_one (ve_in hu1 (ve_v 0) (ve_v 1))))))⟩
/-- what is left to be shown of is_word: BodyOk -/
theorem g_is_word {k : Nat} {f : Addr} {fd : FuncData} {s_ : Spd} (T : Txt K mg) (Fd : FunD K "is_word" "is_word" (defArgs st_is_word) (defBody st_is_word) (defScope st_is_word) [] [] f fd)
    (len : ∀ ds S Q E, s_ ds S Q E → ds.length = 2) (ok : BodyOk (d_is_word K) ["thing", "words"] s_) : FnG P w K mg base (k + 1) f fd ["thing", "words"] (lift K s_) :=
  def_ok Fd sc_is_word len fun cdv A outer s H E hgd hr => (w_is_word T hgd hr ).elim fun t v => ⟨t, _, v, ok⟩
theorem r_is_word {k : Nat} {f : Addr} {fd : FuncData} {s_ : Spd} (T : Txt K mg) (hm : mg "is_word" = some (.ref f)) (Fd : FunD K "is_word" "is_word" (defArgs st_is_word) (defBody st_is_word) (defScope st_is_word) [] [] f fd)
    (len : ∀ ds S Q E, s_ ds S Q E → ds.length = 2) (ok : BodyOk (d_is_word K) ["thing", "words"] s_) : Rdy P w K mg base (k + 1) "is_word" [] [] s_ :=
  rdy_of (g_is_word T Fd  len ok) hm Fd.kp (Fd.bindsN fun _ _ _ _ _ _ us hl => match us, hl with | [_, _], _ => rfl)
theorem sc_is_point : FnScope ["thing"] ["thing"] (defScope st_is_point) := ⟨rfl, rfl, rfl, by decide +kernel, rfl, by decide +kernel, by decide +kernel⟩
def d_is_point (K : PySem.W.Frag) (s_is_word : Spd) (s_is_name : Spd) : TSd := (dSeq (dIf (dOrT (dNotT (dTest (dCB dIsi (dCons (dVar 0) (dCons (dC (.ty "tuple")) dNil))))) (dTest (dOp dNe (dCB dLen (dCons (dVar 0) dNil)) (dC (.int 3))))) (dRet (dC (.bl false))) dNext) (dRet (dAndV (dCall s_is_name [] (dCons (dOp dIx (dVar 0) (dC (.int 0))) dNil)) (dAndV (dCall s_is_name [] (dCons (dOp dIx (dVar 0) (dC (.int 1))) dNil)) (dCall s_is_word [] (dCons (dOp dIx (dVar 0) (dC (.int 2))) (dCons (dC (.tup [.str "level", .str "switch"])) dNil)))))))
theorem w_is_point {k : Nat} {f : Addr} {cdv : Value} {A : Around} {outer : List Env} {s : Shared} {H : Hp} {E : XK} {s_is_word : Spd} {s_is_name : Spd} (T : Txt K mg) (hgd : A.guards = some []) (hr : Room k (A.deeper (envOfC "is_point" (defScope st_is_point) s.heap.objs.size f cdv))) (R_is_word : Rdy P w K mg base k "is_word" [] [] s_is_word) (R_is_name : Rdy P w K mg base k "is_name" [] [] s_is_name) :
    ∃ t, VSs (cxOf (L2.CX P w) P w K mg base ["thing"] "is_point" (defScope st_is_point) f cdv A outer s H E) (wDef E) (defBody st_is_point) t (d_is_point K s_is_word s_is_name) :=
  have hu1 := room1 hr
  have hu64 := hr.units
  have hu66 := room66 hr
  ⟨_, by exact (vss_cons (vs_if (vt_w (vw_or (vt_not (vt_val (ve_cb snd_isi call_isA T.b_isinstance (va_cons (ve_v 0) (va_cons (ve_ty T.b_tuple VL.boot_tuple) va_nil))))) (vw_or1 (vt_ne hu64 (ve_cb snd_len call_lenA T.b_len (va_cons (ve_v 0) va_nil)) ve_int)))) (vss_one (vs_ret ve_bl)) vss_nil) (vss_one (vs_ret (ve_and (ve_callR R_is_name hgd hr (takes_of rfl rfl rfl rfl) (va_cons (ve_item hu1 (ve_v 0) ve_int) va_nil)) (ve_and (ve_callR R_is_name hgd hr (takes_of rfl rfl rfl rfl) (va_cons (ve_item hu1 (ve_v 0) ve_int) va_nil)) (ve_one (ve_callR R_is_word hgd hr (takes_of rfl rfl rfl rfl) (va_cons (ve_item hu1 (ve_v 0) ve_int) (va_cons (ve_go T.g_KINDS T.t_KINDS) va_nil)))))))))⟩
/-- what is left to be shown of is_point: BodyOk -/
theorem g_is_point {k : Nat} {f : Addr} {fd : FuncData} {s_ : Spd} {s_is_word : Spd} {s_is_name : Spd} (T : Txt K mg) (Fd : FunD K "is_point" "is_point" (defArgs st_is_point) (defBody st_is_point) (defScope st_is_point) [] [] f fd) (R_is_word : Rdy P w K mg base k "is_word" [] [] s_is_word) (R_is_name : Rdy P w K mg base k "is_name" [] [] s_is_name)
    (len : ∀ ds S Q E, s_ ds S Q E → ds.length = 1) (ok : BodyOk (d_is_point K s_is_word s_is_name) ["thing"] s_) : FnG P w K mg base (k + 1) f fd ["thing"] (lift K s_) :=
  def_ok Fd sc_is_point len fun cdv A outer s H E hgd hr => (w_is_point T hgd hr R_is_word R_is_name).elim fun t v => ⟨t, _, v, ok⟩
theorem r_is_point {k : Nat} {f : Addr} {fd : FuncData} {s_ : Spd} {s_is_word : Spd} {s_is_name : Spd} (T : Txt K mg) (hm : mg "is_point" = some (.ref f)) (Fd : FunD K "is_point" "is_point" (defArgs st_is_point) (defBody st_is_point) (defScope st_is_point) [] [] f fd) (R_is_word : Rdy P w K mg base k "is_word" [] [] s_is_word) (R_is_name : Rdy P w K mg base k "is_name" [] [] s_is_name)
    (len : ∀ ds S Q E, s_ ds S Q E → ds.length = 1) (ok : BodyOk (d_is_point K s_is_word s_is_name) ["thing"] s_) : Rdy P w K mg base (k + 1) "is_point" [] [] s_ :=
  rdy_of (g_is_point T Fd R_is_word R_is_name len ok) hm Fd.kp (Fd.bindsN fun _ _ _ _ _ _ us hl => match us, hl with | [_], _ => rfl)
theorem sc_is_rule : FnScope ["thing", "bounds", "number", "low", "high"] ["thing"] (defScope st_is_rule) := ⟨rfl, rfl, rfl, by decide +kernel, rfl, by decide +kernel, by decide +kernel⟩
def d_is_rule (K : PySem.W.Frag) (s_is_word : Spd) (s_is_name : Spd) (s_is_whole : Spd) : TSd := (dSeq (dIf (dOrT (dNotT (dTest (dCB dIsi (dCons (dVar 0) (dCons (dC (.ty "tuple")) dNil))))) (dTest (dOp dNe (dCB dLen (dCons (dVar 0) dNil)) (dC (.int 7))))) (dRet (dC (.bl false))) dNext) (dSeq (dIf (dOrT (dNotT (dTest (dCall s_is_name [] (dCons (dOp dIx (dVar 0) (dC (.int 0))) dNil)))) (dOrT (dNotT (dTest (dCall s_is_name [] (dCons (dOp dIx (dVar 0) (dC (.int 1))) dNil)))) (dNotT (dTest (dCall s_is_word [] (dCons (dOp dIx (dVar 0) (dC (.int 2))) (dCons (dC (.tup [.str "above", .str "below"])) dNil))))))) (dRet (dC (.bl false))) dNext) (dSeq (dAsg (dLst (dCons (dTup (dCons (dOp dIx (dVar 0) (dC (.int 3))) (dCons (dC (.int 0)) (dCons (dC (.int 63)) dNil)))) (dCons (dTup (dCons (dOp dIx (dVar 0) (dC (.int 4))) (dCons (dC (.int 0)) (dCons (dC (.int 63)) dNil)))) (dCons (dTup (dCons (dOp dIx (dVar 0) (dC (.int 5))) (dCons (dC (.int 0)) (dCons (dC (.int 99)) dNil)))) (dCons (dTup (dCons (dOp dIx (dVar 0) (dC (.int 6))) (dCons (dC (.int 1)) (dCons (dC (.int 3)) dNil)))) dNil))))) (hName 1)) (dRet (dCB dAll (dCons (dLc (nAny (dVar 1)) (hTup 3 (hCons (hName 2) (hCons (hName 3) (hCons (hName 4) hNil)))) dYes (dCall s_is_whole [] (dCons (dVar 2) (dCons (dVar 3) (dCons (dVar 4) dNil)))) [2, 3, 4]) dNil))))))
theorem w_is_rule {k : Nat} {f : Addr} {cdv : Value} {A : Around} {outer : List Env} {s : Shared} {H : Hp} {E : XK} {s_is_word : Spd} {s_is_name : Spd} {s_is_whole : Spd} (T : Txt K mg) (hgd : A.guards = some []) (hr : Room k (A.deeper (envOfC "is_rule" (defScope st_is_rule) s.heap.objs.size f cdv))) (R_is_word : Rdy P w K mg base k "is_word" [] [] s_is_word) (R_is_name : Rdy P w K mg base k "is_name" [] [] s_is_name) (R_is_whole : Rdy P w K mg base k "is_whole" [] [] s_is_whole) :
    ∃ t, VSs (cxOf (L2.CX P w) P w K mg base ["thing", "bounds", "number", "low", "high"] "is_rule" (defScope st_is_rule) f cdv A outer s H E) (wDef E) (defBody st_is_rule) t (d_is_rule K s_is_word s_is_name s_is_whole) :=
  have hu1 := room1 hr
  have hu64 := hr.units
  have hu66 := room66 hr
  ⟨_, by exact (vss_cons (vs_if (vt_w (vw_or (vt_not (vt_val (ve_cb snd_isi call_isA T.b_isinstance (va_cons (ve_v 0) (va_cons (ve_ty T.b_tuple VL.boot_tuple) va_nil))))) (vw_or1 (vt_ne hu64 (ve_cb snd_len call_lenA T.b_len (va_cons (ve_v 0) va_nil)) ve_int)))) (vss_one (vs_ret ve_bl)) vss_nil) (vss_cons (vs_if (vt_w (vw_or (vt_not (vt_val (ve_callR R_is_name hgd hr (takes_of rfl rfl rfl rfl) (va_cons (ve_item hu1 (ve_v 0) ve_int) va_nil)))) (vw_or (vt_not (vt_val (ve_callR R_is_name hgd hr (takes_of rfl rfl rfl rfl) (va_cons (ve_item hu1 (ve_v 0) ve_int) va_nil)))) (vw_or1 (vt_not (vt_val (ve_callR R_is_word hgd hr (takes_of rfl rfl rfl rfl) (va_cons (ve_item hu1 (ve_v 0) ve_int) (va_cons (ve_go T.g_WORDS T.t_WORDS) va_nil))))))))) (vss_one (vs_ret ve_bl)) vss_nil) (vss_cons (vs_name sc_is_rule.nd (ve_lst (va_cons (ve_tup (va_cons (ve_item hu1 (ve_v 0) ve_int) (va_cons ve_int (va_cons (ve_gi T.c_MOST_LEVEL) va_nil)))) (va_cons (ve_tup (va_cons (ve_item hu1 (ve_v 0) ve_int) (va_cons ve_int (va_cons (ve_gi T.c_MOST_LEVEL) va_nil)))) (va_cons (ve_tup (va_cons (ve_item hu1 (ve_v 0) ve_int) (va_cons ve_int (va_cons ve_int va_nil)))) (va_cons (ve_tup (va_cons (ve_item hu1 (ve_v 0) ve_int) (va_cons ve_int (va_cons ve_int va_nil)))) va_nil)))))) (vss_one (vs_ret (ve_cb snd_all (cr_all rfl) T.b_all (va_cons (ve_lcX (own := [("number", 2), ("low", 3), ("high", 4)]) rfl sc_is_rule.nd (vi_any (ve_v 1)) (blkOk_by (N := ["thing", "bounds", "number", "low", "high"]) (sc := defScope st_is_rule) (own := [("number", 2), ("low", 3), ("high", 4)]) (by decide +kernel)) (fun _ _ _ _ _ => ⟨_, (vg_tup rfl (vgs_cons (vg_n sc_is_rule.nd) (vgs_cons (vg_n sc_is_rule.nd) (vgs_cons (vg_n sc_is_rule.nd) vgs_nil))))⟩) (fun _ _ _ _ _ => ⟨_, vts_nil⟩) (fun _ _ _ _ _ => ⟨_, (ve_callR R_is_whole hgd hr takes0 (va_cons (ve_v 2) (va_cons (ve_v 3) (va_cons (ve_v 4) va_nil))))⟩)) va_nil)))))))⟩
/-- what is left to be shown of is_rule: BodyOk -/
theorem g_is_rule {k : Nat} {f : Addr} {fd : FuncData} {s_ : Spd} {s_is_word : Spd} {s_is_name : Spd} {s_is_whole : Spd} (T : Txt K mg) (Fd : FunD K "is_rule" "is_rule" (defArgs st_is_rule) (defBody st_is_rule) (defScope st_is_rule) [] [] f fd) (R_is_word : Rdy P w K mg base k "is_word" [] [] s_is_word) (R_is_name : Rdy P w K mg base k "is_name" [] [] s_is_name) (R_is_whole : Rdy P w K mg base k "is_whole" [] [] s_is_whole)
    (len : ∀ ds S Q E, s_ ds S Q E → ds.length = 1) (ok : BodyOk (d_is_rule K s_is_word s_is_name s_is_whole) ["thing", "bounds", "number", "low", "high"] s_) : FnG P w K mg base (k + 1) f fd ["thing"] (lift K s_) :=
  def_ok Fd sc_is_rule len fun cdv A outer s H E hgd hr => (w_is_rule T hgd hr R_is_word R_is_name R_is_whole).elim fun t v => ⟨t, _, v, ok⟩
theorem r_is_rule {k : Nat} {f : Addr} {fd : FuncData} {s_ : Spd} {s_is_word : Spd} {s_is_name : Spd} {s_is_whole : Spd} (T : Txt K mg) (hm : mg "is_rule" = some (.ref f)) (Fd : FunD K "is_rule" "is_rule" (defArgs st_is_rule) (defBody st_is_rule) (defScope st_is_rule) [] [] f fd) (R_is_word : Rdy P w K mg base k "is_word" [] [] s_is_word) (R_is_name : Rdy P w K mg base k "is_name" [] [] s_is_name) (R_is_whole : Rdy P w K mg base k "is_whole" [] [] s_is_whole)
    (len : ∀ ds S Q E, s_ ds S Q E → ds.length = 1) (ok : BodyOk (d_is_rule K s_is_word s_is_name s_is_whole) ["thing", "bounds", "number", "low", "high"] s_) : Rdy P w K mg base (k + 1) "is_rule" [] [] s_ :=
  rdy_of (g_is_rule T Fd R_is_word R_is_name R_is_whole len ok) hm Fd.kp (Fd.bindsN fun _ _ _ _ _ _ us hl => match us, hl with | [_], _ => rfl)
theorem sc_is_cause : FnScope ["thing"] ["thing"] (defScope st_is_cause) := ⟨rfl, rfl, rfl, by decide +kernel, rfl, by decide +kernel, by decide +kernel⟩
def d_is_cause (K : PySem.W.Frag) (s_is_whole : Spd) (s_is_name : Spd) : TSd := (dSeq (dIf (dOrT (dNotT (dTest (dCB dIsi (dCons (dVar 0) (dCons (dC (.ty "tuple")) dNil))))) (dTest (dOp dNe (dCB dLen (dCons (dVar 0) dNil)) (dC (.int 3))))) (dRet (dC (.bl false))) dNext) (dRet (dAndV (dCall s_is_name [] (dCons (dOp dIx (dVar 0) (dC (.int 0))) dNil)) (dAndV (dCall s_is_name [] (dCons (dOp dIx (dVar 0) (dC (.int 1))) dNil)) (dCall s_is_whole [] (dCons (dOp dIx (dVar 0) (dC (.int 2))) (dCons (dC (.int 0)) (dCons (dC (.int 999)) dNil))))))))
theorem w_is_cause {k : Nat} {f : Addr} {cdv : Value} {A : Around} {outer : List Env} {s : Shared} {H : Hp} {E : XK} {s_is_whole : Spd} {s_is_name : Spd} (T : Txt K mg) (hgd : A.guards = some []) (hr : Room k (A.deeper (envOfC "is_cause" (defScope st_is_cause) s.heap.objs.size f cdv))) (R_is_whole : Rdy P w K mg base k "is_whole" [] [] s_is_whole) (R_is_name : Rdy P w K mg base k "is_name" [] [] s_is_name) :
    ∃ t, VSs (cxOf (L2.CX P w) P w K mg base ["thing"] "is_cause" (defScope st_is_cause) f cdv A outer s H E) (wDef E) (defBody st_is_cause) t (d_is_cause K s_is_whole s_is_name) :=
  have hu1 := room1 hr
  have hu64 := hr.units
  have hu66 := room66 hr
  ⟨_, by exact (vss_cons (vs_if (vt_w (vw_or (vt_not (vt_val (ve_cb snd_isi call_isA T.b_isinstance (va_cons (ve_v 0) (va_cons (ve_ty T.b_tuple VL.boot_tuple) va_nil))))) (vw_or1 (vt_ne hu64 (ve_cb snd_len call_lenA T.b_len (va_cons (ve_v 0) va_nil)) ve_int)))) (vss_one (vs_ret ve_bl)) vss_nil) (vss_one (vs_ret (ve_and (ve_callR R_is_name hgd hr (takes_of rfl rfl rfl rfl) (va_cons (ve_item hu1 (ve_v 0) ve_int) va_nil)) (ve_and (ve_callR R_is_name hgd hr (takes_of rfl rfl rfl rfl) (va_cons (ve_item hu1 (ve_v 0) ve_int) va_nil)) (ve_one (ve_callR R_is_whole hgd hr (takes_of rfl rfl rfl rfl) (va_cons (ve_item hu1 (ve_v 0) ve_int) (va_cons ve_int (va_cons ve_int va_nil))))))))))⟩
/-- what is left to be shown of is_cause: BodyOk -/
theorem g_is_cause {k : Nat} {f : Addr} {fd : FuncData} {s_ : Spd} {s_is_whole : Spd} {s_is_name : Spd} (T : Txt K mg) (Fd : FunD K "is_cause" "is_cause" (defArgs st_is_cause) (defBody st_is_cause) (defScope st_is_cause) [] [] f fd) (R_is_whole : Rdy P w K mg base k "is_whole" [] [] s_is_whole) (R_is_name : Rdy P w K mg base k "is_name" [] [] s_is_name)
    (len : ∀ ds S Q E, s_ ds S Q E → ds.length = 1) (ok : BodyOk (d_is_cause K s_is_whole s_is_name) ["thing"] s_) : FnG P w K mg base (k + 1) f fd ["thing"] (lift K s_) :=
  def_ok Fd sc_is_cause len fun cdv A outer s H E hgd hr => (w_is_cause T hgd hr R_is_whole R_is_name).elim fun t v => ⟨t, _, v, ok⟩
theorem r_is_cause {k : Nat} {f : Addr} {fd : FuncData} {s_ : Spd} {s_is_whole : Spd} {s_is_name : Spd} (T : Txt K mg) (hm : mg "is_cause" = some (.ref f)) (Fd : FunD K "is_cause" "is_cause" (defArgs st_is_cause) (defBody st_is_cause) (defScope st_is_cause) [] [] f fd) (R_is_whole : Rdy P w K mg base k "is_whole" [] [] s_is_whole) (R_is_name : Rdy P w K mg base k "is_name" [] [] s_is_name)
    (len : ∀ ds S Q E, s_ ds S Q E → ds.length = 1) (ok : BodyOk (d_is_cause K s_is_whole s_is_name) ["thing"] s_) : Rdy P w K mg base (k + 1) "is_cause" [] [] s_ :=
  rdy_of (g_is_cause T Fd R_is_whole R_is_name len ok) hm Fd.kp (Fd.bindsN fun _ _ _ _ _ _ us hl => match us, hl with | [_], _ => rfl)
theorem sc_is_lock : FnScope ["thing"] ["thing"] (defScope st_is_lock) := ⟨rfl, rfl, rfl, by decide +kernel, rfl, by decide +kernel, by decide +kernel⟩
def d_is_lock (K : PySem.W.Frag) (s_is_whole : Spd) (s_is_word : Spd) (s_is_name : Spd) : TSd := (dSeq (dIf (dOrT (dNotT (dTest (dCB dIsi (dCons (dVar 0) (dCons (dC (.ty "tuple")) dNil))))) (dTest (dOp dNe (dCB dLen (dCons (dVar 0) dNil)) (dC (.int 3))))) (dRet (dC (.bl false))) dNext) (dRet (dAndV (dCall s_is_name [] (dCons (dOp dIx (dVar 0) (dC (.int 0))) dNil)) (dAndV (dCall s_is_word [] (dCons (dOp dIx (dVar 0) (dC (.int 1))) (dCons (dC (.tup [.str "above", .str "below"])) dNil))) (dCall s_is_whole [] (dCons (dOp dIx (dVar 0) (dC (.int 2))) (dCons (dC (.int 0)) (dCons (dC (.int 63)) dNil))))))))
theorem w_is_lock {k : Nat} {f : Addr} {cdv : Value} {A : Around} {outer : List Env} {s : Shared} {H : Hp} {E : XK} {s_is_whole : Spd} {s_is_word : Spd} {s_is_name : Spd} (T : Txt K mg) (hgd : A.guards = some []) (hr : Room k (A.deeper (envOfC "is_lock" (defScope st_is_lock) s.heap.objs.size f cdv))) (R_is_whole : Rdy P w K mg base k "is_whole" [] [] s_is_whole) (R_is_word : Rdy P w K mg base k "is_word" [] [] s_is_word) (R_is_name : Rdy P w K mg base k "is_name" [] [] s_is_name) :
    ∃ t, VSs (cxOf (L2.CX P w) P w K mg base ["thing"] "is_lock" (defScope st_is_lock) f cdv A outer s H E) (wDef E) (defBody st_is_lock) t (d_is_lock K s_is_whole s_is_word s_is_name) :=
  have hu1 := room1 hr
  have hu64 := hr.units
  have hu66 := room66 hr
  ⟨_, by exact (vss_cons (vs_if (vt_w (vw_or (vt_not (vt_val (ve_cb snd_isi call_isA T.b_isinstance (va_cons (ve_v 0) (va_cons (ve_ty T.b_tuple VL.boot_tuple) va_nil))))) (vw_or1 (vt_ne hu64 (ve_cb snd_len call_lenA T.b_len (va_cons (ve_v 0) va_nil)) ve_int)))) (vss_one (vs_ret ve_bl)) vss_nil) (vss_one (vs_ret (ve_and (ve_callR R_is_name hgd hr (takes_of rfl rfl rfl rfl) (va_cons (ve_item hu1 (ve_v 0) ve_int) va_nil)) (ve_and (ve_callR R_is_word hgd hr (takes_of rfl rfl rfl rfl) (va_cons (ve_item hu1 (ve_v 0) ve_int) (va_cons (ve_go T.g_WORDS T.t_WORDS) va_nil))) (ve_one (ve_callR R_is_whole hgd hr (takes_of rfl rfl rfl rfl) (va_cons (ve_item hu1 (ve_v 0) ve_int) (va_cons ve_int (va_cons (ve_gi T.c_MOST_LEVEL) va_nil))))))))))⟩
/-- what is left to be shown of is_lock: BodyOk -/
theorem g_is_lock {k : Nat} {f : Addr} {fd : FuncData} {s_ : Spd} {s_is_whole : Spd} {s_is_word : Spd} {s_is_name : Spd} (T : Txt K mg) (Fd : FunD K "is_lock" "is_lock" (defArgs st_is_lock) (defBody st_is_lock) (defScope st_is_lock) [] [] f fd) (R_is_whole : Rdy P w K mg base k "is_whole" [] [] s_is_whole) (R_is_word : Rdy P w K mg base k "is_word" [] [] s_is_word) (R_is_name : Rdy P w K mg base k "is_name" [] [] s_is_name)
    (len : ∀ ds S Q E, s_ ds S Q E → ds.length = 1) (ok : BodyOk (d_is_lock K s_is_whole s_is_word s_is_name) ["thing"] s_) : FnG P w K mg base (k + 1) f fd ["thing"] (lift K s_) :=
  def_ok Fd sc_is_lock len fun cdv A outer s H E hgd hr => (w_is_lock T hgd hr R_is_whole R_is_word R_is_name).elim fun t v => ⟨t, _, v, ok⟩
theorem r_is_lock {k : Nat} {f : Addr} {fd : FuncData} {s_ : Spd} {s_is_whole : Spd} {s_is_word : Spd} {s_is_name : Spd} (T : Txt K mg) (hm : mg "is_lock" = some (.ref f)) (Fd : FunD K "is_lock" "is_lock" (defArgs st_is_lock) (defBody st_is_lock) (defScope st_is_lock) [] [] f fd) (R_is_whole : Rdy P w K mg base k "is_whole" [] [] s_is_whole) (R_is_word : Rdy P w K mg base k "is_word" [] [] s_is_word) (R_is_name : Rdy P w K mg base k "is_name" [] [] s_is_name)
    (len : ∀ ds S Q E, s_ ds S Q E → ds.length = 1) (ok : BodyOk (d_is_lock K s_is_whole s_is_word s_is_name) ["thing"] s_) : Rdy P w K mg base (k + 1) "is_lock" [] [] s_ :=
  rdy_of (g_is_lock T Fd R_is_whole R_is_word R_is_name len ok) hm Fd.kp (Fd.bindsN fun _ _ _ _ _ _ us hl => match us, hl with | [_], _ => rfl)
theorem sc_is_command : FnScope ["thing", "locks", "lock"] ["thing"] (defScope st_is_command) := ⟨rfl, rfl, rfl, by decide +kernel, rfl, by decide +kernel, by decide +kernel⟩
def d_is_command (K : PySem.W.Frag) (s_is_whole : Spd) (s_is_name : Spd) (s_is_lock : Spd) : TSd := (dSeq (dIf (dOrT (dNotT (dTest (dCB dIsi (dCons (dVar 0) (dCons (dC (.ty "tuple")) dNil))))) (dTest (dOp dNe (dCB dLen (dCons (dVar 0) dNil)) (dC (.int 4))))) (dRet (dC (.bl false))) dNext) (dSeq (dIf (dOrT (dNotT (dTest (dCall s_is_name [] (dCons (dOp dIx (dVar 0) (dC (.int 0))) dNil)))) (dOrT (dNotT (dTest (dCall s_is_name [] (dCons (dOp dIx (dVar 0) (dC (.int 1))) dNil)))) (dNotT (dTest (dCall s_is_whole [] (dCons (dOp dIx (dVar 0) (dC (.int 2))) (dCons (dC (.int 0)) (dCons (dC (.int 63)) dNil)))))))) (dRet (dC (.bl false))) dNext) (dSeq (dAsg (dOp dIx (dVar 0) (dC (.int 3))) (hName 1)) (dRet (dAndV (dCB dIsi (dCons (dVar 1) (dCons (dC (.ty "tuple")) dNil))) (dAndV (dOp dLe (dCB dLen (dCons (dVar 1) dNil)) (dC (.int 4))) (dCB dAll (dCons (dLc (nAny (dVar 1)) (hName 2) dYes (dCall s_is_lock [] (dCons (dVar 2) dNil)) [2]) dNil))))))))
theorem w_is_command {k : Nat} {f : Addr} {cdv : Value} {A : Around} {outer : List Env} {s : Shared} {H : Hp} {E : XK} {s_is_whole : Spd} {s_is_name : Spd} {s_is_lock : Spd} (T : Txt K mg) (hgd : A.guards = some []) (hr : Room k (A.deeper (envOfC "is_command" (defScope st_is_command) s.heap.objs.size f cdv))) (R_is_whole : Rdy P w K mg base k "is_whole" [] [] s_is_whole) (R_is_name : Rdy P w K mg base k "is_name" [] [] s_is_name) (R_is_lock : Rdy P w K mg base k "is_lock" [] [] s_is_lock) :
    ∃ t, VSs (cxOf (L2.CX P w) P w K mg base ["thing", "locks", "lock"] "is_command" (defScope st_is_command) f cdv A outer s H E) (wDef E) (defBody st_is_command) t (d_is_command K s_is_whole s_is_name s_is_lock) :=
  have hu1 := room1 hr
  have hu64 := hr.units
  have hu66 := room66 hr
  ⟨_, by exact (vss_cons (vs_if (vt_w (vw_or (vt_not (vt_val (ve_cb snd_isi call_isA T.b_isinstance (va_cons (ve_v 0) (va_cons (ve_ty T.b_tuple VL.boot_tuple) va_nil))))) (vw_or1 (vt_ne hu64 (ve_cb snd_len call_lenA T.b_len (va_cons (ve_v 0) va_nil)) ve_int)))) (vss_one (vs_ret ve_bl)) vss_nil) (vss_cons (vs_if (vt_w (vw_or (vt_not (vt_val (ve_callR R_is_name hgd hr (takes_of rfl rfl rfl rfl) (va_cons (ve_item hu1 (ve_v 0) ve_int) va_nil)))) (vw_or (vt_not (vt_val (ve_callR R_is_name hgd hr (takes_of rfl rfl rfl rfl) (va_cons (ve_item hu1 (ve_v 0) ve_int) va_nil)))) (vw_or1 (vt_not (vt_val (ve_callR R_is_whole hgd hr (takes_of rfl rfl rfl rfl) (va_cons (ve_item hu1 (ve_v 0) ve_int) (va_cons ve_int (va_cons (ve_gi T.c_MOST_LEVEL) va_nil)))))))))) (vss_one (vs_ret ve_bl)) vss_nil) (vss_cons (vs_name sc_is_command.nd (ve_item hu1 (ve_v 0) ve_int)) (vss_one (vs_ret (ve_and (ve_cb snd_isi call_isA T.b_isinstance (va_cons (ve_v 1) (va_cons (ve_ty T.b_tuple VL.boot_tuple) va_nil))) (ve_and (ve_le (ve_cb snd_len call_lenA T.b_len (va_cons (ve_v 1) va_nil)) (ve_gi T.c_MOST_LOCKS)) (ve_one (ve_cb snd_all (cr_all rfl) T.b_all (va_cons (ve_lcX (own := [("lock", 2)]) rfl sc_is_command.nd (vi_any (ve_v 1)) (blkOk_by (N := ["thing", "locks", "lock"]) (sc := defScope st_is_command) (own := [("lock", 2)]) (by decide +kernel)) (fun _ _ _ _ _ => ⟨_, (vg_n sc_is_command.nd)⟩) (fun _ _ _ _ _ => ⟨_, vts_nil⟩) (fun _ _ _ _ _ => ⟨_, (ve_callR R_is_lock hgd hr takes0 (va_cons (ve_v 2) va_nil))⟩)) va_nil))))))))))⟩
/-- what is left to be shown of is_command: BodyOk -/
theorem g_is_command {k : Nat} {f : Addr} {fd : FuncData} {s_ : Spd} {s_is_whole : Spd} {s_is_name : Spd} {s_is_lock : Spd} (T : Txt K mg) (Fd : FunD K "is_command" "is_command" (defArgs st_is_command) (defBody st_is_command) (defScope st_is_command) [] [] f fd) (R_is_whole : Rdy P w K mg base k "is_whole" [] [] s_is_whole) (R_is_name : Rdy P w K mg base k "is_name" [] [] s_is_name) (R_is_lock : Rdy P w K mg base k "is_lock" [] [] s_is_lock)
    (len : ∀ ds S Q E, s_ ds S Q E → ds.length = 1) (ok : BodyOk (d_is_command K s_is_whole s_is_name s_is_lock) ["thing", "locks", "lock"] s_) : FnG P w K mg base (k + 1) f fd ["thing"] (lift K s_) :=
  def_ok Fd sc_is_command len fun cdv A outer s H E hgd hr => (w_is_command T hgd hr R_is_whole R_is_name R_is_lock).elim fun t v => ⟨t, _, v, ok⟩
theorem r_is_command {k : Nat} {f : Addr} {fd : FuncData} {s_ : Spd} {s_is_whole : Spd} {s_is_name : Spd} {s_is_lock : Spd} (T : Txt K mg) (hm : mg "is_command" = some (.ref f)) (Fd : FunD K "is_command" "is_command" (defArgs st_is_command) (defBody st_is_command) (defScope st_is_command) [] [] f fd) (R_is_whole : Rdy P w K mg base k "is_whole" [] [] s_is_whole) (R_is_name : Rdy P w K mg base k "is_name" [] [] s_is_name) (R_is_lock : Rdy P w K mg base k "is_lock" [] [] s_is_lock)
    (len : ∀ ds S Q E, s_ ds S Q E → ds.length = 1) (ok : BodyOk (d_is_command K s_is_whole s_is_name s_is_lock) ["thing", "locks", "lock"] s_) : Rdy P w K mg base (k + 1) "is_command" [] [] s_ :=
  rdy_of (g_is_command T Fd R_is_whole R_is_name R_is_lock len ok) hm Fd.kp (Fd.bindsN fun _ _ _ _ _ _ us hl => match us, hl with | [_], _ => rfl)
theorem sc_is_relation : FnScope ["thing", "part"] ["thing"] (defScope st_is_relation) := ⟨rfl, rfl, rfl, by decide +kernel, rfl, by decide +kernel, by decide +kernel⟩
def d_is_relation (K : PySem.W.Frag) (s_is_name : Spd) (s_is_word : Spd) : TSd := (dSeq (dIf (dOrT (dNotT (dTest (dCB dIsi (dCons (dVar 0) (dCons (dC (.ty "tuple")) dNil))))) (dOrT (dTest (dOp dNe (dCB dLen (dCons (dVar 0) dNil)) (dC (.int 3)))) (dNotT (dTest (dCall s_is_name [] (dCons (dOp dIx (dVar 0) (dC (.int 1))) dNil)))))) (dRet (dC (.bl false))) dNext) (dSeq (dIf (dTest (dCall s_is_word [] (dCons (dOp dIx (dVar 0) (dC (.int 0))) (dCons (dTup (dCons (dC (.str "same")) (dCons (dC (.str "gate")) dNil))) dNil)))) (dRet (dCall s_is_name [] (dCons (dOp dIx (dVar 0) (dC (.int 2))) dNil))) dNext) (dSeq (dIf (dOrT (dNotT (dTest (dCall s_is_word [] (dCons (dOp dIx (dVar 0) (dC (.int 0))) (dCons (dTup (dCons (dC (.str "sum")) dNil)) dNil))))) (dNotT (dTest (dCB dIsi (dCons (dOp dIx (dVar 0) (dC (.int 2))) (dCons (dC (.ty "tuple")) dNil)))))) (dRet (dC (.bl false))) dNext) (dRet (dAndV (dChain dLe dLe (dC (.int 1)) (dCB dLen (dCons (dOp dIx (dVar 0) (dC (.int 2))) dNil)) (dC (.int 3))) (dCB dAll (dCons (dLc (nAny (dOp dIx (dVar 0) (dC (.int 2)))) (hName 1) dYes (dCall s_is_name [] (dCons (dVar 1) dNil)) [1]) dNil)))))))
theorem w_is_relation {k : Nat} {f : Addr} {cdv : Value} {A : Around} {outer : List Env} {s : Shared} {H : Hp} {E : XK} {s_is_name : Spd} {s_is_word : Spd} (T : Txt K mg) (hgd : A.guards = some []) (hr : Room k (A.deeper (envOfC "is_relation" (defScope st_is_relation) s.heap.objs.size f cdv))) (R_is_name : Rdy P w K mg base k "is_name" [] [] s_is_name) (R_is_word : Rdy P w K mg base k "is_word" [] [] s_is_word) :
    ∃ t, VSs (cxOf (L2.CX P w) P w K mg base ["thing", "part"] "is_relation" (defScope st_is_relation) f cdv A outer s H E) (wDef E) (defBody st_is_relation) t (d_is_relation K s_is_name s_is_word) :=
  have hu1 := room1 hr
  have hu64 := hr.units
  have hu66 := room66 hr
  ⟨_, by exact (vss_cons (vs_if (vt_w (vw_or (vt_not (vt_val (ve_cb snd_isi call_isA T.b_isinstance (va_cons (ve_v 0) (va_cons (ve_ty T.b_tuple VL.boot_tuple) va_nil))))) (vw_or (vt_ne hu64 (ve_cb snd_len call_lenA T.b_len (va_cons (ve_v 0) va_nil)) ve_int) (vw_or1 (vt_not (vt_val (ve_callR R_is_name hgd hr (takes_of rfl rfl rfl rfl) (va_cons (ve_item hu1 (ve_v 0) ve_int) va_nil)))))))) (vss_one (vs_ret ve_bl)) vss_nil) (vss_cons (vs_if (vt_val (ve_callR R_is_word hgd hr (takes_of rfl rfl rfl rfl) (va_cons (ve_item hu1 (ve_v 0) ve_int) (va_cons (ve_tup (va_cons ve_str (va_cons ve_str va_nil))) va_nil)))) (vss_one (vs_ret (ve_callR R_is_name hgd hr (takes_of rfl rfl rfl rfl) (va_cons (ve_item hu1 (ve_v 0) ve_int) va_nil)))) vss_nil) (vss_cons (vs_if (vt_w (vw_or (vt_not (vt_val (ve_callR R_is_word hgd hr (takes_of rfl rfl rfl rfl) (va_cons (ve_item hu1 (ve_v 0) ve_int) (va_cons (ve_tup (va_cons ve_str va_nil)) va_nil))))) (vw_or1 (vt_not (vt_val (ve_cb snd_isi call_isA T.b_isinstance (va_cons (ve_item hu1 (ve_v 0) ve_int) (va_cons (ve_ty T.b_tuple VL.boot_tuple) va_nil)))))))) (vss_one (vs_ret ve_bl)) vss_nil) (vss_one (vs_ret (ve_and (ve_chain op_le snd_iCmp op_le snd_iCmp ve_int (ve_cb snd_len call_lenA T.b_len (va_cons (ve_item hu1 (ve_v 0) ve_int) va_nil)) ve_int) (ve_one (ve_cb snd_all (cr_all rfl) T.b_all (va_cons (ve_lcX (own := [("part", 1)]) rfl sc_is_relation.nd (vi_any (ve_item hu1 (ve_v 0) ve_int)) (blkOk_by (N := ["thing", "part"]) (sc := defScope st_is_relation) (own := [("part", 1)]) (by decide +kernel)) (fun _ _ _ _ _ => ⟨_, (vg_n sc_is_relation.nd)⟩) (fun _ _ _ _ _ => ⟨_, vts_nil⟩) (fun _ _ _ _ _ => ⟨_, (ve_callR R_is_name hgd hr takes0 (va_cons (ve_v 1) va_nil))⟩)) va_nil)))))))))⟩
/-- what is left to be shown of is_relation: BodyOk -/
theorem g_is_relation {k : Nat} {f : Addr} {fd : FuncData} {s_ : Spd} {s_is_name : Spd} {s_is_word : Spd} (T : Txt K mg) (Fd : FunD K "is_relation" "is_relation" (defArgs st_is_relation) (defBody st_is_relation) (defScope st_is_relation) [] [] f fd) (R_is_name : Rdy P w K mg base k "is_name" [] [] s_is_name) (R_is_word : Rdy P w K mg base k "is_word" [] [] s_is_word)
    (len : ∀ ds S Q E, s_ ds S Q E → ds.length = 1) (ok : BodyOk (d_is_relation K s_is_name s_is_word) ["thing", "part"] s_) : FnG P w K mg base (k + 1) f fd ["thing"] (lift K s_) :=
  def_ok Fd sc_is_relation len fun cdv A outer s H E hgd hr => (w_is_relation T hgd hr R_is_name R_is_word).elim fun t v => ⟨t, _, v, ok⟩
theorem r_is_relation {k : Nat} {f : Addr} {fd : FuncData} {s_ : Spd} {s_is_name : Spd} {s_is_word : Spd} (T : Txt K mg) (hm : mg "is_relation" = some (.ref f)) (Fd : FunD K "is_relation" "is_relation" (defArgs st_is_relation) (defBody st_is_relation) (defScope st_is_relation) [] [] f fd) (R_is_name : Rdy P w K mg base k "is_name" [] [] s_is_name) (R_is_word : Rdy P w K mg base k "is_word" [] [] s_is_word)
    (len : ∀ ds S Q E, s_ ds S Q E → ds.length = 1) (ok : BodyOk (d_is_relation K s_is_name s_is_word) ["thing", "part"] s_) : Rdy P w K mg base (k + 1) "is_relation" [] [] s_ :=
  rdy_of (g_is_relation T Fd R_is_name R_is_word len ok) hm Fd.kp (Fd.bindsN fun _ _ _ _ _ _ us hl => match us, hl with | [_], _ => rfl)
theorem sc_are_such : FnScope ["things", "least", "most", "fits", "thing"] ["things", "least", "most", "fits"] (defScope st_are_such) := ⟨rfl, rfl, rfl, by decide +kernel, rfl, by decide +kernel, by decide +kernel⟩
def tb_are_such_fits (K : PySem.W.Frag) (s_is_point : Spd) (s_is_rule : Spd) (s_is_cause : Spd) (s_is_command : Spd) (s_is_relation : Spd) : Addr → Spd → Prop := fun f spd => (f = He.ga K "is_point" ∧ spd = s_is_point) ∨ (f = He.ga K "is_rule" ∧ spd = s_is_rule) ∨ (f = He.ga K "is_cause" ∧ spd = s_is_cause) ∨ (f = He.ga K "is_command" ∧ spd = s_is_command) ∨ (f = He.ga K "is_relation" ∧ spd = s_is_relation)
theorem vb_are_such_fits {k : Nat} {s_is_point : Spd} {s_is_rule : Spd} {s_is_cause : Spd} {s_is_command : Spd} {s_is_relation : Spd} (T : Txt K mg) (R_is_point : Rdy P w K mg base k "is_point" [] [] s_is_point) (R_is_rule : Rdy P w K mg base k "is_rule" [] [] s_is_rule) (R_is_cause : Rdy P w K mg base k "is_cause" [] [] s_is_cause) (R_is_command : Rdy P w K mg base k "is_command" [] [] s_is_command) (R_is_relation : Rdy P w K mg base k "is_relation" [] [] s_is_relation) : ∀ f spd, tb_are_such_fits K s_is_point s_is_rule s_is_cause s_is_command s_is_relation f spd → HeldG P w K mg base k f spd := fun f spd h => by
  rcases h with ⟨rfl, rfl⟩ | ⟨rfl, rfl⟩ | ⟨rfl, rfl⟩ | ⟨rfl, rfl⟩ | ⟨rfl, rfl⟩
  · exact held_of R_is_point T.f_is_point
  · exact held_of R_is_rule T.f_is_rule
  · exact held_of R_is_cause T.f_is_cause
  · exact held_of R_is_command T.f_is_command
  · exact held_of R_is_relation T.f_is_relation
def d_are_such (K : PySem.W.Frag) (s_is_point : Spd) (s_is_rule : Spd) (s_is_cause : Spd) (s_is_command : Spd) (s_is_relation : Spd) : TSd := (dRet (dAndV (dCB dIsi (dCons (dVar 0) (dCons (dTup (dCons (dC (.ty "list")) (dCons (dC (.ty "tuple")) dNil))) dNil))) (dAndV (dChain dLe dLe (dVar 1) (dCB dLen (dCons (dVar 0) dNil)) (dVar 2)) (dCB dAll (dCons (dLc (nAny (dVar 0)) (hName 4) dYes (dCallV 3 (tb_are_such_fits K s_is_point s_is_rule s_is_cause s_is_command s_is_relation) (dCons (dVar 4) dNil)) [4]) dNil)))))
theorem w_are_such {k : Nat} {f : Addr} {cdv : Value} {A : Around} {outer : List Env} {s : Shared} {H : Hp} {E : XK} {s_is_point : Spd} {s_is_rule : Spd} {s_is_cause : Spd} {s_is_command : Spd} {s_is_relation : Spd} (T : Txt K mg) (hgd : A.guards = some []) (hr : Room k (A.deeper (envOfC "are_such" (defScope st_are_such) s.heap.objs.size f cdv))) (V_are_such_fits : ∀ f spd, tb_are_such_fits K s_is_point s_is_rule s_is_cause s_is_command s_is_relation f spd → HeldG P w K mg base k f spd) :
    ∃ t, VSs (cxOf (L2.CX P w) P w K mg base ["things", "least", "most", "fits", "thing"] "are_such" (defScope st_are_such) f cdv A outer s H E) (wDef E) (defBody st_are_such) t (d_are_such K s_is_point s_is_rule s_is_cause s_is_command s_is_relation) :=
  have hu1 := room1 hr
  have hu64 := hr.units
  have hu66 := room66 hr
  ⟨_, by exact (vss_one (vs_ret (ve_and (ve_cb snd_isi call_isA T.b_isinstance (va_cons (ve_v 0) (va_cons (ve_tup (va_cons (ve_ty T.b_list VL.boot_list) (va_cons (ve_ty T.b_tuple VL.boot_tuple) va_nil))) va_nil))) (ve_and (ve_chain op_le snd_iCmp op_le snd_iCmp (ve_v 1) (ve_cb snd_len call_lenA T.b_len (va_cons (ve_v 0) va_nil)) (ve_v 2)) (ve_one (ve_cb snd_all (cr_all rfl) T.b_all (va_cons (ve_lcX (own := [("thing", 4)]) rfl sc_are_such.nd (vi_any (ve_v 0)) (blkOk_by (N := ["things", "least", "most", "fits", "thing"]) (sc := defScope st_are_such) (own := [("thing", 4)]) (by decide +kernel)) (fun _ _ _ _ _ => ⟨_, (vg_n sc_are_such.nd)⟩) (fun _ _ _ _ _ => ⟨_, vts_nil⟩) (fun _ _ _ _ _ => ⟨_, (ve_callV (i := 3) V_are_such_fits hgd hr takes0 rfl (va_cons (ve_v 4) va_nil))⟩)) va_nil)))))))⟩
/-- what is left to be shown of are_such: BodyOk -/
theorem g_are_such {k : Nat} {f : Addr} {fd : FuncData} {s_ : Spd} {s_is_point : Spd} {s_is_rule : Spd} {s_is_cause : Spd} {s_is_command : Spd} {s_is_relation : Spd} (T : Txt K mg) (Fd : FunD K "are_such" "are_such" (defArgs st_are_such) (defBody st_are_such) (defScope st_are_such) [] [] f fd) (V_are_such_fits : ∀ f spd, tb_are_such_fits K s_is_point s_is_rule s_is_cause s_is_command s_is_relation f spd → HeldG P w K mg base k f spd)
    (len : ∀ ds S Q E, s_ ds S Q E → ds.length = 4) (ok : BodyOk (d_are_such K s_is_point s_is_rule s_is_cause s_is_command s_is_relation) ["things", "least", "most", "fits", "thing"] s_) : FnG P w K mg base (k + 1) f fd ["things", "least", "most", "fits"] (lift K s_) :=
  def_ok Fd sc_are_such len fun cdv A outer s H E hgd hr => (w_are_such T hgd hr V_are_such_fits).elim fun t v => ⟨t, _, v, ok⟩
theorem r_are_such {k : Nat} {f : Addr} {fd : FuncData} {s_ : Spd} {s_is_point : Spd} {s_is_rule : Spd} {s_is_cause : Spd} {s_is_command : Spd} {s_is_relation : Spd} (T : Txt K mg) (hm : mg "are_such" = some (.ref f)) (Fd : FunD K "are_such" "are_such" (defArgs st_are_such) (defBody st_are_such) (defScope st_are_such) [] [] f fd) (V_are_such_fits : ∀ f spd, tb_are_such_fits K s_is_point s_is_rule s_is_cause s_is_command s_is_relation f spd → HeldG P w K mg base k f spd)
    (len : ∀ ds S Q E, s_ ds S Q E → ds.length = 4) (ok : BodyOk (d_are_such K s_is_point s_is_rule s_is_cause s_is_command s_is_relation) ["things", "least", "most", "fits", "thing"] s_) : Rdy P w K mg base (k + 1) "are_such" [] [] s_ :=
  rdy_of (g_are_such T Fd V_are_such_fits len ok) hm Fd.kp (Fd.bindsN fun _ _ _ _ _ _ us hl => match us, hl with | [_, _, _, _], _ => rfl)
theorem sc_names_of : FnScope ["relation"] ["relation"] (defScope st_names_of) := ⟨rfl, rfl, rfl, by decide +kernel, rfl, by decide +kernel, by decide +kernel⟩
def d_names_of (K : PySem.W.Frag) : TSd := (dRet (dIfE (dTest (dOp dEq (dOp dIx (dVar 0) (dC (.int 0))) (dC (.str "sum")))) (dOp dAdd (dLst (dCons (dOp dIx (dVar 0) (dC (.int 1))) dNil)) (dCB dListOf (dCons (dOp dIx (dVar 0) (dC (.int 2))) dNil))) (dLst (dCons (dOp dIx (dVar 0) (dC (.int 1))) (dCons (dOp dIx (dVar 0) (dC (.int 2))) dNil)))))
theorem w_names_of {k : Nat} {f : Addr} {cdv : Value} {A : Around} {outer : List Env} {s : Shared} {H : Hp} {E : XK} (T : Txt K mg) (hgd : A.guards = some []) (hr : Room k (A.deeper (envOfC "names_of" (defScope st_names_of) s.heap.objs.size f cdv))) :
    ∃ t, VSs (cxOf (L2.CX P w) P w K mg base ["relation"] "names_of" (defScope st_names_of) f cdv A outer s H E) (wDef E) (defBody st_names_of) t (d_names_of K) :=
  have hu1 := room1 hr
  have hu64 := hr.units
  have hu66 := room66 hr
  ⟨_, by exact (vss_one (vs_ret (ve_ifE (vt_eq hu64 (ve_item hu1 (ve_v 0) ve_int) ve_str) (ve_add (ve_lst (va_cons (ve_item hu1 (ve_v 0) ve_int) va_nil)) (ve_ct snd_listOf call_list_of T.b_list (va_cons (ve_item hu1 (ve_v 0) ve_int) va_nil))) (ve_lst (va_cons (ve_item hu1 (ve_v 0) ve_int) (va_cons (ve_item hu1 (ve_v 0) ve_int) va_nil))))))⟩
/-- what is left to be shown of names_of: BodyOk -/
theorem g_names_of {k : Nat} {f : Addr} {fd : FuncData} {s_ : Spd} (T : Txt K mg) (Fd : FunD K "names_of" "names_of" (defArgs st_names_of) (defBody st_names_of) (defScope st_names_of) [] [] f fd)
    (len : ∀ ds S Q E, s_ ds S Q E → ds.length = 1) (ok : BodyOk (d_names_of K) ["relation"] s_) : FnG P w K mg base (k + 1) f fd ["relation"] (lift K s_) :=
  def_ok Fd sc_names_of len fun cdv A outer s H E hgd hr => (w_names_of T hgd hr ).elim fun t v => ⟨t, _, v, ok⟩
theorem r_names_of {k : Nat} {f : Addr} {fd : FuncData} {s_ : Spd} (T : Txt K mg) (hm : mg "names_of" = some (.ref f)) (Fd : FunD K "names_of" "names_of" (defArgs st_names_of) (defBody st_names_of) (defScope st_names_of) [] [] f fd)
    (len : ∀ ds S Q E, s_ ds S Q E → ds.length = 1) (ok : BodyOk (d_names_of K) ["relation"] s_) : Rdy P w K mg base (k + 1) "names_of" [] [] s_ :=
  rdy_of (g_names_of T Fd  len ok) hm Fd.kp (Fd.bindsN fun _ _ _ _ _ _ us hl => match us, hl with | [_], _ => rfl)
theorem sc_is_sign : FnScope ["thing", "time", "worth", "mark"] ["thing"] (defScope st_is_sign) := ⟨rfl, rfl, rfl, by decide +kernel, rfl, by decide +kernel, by decide +kernel⟩
def d_is_sign (K : PySem.W.Frag) (s_is_mark : Spd) (s_is_whole : Spd) (s_is_time : Spd) : TSd := (dSeq (dIf (dOrT (dNotT (dTest (dCB dIsi (dCons (dVar 0) (dCons (dC (.ty "tuple")) dNil))))) (dTest (dOp dNe (dCB dLen (dCons (dVar 0) dNil)) (dC (.int 3))))) (dRet (dC (.bl false))) dNext) (dSeq (dAsg (dVar 0) (hTup 3 (hCons (hName 1) (hCons (hName 2) (hCons (hName 3) hNil))))) (dRet (dAndV (dCall s_is_time [] (dCons (dVar 1) dNil)) (dAndV (dCall s_is_whole [] (dCons (dVar 2) (dCons (dC (.int 0)) (dCons (dC (.int 63)) dNil)))) (dCall s_is_mark [] (dCons (dVar 3) dNil)))))))
theorem w_is_sign {k : Nat} {f : Addr} {cdv : Value} {A : Around} {outer : List Env} {s : Shared} {H : Hp} {E : XK} {s_is_mark : Spd} {s_is_whole : Spd} {s_is_time : Spd} (T : Txt K mg) (hgd : A.guards = some []) (hr : Room k (A.deeper (envOfC "is_sign" (defScope st_is_sign) s.heap.objs.size f cdv))) (R_is_mark : Rdy P w K mg base k "is_mark" [] [] s_is_mark) (R_is_whole : Rdy P w K mg base k "is_whole" [] [] s_is_whole) (R_is_time : Rdy P w K mg base k "is_time" [] [] s_is_time) :
    ∃ t, VSs (cxOf (L2.CX P w) P w K mg base ["thing", "time", "worth", "mark"] "is_sign" (defScope st_is_sign) f cdv A outer s H E) (wDef E) (defBody st_is_sign) t (d_is_sign K s_is_mark s_is_whole s_is_time) :=
  have hu1 := room1 hr
  have hu64 := hr.units
  have hu66 := room66 hr
  ⟨_, by exact (vss_cons (vs_if (vt_w (vw_or (vt_not (vt_val (ve_cb snd_isi call_isA T.b_isinstance (va_cons (ve_v 0) (va_cons (ve_ty T.b_tuple VL.boot_tuple) va_nil))))) (vw_or1 (vt_ne hu64 (ve_cb snd_len call_lenA T.b_len (va_cons (ve_v 0) va_nil)) ve_int)))) (vss_one (vs_ret ve_bl)) vss_nil) (vss_cons (vs_asg (vs := [1, 2, 3]) (ve_v 0) (vg_tup rfl (vgs_cons (vg_n sc_is_sign.nd) (vgs_cons (vg_n sc_is_sign.nd) (vgs_cons (vg_n sc_is_sign.nd) vgs_nil))))) (vss_one (vs_ret (ve_and (ve_callR R_is_time hgd hr (takes_of rfl rfl rfl rfl) (va_cons (ve_v 1) va_nil)) (ve_and (ve_callR R_is_whole hgd hr (takes_of rfl rfl rfl rfl) (va_cons (ve_v 2) (va_cons ve_int (va_cons (ve_gi T.c_MOST_LEVEL) va_nil)))) (ve_one (ve_callR R_is_mark hgd hr (takes_of rfl rfl rfl rfl) (va_cons (ve_v 3) va_nil)))))))))⟩
/-- what is left to be shown of is_sign: BodyOk -/
theorem g_is_sign {k : Nat} {f : Addr} {fd : FuncData} {s_ : Spd} {s_is_mark : Spd} {s_is_whole : Spd} {s_is_time : Spd} (T : Txt K mg) (Fd : FunD K "is_sign" "is_sign" (defArgs st_is_sign) (defBody st_is_sign) (defScope st_is_sign) [] [] f fd) (R_is_mark : Rdy P w K mg base k "is_mark" [] [] s_is_mark) (R_is_whole : Rdy P w K mg base k "is_whole" [] [] s_is_whole) (R_is_time : Rdy P w K mg base k "is_time" [] [] s_is_time)
    (len : ∀ ds S Q E, s_ ds S Q E → ds.length = 1) (ok : BodyOk (d_is_sign K s_is_mark s_is_whole s_is_time) ["thing", "time", "worth", "mark"] s_) : FnG P w K mg base (k + 1) f fd ["thing"] (lift K s_) :=
  def_ok Fd sc_is_sign len fun cdv A outer s H E hgd hr => (w_is_sign T hgd hr R_is_mark R_is_whole R_is_time).elim fun t v => ⟨t, _, v, ok⟩
theorem r_is_sign {k : Nat} {f : Addr} {fd : FuncData} {s_ : Spd} {s_is_mark : Spd} {s_is_whole : Spd} {s_is_time : Spd} (T : Txt K mg) (hm : mg "is_sign" = some (.ref f)) (Fd : FunD K "is_sign" "is_sign" (defArgs st_is_sign) (defBody st_is_sign) (defScope st_is_sign) [] [] f fd) (R_is_mark : Rdy P w K mg base k "is_mark" [] [] s_is_mark) (R_is_whole : Rdy P w K mg base k "is_whole" [] [] s_is_whole) (R_is_time : Rdy P w K mg base k "is_time" [] [] s_is_time)
    (len : ∀ ds S Q E, s_ ds S Q E → ds.length = 1) (ok : BodyOk (d_is_sign K s_is_mark s_is_whole s_is_time) ["thing", "time", "worth", "mark"] s_) : Rdy P w K mg base (k + 1) "is_sign" [] [] s_ :=
  rdy_of (g_is_sign T Fd R_is_mark R_is_whole R_is_time len ok) hm Fd.kp (Fd.bindsN fun _ _ _ _ _ _ us hl => match us, hl with | [_], _ => rfl)
theorem sc_need_history : FnScope ["thing", "sign", "one", "other"] ["thing"] (defScope st_need_history) := ⟨rfl, rfl, rfl, by decide +kernel, rfl, by decide +kernel, by decide +kernel⟩
def d_need_history (K : PySem.W.Frag) (s_is_sign : Spd) : TSd := (dSeq (dIf (dOrT (dNotT (dTest (dCB dIsi (dCons (dVar 0) (dCons (dTup (dCons (dC (.ty "list")) (dCons (dC (.ty "tuple")) dNil))) dNil))))) (dNotT (dTest (dCB dAll (dCons (dLc (nAny (dVar 0)) (hName 1) dYes (dCall s_is_sign [] (dCons (dVar 1) dNil)) [1]) dNil))))) dNever dNext) (dIf (dNotT (dTest (dCB dAll (dCons (dLc (nZip (dCons (dVar 0) (dCons (dSliceA (dVar 0) (dPart (dC (.int 1))) dNoPart) dNil))) (hTup 2 (hCons (hName 2) (hCons (hName 3) hNil))) dYes (dOp dLt (dOp dIx (dVar 2) (dC (.int 0))) (dOp dIx (dVar 3) (dC (.int 0)))) [2, 3]) dNil)))) dNever dNext))
theorem w_need_history {k : Nat} {f : Addr} {cdv : Value} {A : Around} {outer : List Env} {s : Shared} {H : Hp} {E : XK} {s_is_sign : Spd} (T : Txt K mg) (hgd : A.guards = some []) (hr : Room k (A.deeper (envOfC "need_history" (defScope st_need_history) s.heap.objs.size f cdv))) (R_is_sign : Rdy P w K mg base k "is_sign" [] [] s_is_sign) :
    ∃ t, VSs (cxOf (L2.CX P w) P w K mg base ["thing", "sign", "one", "other"] "need_history" (defScope st_need_history) f cdv A outer s H E) (wDef E) (defBody st_need_history) t (d_need_history K s_is_sign) :=
  have hu1 := room1 hr
  have hu64 := hr.units
  have hu66 := room66 hr
  ⟨_, by exact (vss_cons (vs_if (vt_w (vw_or (vt_not (vt_val (ve_cb snd_isi call_isA T.b_isinstance (va_cons (ve_v 0) (va_cons (ve_tup (va_cons (ve_ty T.b_list VL.boot_list) (va_cons (ve_ty T.b_tuple VL.boot_tuple) va_nil))) va_nil))))) (vw_or1 (vt_not (vt_val (ve_cb snd_all (cr_all rfl) T.b_all (va_cons (ve_lcX (own := [("sign", 1)]) rfl sc_need_history.nd (vi_any (ve_v 0)) (blkOk_by (N := ["thing", "sign", "one", "other"]) (sc := defScope st_need_history) (own := [("sign", 1)]) (by decide +kernel)) (fun _ _ _ _ _ => ⟨_, (vg_n sc_need_history.nd)⟩) (fun _ _ _ _ _ => ⟨_, vts_nil⟩) (fun _ _ _ _ _ => ⟨_, (ve_callR R_is_sign hgd hr takes0 (va_cons (ve_v 1) va_nil))⟩)) va_nil))))))) (vss_one vs_never) vss_nil) (vss_one (vs_if (vt_not (vt_val (ve_cb snd_all (cr_all rfl) T.b_all (va_cons (ve_lcX (own := [("one", 2), ("other", 3)]) rfl sc_need_history.nd (vi_zip T.b_zip (va_cons (ve_v 0) (va_cons (ve_sliceA (ve_v 0) (vo_some ve_int) vo_none) va_nil))) (blkOk_by (N := ["thing", "sign", "one", "other"]) (sc := defScope st_need_history) (own := [("one", 2), ("other", 3)]) (by decide +kernel)) (fun _ _ _ _ _ => ⟨_, (vg_tup rfl (vgs_cons (vg_n sc_need_history.nd) (vgs_cons (vg_n sc_need_history.nd) vgs_nil)))⟩) (fun _ _ _ _ _ => ⟨_, vts_nil⟩) (fun _ _ _ _ _ => ⟨_, (ve_lt (ve_item hu1 (ve_v 2) ve_int) (ve_item hu1 (ve_v 3) ve_int))⟩)) va_nil)))) (vss_one vs_never) vss_nil)))⟩
/-- what is left to be shown of need_history: BodyOk -/
theorem g_need_history {k : Nat} {f : Addr} {fd : FuncData} {s_ : Spd} {s_is_sign : Spd} (T : Txt K mg) (Fd : FunD K "need_history" "need_history" (defArgs st_need_history) (defBody st_need_history) (defScope st_need_history) [] [] f fd) (R_is_sign : Rdy P w K mg base k "is_sign" [] [] s_is_sign)
    (len : ∀ ds S Q E, s_ ds S Q E → ds.length = 1) (ok : BodyOk (d_need_history K s_is_sign) ["thing", "sign", "one", "other"] s_) : FnG P w K mg base (k + 1) f fd ["thing"] (lift K s_) :=
  def_ok Fd sc_need_history len fun cdv A outer s H E hgd hr => (w_need_history T hgd hr R_is_sign).elim fun t v => ⟨t, _, v, ok⟩
theorem r_need_history {k : Nat} {f : Addr} {fd : FuncData} {s_ : Spd} {s_is_sign : Spd} (T : Txt K mg) (hm : mg "need_history" = some (.ref f)) (Fd : FunD K "need_history" "need_history" (defArgs st_need_history) (defBody st_need_history) (defScope st_need_history) [] [] f fd) (R_is_sign : Rdy P w K mg base k "is_sign" [] [] s_is_sign)
    (len : ∀ ds S Q E, s_ ds S Q E → ds.length = 1) (ok : BodyOk (d_need_history K s_is_sign) ["thing", "sign", "one", "other"] s_) : Rdy P w K mg base (k + 1) "need_history" [] [] s_ :=
  rdy_of (g_need_history T Fd R_is_sign len ok) hm Fd.kp (Fd.bindsN fun _ _ _ _ _ _ us hl => match us, hl with | [_], _ => rfl)
theorem sc_need_works : FnScope ["thing"] ["thing"] (defScope st_need_works) := ⟨rfl, rfl, rfl, by decide +kernel, rfl, by decide +kernel, by decide +kernel⟩
def d_need_works (K : PySem.W.Frag) : TSd := (dIf (dNotT (dTest (dCB (dIsC (He.ga K "Works")) (dCons (dVar 0) (dCons (dC (.ref (He.ga K "Works"))) dNil))))) dNever dNext)
theorem w_need_works {k : Nat} {f : Addr} {cdv : Value} {A : Around} {outer : List Env} {s : Shared} {H : Hp} {E : XK} (T : Txt K mg) (hgd : A.guards = some []) (hr : Room k (A.deeper (envOfC "need_works" (defScope st_need_works) s.heap.objs.size f cdv))) :
    ∃ t, VSs (cxOf (L2.CX P w) P w K mg base ["thing"] "need_works" (defScope st_need_works) f cdv A outer s H E) (wDef E) (defBody st_need_works) t (d_need_works K) :=
  have hu1 := room1 hr
  have hu64 := hr.units
  have hu66 := room66 hr
  ⟨_, by exact (vss_one (vs_if (vt_not (vt_val (ve_cb (snd_isC T.E_Works) L2.call_isi T.b_isinstance (va_cons (ve_v 0) (va_cons (ve_go T.o_Works (fun _ => .ref _)) va_nil))))) (vss_one vs_never) vss_nil))⟩
/-- what is left to be shown of need_works: BodyOk -/
theorem g_need_works {k : Nat} {f : Addr} {fd : FuncData} {s_ : Spd} (T : Txt K mg) (Fd : FunD K "need_works" "need_works" (defArgs st_need_works) (defBody st_need_works) (defScope st_need_works) [] [] f fd)
    (len : ∀ ds S Q E, s_ ds S Q E → ds.length = 1) (ok : BodyOk (d_need_works K) ["thing"] s_) : FnG P w K mg base (k + 1) f fd ["thing"] (lift K s_) :=
  def_ok Fd sc_need_works len fun cdv A outer s H E hgd hr => (w_need_works T hgd hr ).elim fun t v => ⟨t, _, v, ok⟩
theorem r_need_works {k : Nat} {f : Addr} {fd : FuncData} {s_ : Spd} (T : Txt K mg) (hm : mg "need_works" = some (.ref f)) (Fd : FunD K "need_works" "need_works" (defArgs st_need_works) (defBody st_need_works) (defScope st_need_works) [] [] f fd)
    (len : ∀ ds S Q E, s_ ds S Q E → ds.length = 1) (ok : BodyOk (d_need_works K) ["thing"] s_) : Rdy P w K mg base (k + 1) "need_works" [] [] s_ :=
  rdy_of (g_need_works T Fd  len ok) hm Fd.kp (Fd.bindsN fun _ _ _ _ _ _ us hl => match us, hl with | [_], _ => rfl)
theorem sc_need_histories : FnScope ["works", "thing", "point", "history", "sign"] ["works", "thing"] (defScope st_need_histories) := ⟨rfl, rfl, rfl, by decide +kernel, rfl, by decide +kernel, by decide +kernel⟩
def g_need_histories_0 (K : PySem.W.Frag) (s_need_works : Spd) (s_need_history : Spd) (s_Works_has_point : Spd) (s_Works_is_worth : Spd) : TGd := (hTup 2 (hCons (hName 2) (hCons (hName 3) hNil)))
theorem u_g_need_histories_0 {s_need_works : Spd} {s_need_history : Spd} {s_Works_has_point : Spd} {s_Works_is_worth : Spd} {d : D} {σ : Sd} {S : Sto} {Q : Sd → Sto → Prop} : g_need_histories_0 K s_need_works s_need_history s_Works_has_point s_Works_is_worth d σ S Q = (hTup 2 (hCons (hName 2) (hCons (hName 3) hNil))) d σ S Q := rfl
def b_need_histories_0 (K : PySem.W.Frag) (s_need_works : Spd) (s_need_history : Spd) (s_Works_has_point : Spd) (s_Works_is_worth : Spd) : TSd := (dSeq (dThru (dDrop (dCall s_need_history [] (dCons (dVar 3) dNil)))) (dIf (dOrT (dTest (dOp dGt (dCB dLen (dCons (dVar 3) dNil)) (dC (.int 100)))) (dNotT (dTest (dCB dAll (dCons (dLc (nAny (dVar 3)) (hName 4) dYes (dMeth (He.ga K "Works") "is_worth" s_Works_is_worth [] (dVar 0) (dCons (dVar 2) (dCons (dOp dIx (dVar 4) (dC (.int 1))) dNil))) [4]) dNil))))) dNever dNext))
theorem u_b_need_histories_0 {s_need_works : Spd} {s_need_history : Spd} {s_Works_has_point : Spd} {s_Works_is_worth : Spd} {D : EndsD} {σ : Sd} {S : Sto} : b_need_histories_0 K s_need_works s_need_history s_Works_has_point s_Works_is_worth D σ S = (dSeq (dThru (dDrop (dCall s_need_history [] (dCons (dVar 3) dNil)))) (dIf (dOrT (dTest (dOp dGt (dCB dLen (dCons (dVar 3) dNil)) (dC (.int 100)))) (dNotT (dTest (dCB dAll (dCons (dLc (nAny (dVar 3)) (hName 4) dYes (dMeth (He.ga K "Works") "is_worth" s_Works_is_worth [] (dVar 0) (dCons (dVar 2) (dCons (dOp dIx (dVar 4) (dC (.int 1))) dNil))) [4]) dNil))))) dNever dNext)) D σ S := rfl
def d_need_histories (K : PySem.W.Frag) (s_need_works : Spd) (s_need_history : Spd) (s_Works_has_point : Spd) (s_Works_is_worth : Spd) : TSd := (dSeq (dDrop (dCall s_need_works [] (dCons (dVar 0) dNil))) (dSeq (dIf (dOrT (dNotT (dTest (dCB dIsi (dCons (dVar 1) (dCons (dC (.ty "dict")) dNil))))) (dNotT (dTest (dCB dAll (dCons (dLcD .keys (dVar 1) (hName 2) dYes (dMeth (He.ga K "Works") "has_point" s_Works_has_point [] (dVar 0) (dCons (dVar 2) dNil)) [2]) dNil))))) dNever dNext) (dForD .items (dVar 1) (g_need_histories_0 K s_need_works s_need_history s_Works_has_point s_Works_is_worth) (b_need_histories_0 K s_need_works s_need_history s_Works_has_point s_Works_is_worth))))
theorem w_need_histories {k : Nat} {f : Addr} {cdv : Value} {A : Around} {outer : List Env} {s : Shared} {H : Hp} {E : XK} {s_need_works : Spd} {s_need_history : Spd} {s_Works_has_point : Spd} {s_Works_is_worth : Spd} (T : Txt K mg) (hgd : A.guards = some []) (hr : Room k (A.deeper (envOfC "need_histories" (defScope st_need_histories) s.heap.objs.size f cdv))) (R_need_works : Rdy P w K mg base k "need_works" [] [] s_need_works) (R_need_history : Rdy P w K mg base k "need_history" [] [] s_need_history) (R_Works_has_point : RdyM P w K mg base k (He.ga K "Works") "has_point" [] [] s_Works_has_point) (R_Works_is_worth : RdyM P w K mg base k (He.ga K "Works") "is_worth" [] [] s_Works_is_worth) :
    ∃ t, VSs (cxOf (L2.CX P w) P w K mg base ["works", "thing", "point", "history", "sign"] "need_histories" (defScope st_need_histories) f cdv A outer s H E) (wDef E) (defBody st_need_histories) t (d_need_histories K s_need_works s_need_history s_Works_has_point s_Works_is_worth) :=
  have hu1 := room1 hr
  have hu64 := hr.units
  have hu66 := room66 hr
  ⟨_, by exact (vss_cons (vs_expr (ve_callR R_need_works hgd hr (takes_of rfl rfl rfl rfl) (va_cons (ve_v 0) va_nil))) (vss_cons (vs_if (vt_w (vw_or (vt_not (vt_val (ve_cb snd_isi call_isA T.b_isinstance (va_cons (ve_v 1) (va_cons (ve_ty T.b_dict VL.boot_dict) va_nil))))) (vw_or1 (vt_not (vt_val (ve_cb snd_all (cr_all rfl) T.b_all (va_cons (ve_lcD (own := [("point", 2)]) rfl sc_need_histories.nd (vd_keys (ve_v 1)) (blkOk_by (N := ["works", "thing", "point", "history", "sign"]) (sc := defScope st_need_histories) (own := [("point", 2)]) (by decide +kernel)) (fun _ _ _ _ _ => ⟨_, (vg_n sc_need_histories.nd)⟩) (fun _ _ _ _ _ => ⟨_, vts_nil⟩) (fun _ _ _ _ _ => ⟨_, (ve_methR R_Works_has_point T.C_Works hgd hr takes0 (ve_v 0) (va_cons (ve_v 2) va_nil))⟩)) va_nil))))))) (vss_one vs_never) vss_nil) (vss_one (vs_forD (vs := [2, 3]) (passes_of rfl) rfl (vd_items (ve_v 1)) (vg_tup rfl (vgs_cons (vg_n sc_need_histories.nd) (vgs_cons (vg_n sc_need_histories.nd) vgs_nil))) (vss_cons (vs_thru ⟨_, (vss_one (vs_expr (ve_callR R_need_history hgd hr takes0 (va_cons (ve_v 3) va_nil))))⟩) (vss_one (vs_if (vt_w (vw_or (vt_gt (ve_cb snd_len call_lenA T.b_len (va_cons (ve_v 3) va_nil)) (ve_gi T.c_MOST_SIGNS)) (vw_or1 (vt_not (vt_val (ve_cb snd_all (cr_all rfl) T.b_all (va_cons (ve_lcX (own := [("sign", 4)]) rfl sc_need_histories.nd (vi_any (ve_v 3)) (blkOk_by (N := ["works", "thing", "point", "history", "sign"]) (sc := defScope st_need_histories) (own := [("sign", 4)]) (by decide +kernel)) (fun _ _ _ _ _ => ⟨_, (vg_n sc_need_histories.nd)⟩) (fun _ _ _ _ _ => ⟨_, vts_nil⟩) (fun _ _ _ _ _ => ⟨_, (ve_methR R_Works_is_worth T.C_Works hgd hr takes0 (ve_v 0) (va_cons (ve_v 2) (va_cons (ve_item hu1 (ve_v 4) ve_int) va_nil)))⟩)) va_nil))))))) (vss_one vs_never) vss_nil)))))))⟩
/-- what is left to be shown of need_histories: BodyOk -/
theorem g_need_histories {k : Nat} {f : Addr} {fd : FuncData} {s_ : Spd} {s_need_works : Spd} {s_need_history : Spd} {s_Works_has_point : Spd} {s_Works_is_worth : Spd} (T : Txt K mg) (Fd : FunD K "need_histories" "need_histories" (defArgs st_need_histories) (defBody st_need_histories) (defScope st_need_histories) [] [] f fd) (R_need_works : Rdy P w K mg base k "need_works" [] [] s_need_works) (R_need_history : Rdy P w K mg base k "need_history" [] [] s_need_history) (R_Works_has_point : RdyM P w K mg base k (He.ga K "Works") "has_point" [] [] s_Works_has_point) (R_Works_is_worth : RdyM P w K mg base k (He.ga K "Works") "is_worth" [] [] s_Works_is_worth)
    (len : ∀ ds S Q E, s_ ds S Q E → ds.length = 2) (ok : BodyOk (d_need_histories K s_need_works s_need_history s_Works_has_point s_Works_is_worth) ["works", "thing", "point", "history", "sign"] s_) : FnG P w K mg base (k + 1) f fd ["works", "thing"] (lift K s_) :=
  def_ok Fd sc_need_histories len fun cdv A outer s H E hgd hr => (w_need_histories T hgd hr R_need_works R_need_history R_Works_has_point R_Works_is_worth).elim fun t v => ⟨t, _, v, ok⟩
theorem r_need_histories {k : Nat} {f : Addr} {fd : FuncData} {s_ : Spd} {s_need_works : Spd} {s_need_history : Spd} {s_Works_has_point : Spd} {s_Works_is_worth : Spd} (T : Txt K mg) (hm : mg "need_histories" = some (.ref f)) (Fd : FunD K "need_histories" "need_histories" (defArgs st_need_histories) (defBody st_need_histories) (defScope st_need_histories) [] [] f fd) (R_need_works : Rdy P w K mg base k "need_works" [] [] s_need_works) (R_need_history : Rdy P w K mg base k "need_history" [] [] s_need_history) (R_Works_has_point : RdyM P w K mg base k (He.ga K "Works") "has_point" [] [] s_Works_has_point) (R_Works_is_worth : RdyM P w K mg base k (He.ga K "Works") "is_worth" [] [] s_Works_is_worth)
    (len : ∀ ds S Q E, s_ ds S Q E → ds.length = 2) (ok : BodyOk (d_need_histories K s_need_works s_need_history s_Works_has_point s_Works_is_worth) ["works", "thing", "point", "history", "sign"] s_) : Rdy P w K mg base (k + 1) "need_histories" [] [] s_ :=
  rdy_of (g_need_histories T Fd R_need_works R_need_history R_Works_has_point R_Works_is_worth len ok) hm Fd.kp (Fd.bindsN fun _ _ _ _ _ _ us hl => match us, hl with | [_, _], _ => rfl)
theorem sc_need_time : FnScope ["thing"] ["thing"] (defScope st_need_time) := ⟨rfl, rfl, rfl, by decide +kernel, rfl, by decide +kernel, by decide +kernel⟩
def d_need_time (K : PySem.W.Frag) (s_is_time : Spd) : TSd := (dIf (dNotT (dTest (dCall s_is_time [] (dCons (dVar 0) dNil)))) dNever dNext)
theorem w_need_time {k : Nat} {f : Addr} {cdv : Value} {A : Around} {outer : List Env} {s : Shared} {H : Hp} {E : XK} {s_is_time : Spd} (T : Txt K mg) (hgd : A.guards = some []) (hr : Room k (A.deeper (envOfC "need_time" (defScope st_need_time) s.heap.objs.size f cdv))) (R_is_time : Rdy P w K mg base k "is_time" [] [] s_is_time) :
    ∃ t, VSs (cxOf (L2.CX P w) P w K mg base ["thing"] "need_time" (defScope st_need_time) f cdv A outer s H E) (wDef E) (defBody st_need_time) t (d_need_time K s_is_time) :=
  have hu1 := room1 hr
  have hu64 := hr.units
  have hu66 := room66 hr
  ⟨_, by exact (vss_one (vs_if (vt_not (vt_val (ve_callR R_is_time hgd hr (takes_of rfl rfl rfl rfl) (va_cons (ve_v 0) va_nil)))) (vss_one vs_never) vss_nil))⟩
/-- what is left to be shown of need_time: BodyOk -/
theorem g_need_time {k : Nat} {f : Addr} {fd : FuncData} {s_ : Spd} {s_is_time : Spd} (T : Txt K mg) (Fd : FunD K "need_time" "need_time" (defArgs st_need_time) (defBody st_need_time) (defScope st_need_time) [] [] f fd) (R_is_time : Rdy P w K mg base k "is_time" [] [] s_is_time)
    (len : ∀ ds S Q E, s_ ds S Q E → ds.length = 1) (ok : BodyOk (d_need_time K s_is_time) ["thing"] s_) : FnG P w K mg base (k + 1) f fd ["thing"] (lift K s_) :=
  def_ok Fd sc_need_time len fun cdv A outer s H E hgd hr => (w_need_time T hgd hr R_is_time).elim fun t v => ⟨t, _, v, ok⟩
theorem r_need_time {k : Nat} {f : Addr} {fd : FuncData} {s_ : Spd} {s_is_time : Spd} (T : Txt K mg) (hm : mg "need_time" = some (.ref f)) (Fd : FunD K "need_time" "need_time" (defArgs st_need_time) (defBody st_need_time) (defScope st_need_time) [] [] f fd) (R_is_time : Rdy P w K mg base k "is_time" [] [] s_is_time)
    (len : ∀ ds S Q E, s_ ds S Q E → ds.length = 1) (ok : BodyOk (d_need_time K s_is_time) ["thing"] s_) : Rdy P w K mg base (k + 1) "need_time" [] [] s_ :=
  rdy_of (g_need_time T Fd R_is_time len ok) hm Fd.kp (Fd.bindsN fun _ _ _ _ _ _ us hl => match us, hl with | [_], _ => rfl)
theorem sc_worth_at : FnScope ["history", "time", "found", "at", "worth", "mark"] ["history", "time"] (defScope st_worth_at) := ⟨rfl, rfl, rfl, by decide +kernel, rfl, by decide +kernel, by decide +kernel⟩
def d_worth_at (K : PySem.W.Frag) : TSd := (dSeq (dAsg (dLc (nAny (dVar 0)) (hTup 3 (hCons (hName 3) (hCons (hName 4) (hCons (hName 5) hNil)))) (dTest (dOp dLe (dVar 3) (dVar 1))) (dTup (dCons (dVar 4) (dCons (dVar 5) dNil))) [3, 4, 5]) (hName 2)) (dRet (dIfE (dAndT (dTest (dOp dNe (dVar 2) (dLst dNil))) (dTest (dOp dEq (dOp dIx (dOp dIx (dVar 2) (dNeg (dC (.int 1)))) (dC (.int 1))) (dC (.str "good"))))) (dOp dIx (dOp dIx (dVar 2) (dNeg (dC (.int 1)))) (dC (.int 0))) (dC .non))))
theorem w_worth_at {k : Nat} {f : Addr} {cdv : Value} {A : Around} {outer : List Env} {s : Shared} {H : Hp} {E : XK} (T : Txt K mg) (hgd : A.guards = some []) (hr : Room k (A.deeper (envOfC "worth_at" (defScope st_worth_at) s.heap.objs.size f cdv))) :
    ∃ t, VSs (cxOf (L2.CX P w) P w K mg base ["history", "time", "found", "at", "worth", "mark"] "worth_at" (defScope st_worth_at) f cdv A outer s H E) (wDef E) (defBody st_worth_at) t (d_worth_at K) :=
  have hu1 := room1 hr
  have hu64 := hr.units
  have hu66 := room66 hr
  ⟨_, by exact (vss_cons (vs_setLcX (own := [("at", 3), ("worth", 4), ("mark", 5)]) rfl sc_worth_at.nd (vi_any (ve_v 0)) (blkOk_by (N := ["history", "time", "found", "at", "worth", "mark"]) (sc := defScope st_worth_at) (own := [("at", 3), ("worth", 4), ("mark", 5)]) (by decide +kernel)) (fun _ _ _ _ _ => ⟨_, (vg_tup rfl (vgs_cons (vg_n sc_worth_at.nd) (vgs_cons (vg_n sc_worth_at.nd) (vgs_cons (vg_n sc_worth_at.nd) vgs_nil))))⟩) (fun _ _ _ _ _ => ⟨_, (vts_one (vt_le (ve_v 3) (ve_v 1)))⟩) (fun _ _ _ _ _ => ⟨_, (ve_tup (va_cons (ve_v 4) (va_cons (ve_v 5) va_nil)))⟩)) (vss_one (vs_ret (ve_ifE (vt_w (vw_and (vt_ne hu64 (ve_v 2) (ve_lst va_nil)) (vw_and1 (vt_eq hu64 (ve_item hu1 (ve_item hu1 (ve_v 2) (ve_neg ve_int)) ve_int) ve_str)))) (ve_item hu1 (ve_item hu1 (ve_v 2) (ve_neg ve_int)) ve_int) ve_non))))⟩
/-- what is left to be shown of worth_at: BodyOk -/
theorem g_worth_at {k : Nat} {f : Addr} {fd : FuncData} {s_ : Spd} (T : Txt K mg) (Fd : FunD K "worth_at" "worth_at" (defArgs st_worth_at) (defBody st_worth_at) (defScope st_worth_at) [] [] f fd)
    (len : ∀ ds S Q E, s_ ds S Q E → ds.length = 2) (ok : BodyOk (d_worth_at K) ["history", "time", "found", "at", "worth", "mark"] s_) : FnG P w K mg base (k + 1) f fd ["history", "time"] (lift K s_) :=
  def_ok Fd sc_worth_at len fun cdv A outer s H E hgd hr => (w_worth_at T hgd hr ).elim fun t v => ⟨t, _, v, ok⟩
theorem r_worth_at {k : Nat} {f : Addr} {fd : FuncData} {s_ : Spd} (T : Txt K mg) (hm : mg "worth_at" = some (.ref f)) (Fd : FunD K "worth_at" "worth_at" (defArgs st_worth_at) (defBody st_worth_at) (defScope st_worth_at) [] [] f fd)
    (len : ∀ ds S Q E, s_ ds S Q E → ds.length = 2) (ok : BodyOk (d_worth_at K) ["history", "time", "found", "at", "worth", "mark"] s_) : Rdy P w K mg base (k + 1) "worth_at" [] [] s_ :=
  rdy_of (g_worth_at T Fd  len ok) hm Fd.kp (Fd.bindsN fun _ _ _ _ _ _ us hl => match us, hl with | [_, _], _ => rfl)
theorem sc_picture_at : FnScope ["works", "histories", "time", "worths", "point", "worth"] ["works", "histories", "time"] (defScope st_picture_at) := ⟨rfl, rfl, rfl, by decide +kernel, rfl, by decide +kernel, by decide +kernel⟩
def d_picture_at (K : PySem.W.Frag) (s_need_histories : Spd) (s_need_time : Spd) (s_worth_at : Spd) (s_Works_points : Spd) : TSd := (dSeq (dDrop (dCall s_need_histories [] (dCons (dVar 0) (dCons (dVar 1) dNil)))) (dSeq (dDrop (dCall s_need_time [] (dCons (dVar 2) dNil))) (dSeq (dAsg (dDcM (nAny (dMeth (He.ga K "Works") "points" s_Works_points [] (dVar 0) dNil)) (hName 4) dYes (dOp dIx (dVar 4) (dC (.int 0))) (dCall s_worth_at [] (dCons (dGet2 (dVar 1) (dOp dIx (dVar 4) (dC (.int 0))) (dLst dNil)) (dCons (dVar 2) dNil))) [4]) (hName 3)) (dRet (dDcD .items (dVar 3) (hTup 2 (hCons (hName 4) (hCons (hName 5) hNil))) (dTest (dOp (dIsG (!·)) (dVar 5) (dC .non))) (dVar 4) (dVar 5) [4, 5])))))
theorem w_picture_at {k : Nat} {f : Addr} {cdv : Value} {A : Around} {outer : List Env} {s : Shared} {H : Hp} {E : XK} {s_need_histories : Spd} {s_need_time : Spd} {s_worth_at : Spd} {s_Works_points : Spd} (T : Txt K mg) (hgd : A.guards = some []) (hr : Room k (A.deeper (envOfC "picture_at" (defScope st_picture_at) s.heap.objs.size f cdv))) (R_need_histories : Rdy P w K mg base k "need_histories" [] [] s_need_histories) (R_need_time : Rdy P w K mg base k "need_time" [] [] s_need_time) (R_worth_at : Rdy P w K mg base k "worth_at" [] [] s_worth_at) (R_Works_points : RdyM P w K mg base k (He.ga K "Works") "points" [] [] s_Works_points) :
    ∃ t, VSs (cxOf (L2.CX P w) P w K mg base ["works", "histories", "time", "worths", "point", "worth"] "picture_at" (defScope st_picture_at) f cdv A outer s H E) (wDef E) (defBody st_picture_at) t (d_picture_at K s_need_histories s_need_time s_worth_at s_Works_points) :=
  have hu1 := room1 hr
  have hu64 := hr.units
  have hu66 := room66 hr
  ⟨_, by exact (vss_cons (vs_expr (ve_callR R_need_histories hgd hr (takes_of rfl rfl rfl rfl) (va_cons (ve_v 0) (va_cons (ve_v 1) va_nil)))) (vss_cons (vs_expr (ve_callR R_need_time hgd hr (takes_of rfl rfl rfl rfl) (va_cons (ve_v 2) va_nil))) (vss_cons (vs_setDcM (own := [("point", 4)]) rfl sc_picture_at.nd (vi_any (ve_methR0 R_Works_points T.C_Works hgd hr (takes_of rfl rfl rfl rfl) (ve_v 0))) (blkOk_by (N := ["works", "histories", "time", "worths", "point", "worth"]) (sc := defScope st_picture_at) (own := [("point", 4)]) (by decide +kernel)) (fun _ _ _ _ _ => ⟨_, (vg_n sc_picture_at.nd)⟩) (fun _ _ _ _ _ => ⟨_, vts_nil⟩) (fun _ _ _ _ _ => ⟨_, (ve_item hu1 (ve_v 4) ve_int)⟩) (fun _ _ _ _ _ => ⟨_, (ve_callR R_worth_at hgd hr takes0 (va_cons (ve_get2 hu1 (ve_v 1) (ve_item hu1 (ve_v 4) ve_int) (ve_lst va_nil) m2_of) (va_cons (ve_v 2) va_nil)))⟩)) (vss_one (vs_ret (ve_dcD (own := [("point", 4), ("worth", 5)]) rfl sc_picture_at.nd (vd_items (ve_v 3)) (blkOk_by (N := ["works", "histories", "time", "worths", "point", "worth"]) (sc := defScope st_picture_at) (own := [("point", 4), ("worth", 5)]) (by decide +kernel)) (fun _ _ _ _ _ => ⟨_, (vg_tup rfl (vgs_cons (vg_n sc_picture_at.nd) (vgs_cons (vg_n sc_picture_at.nd) vgs_nil)))⟩) (fun _ _ _ _ _ => ⟨_, (vts_one (vt_isnot (ve_v 5) ve_non))⟩) (fun _ _ _ _ _ => ⟨_, (ve_v 4)⟩) (fun _ _ _ _ _ => ⟨_, (ve_v 5)⟩)))))))⟩
/-- what is left to be shown of picture_at: BodyOk -/
theorem g_picture_at {k : Nat} {f : Addr} {fd : FuncData} {s_ : Spd} {s_need_histories : Spd} {s_need_time : Spd} {s_worth_at : Spd} {s_Works_points : Spd} (T : Txt K mg) (Fd : FunD K "picture_at" "picture_at" (defArgs st_picture_at) (defBody st_picture_at) (defScope st_picture_at) [] [] f fd) (R_need_histories : Rdy P w K mg base k "need_histories" [] [] s_need_histories) (R_need_time : Rdy P w K mg base k "need_time" [] [] s_need_time) (R_worth_at : Rdy P w K mg base k "worth_at" [] [] s_worth_at) (R_Works_points : RdyM P w K mg base k (He.ga K "Works") "points" [] [] s_Works_points)
    (len : ∀ ds S Q E, s_ ds S Q E → ds.length = 3) (ok : BodyOk (d_picture_at K s_need_histories s_need_time s_worth_at s_Works_points) ["works", "histories", "time", "worths", "point", "worth"] s_) : FnG P w K mg base (k + 1) f fd ["works", "histories", "time"] (lift K s_) :=
  def_ok Fd sc_picture_at len fun cdv A outer s H E hgd hr => (w_picture_at T hgd hr R_need_histories R_need_time R_worth_at R_Works_points).elim fun t v => ⟨t, _, v, ok⟩
theorem r_picture_at {k : Nat} {f : Addr} {fd : FuncData} {s_ : Spd} {s_need_histories : Spd} {s_need_time : Spd} {s_worth_at : Spd} {s_Works_points : Spd} (T : Txt K mg) (hm : mg "picture_at" = some (.ref f)) (Fd : FunD K "picture_at" "picture_at" (defArgs st_picture_at) (defBody st_picture_at) (defScope st_picture_at) [] [] f fd) (R_need_histories : Rdy P w K mg base k "need_histories" [] [] s_need_histories) (R_need_time : Rdy P w K mg base k "need_time" [] [] s_need_time) (R_worth_at : Rdy P w K mg base k "worth_at" [] [] s_worth_at) (R_Works_points : RdyM P w K mg base k (He.ga K "Works") "points" [] [] s_Works_points)
    (len : ∀ ds S Q E, s_ ds S Q E → ds.length = 3) (ok : BodyOk (d_picture_at K s_need_histories s_need_time s_worth_at s_Works_points) ["works", "histories", "time", "worths", "point", "worth"] s_) : Rdy P w K mg base (k + 1) "picture_at" [] [] s_ :=
  rdy_of (g_picture_at T Fd R_need_histories R_need_time R_worth_at R_Works_points len ok) hm Fd.kp (Fd.bindsN fun _ _ _ _ _ _ us hl => match us, hl with | [_, _, _], _ => rfl)
theorem sc__law_cell : FnScope ["script", "k"] ["script", "k"] (defScope st__law_cell) := ⟨rfl, rfl, rfl, by decide +kernel, rfl, by decide +kernel, by decide +kernel⟩
def d__law_cell (K : PySem.W.Frag) : TSd := (dSeq (dIf (dTest (dOp dLt (dVar 1) (dCB dLen (dCons (dVar 0) dNil)))) (dRet (dOp dIx (dVar 0) (dVar 1))) dNext) (dRet (dOp dAdd (dOp dMulI (dC (.int 67867967)) (dVar 1)) (dC (.int 53)))))
theorem w__law_cell {k : Nat} {f : Addr} {cdv : Value} {A : Around} {outer : List Env} {s : Shared} {H : Hp} {E : XK} (T : Txt K mg) (hgd : A.guards = some []) (hr : Room k (A.deeper (envOfC "_law_cell" (defScope st__law_cell) s.heap.objs.size f cdv))) :
    ∃ t, VSs (cxOf (L2.CX P w) P w K mg base ["script", "k"] "_law_cell" (defScope st__law_cell) f cdv A outer s H E) (wDef E) (defBody st__law_cell) t (d__law_cell K) :=
  have hu1 := room1 hr
  have hu64 := hr.units
  have hu66 := room66 hr
  ⟨_, by exact (vss_cons (vs_if (vt_lt (ve_v 1) (ve_cb snd_len call_lenA T.b_len (va_cons (ve_v 0) va_nil))) (vss_one (vs_ret (ve_item hu1 (ve_v 0) (ve_v 1)))) vss_nil) (vss_one (vs_ret (ve_add (ve_mul ve_int (ve_v 1)) ve_int))))⟩
/-- what is left to be shown of _law_cell: BodyOk -/
theorem g__law_cell {k : Nat} {f : Addr} {fd : FuncData} {s_ : Spd} (T : Txt K mg) (Fd : FunD K "_law_cell" "_law_cell" (defArgs st__law_cell) (defBody st__law_cell) (defScope st__law_cell) [] [] f fd)
    (len : ∀ ds S Q E, s_ ds S Q E → ds.length = 2) (ok : BodyOk (d__law_cell K) ["script", "k"] s_) : FnG P w K mg base (k + 1) f fd ["script", "k"] (lift K s_) :=
  def_ok Fd sc__law_cell len fun cdv A outer s H E hgd hr => (w__law_cell T hgd hr ).elim fun t v => ⟨t, _, v, ok⟩
theorem r__law_cell {k : Nat} {f : Addr} {fd : FuncData} {s_ : Spd} (T : Txt K mg) (hm : mg "_law_cell" = some (.ref f)) (Fd : FunD K "_law_cell" "_law_cell" (defArgs st__law_cell) (defBody st__law_cell) (defScope st__law_cell) [] [] f fd)
    (len : ∀ ds S Q E, s_ ds S Q E → ds.length = 2) (ok : BodyOk (d__law_cell K) ["script", "k"] s_) : Rdy P w K mg base (k + 1) "_law_cell" [] [] s_ :=
  rdy_of (g__law_cell T Fd  len ok) hm Fd.kp (Fd.bindsN fun _ _ _ _ _ _ us hl => match us, hl with | [_, _], _ => rfl)
theorem sc__law_box : FnScope ["cell"] ["cell"] (defScope st__law_box) := ⟨rfl, rfl, rfl, by decide +kernel, rfl, by decide +kernel, by decide +kernel⟩
def d__law_box (K : PySem.W.Frag) : TSd := (dRet (dLstM (dCons (dCB (dMM fun i j => if j > i then j else i) (dCons (dC (.int 0)) (dCons (dOp dSub (dVar 0) (dOp dPow (dC (.int 10)) (dC (.int 18)))) dNil))) (dCons (dOp dMod (dVar 0) (dC (.int 2147483629))) (dCons (dC (.int 0)) dNil)))))
theorem w__law_box {k : Nat} {f : Addr} {cdv : Value} {A : Around} {outer : List Env} {s : Shared} {H : Hp} {E : XK} (T : Txt K mg) (hgd : A.guards = some []) (hr : Room k (A.deeper (envOfC "_law_box" (defScope st__law_box) s.heap.objs.size f cdv))) :
    ∃ t, VSs (cxOf (L2.CX P w) P w K mg base ["cell"] "_law_box" (defScope st__law_box) f cdv A outer s H E) (wDef E) (defBody st__law_box) t (d__law_box K) :=
  have hu1 := room1 hr
  have hu64 := hr.units
  have hu66 := room66 hr
  ⟨_, by exact (vss_one (vs_ret (ve_lstM (va_cons (ve_cb snd_mm (call_max2 rfl) T.b_max (va_cons ve_int (va_cons (ve_sub (ve_v 0) (ve_pow ve_int ve_int)) va_nil))) (va_cons (ve_mod (ve_v 0) ve_int) (va_cons ve_int va_nil))))))⟩
/-- what is left to be shown of _law_box: BodyOk -/
theorem g__law_box {k : Nat} {f : Addr} {fd : FuncData} {s_ : Spd} (T : Txt K mg) (Fd : FunD K "_law_box" "_law_box" (defArgs st__law_box) (defBody st__law_box) (defScope st__law_box) [] [] f fd)
    (len : ∀ ds S Q E, s_ ds S Q E → ds.length = 1) (ok : BodyOk (d__law_box K) ["cell"] s_) : FnG P w K mg base (k + 1) f fd ["cell"] (lift K s_) :=
  def_ok Fd sc__law_box len fun cdv A outer s H E hgd hr => (w__law_box T hgd hr ).elim fun t v => ⟨t, _, v, ok⟩
theorem r__law_box {k : Nat} {f : Addr} {fd : FuncData} {s_ : Spd} (T : Txt K mg) (hm : mg "_law_box" = some (.ref f)) (Fd : FunD K "_law_box" "_law_box" (defArgs st__law_box) (defBody st__law_box) (defScope st__law_box) [] [] f fd)
    (len : ∀ ds S Q E, s_ ds S Q E → ds.length = 1) (ok : BodyOk (d__law_box K) ["cell"] s_) : Rdy P w K mg base (k + 1) "_law_box" [] [] s_ :=
  rdy_of (g__law_box T Fd  len ok) hm Fd.kp (Fd.bindsN fun _ _ _ _ _ _ us hl => match us, hl with | [_], _ => rfl)
theorem sc__law_take : FnScope ["box", "many", "digit", "number"] ["box", "many"] (defScope st__law_take) := ⟨rfl, rfl, rfl, by decide +kernel, rfl, by decide +kernel, by decide +kernel⟩
def d__law_take (K : PySem.W.Frag) : TSd := (dSeq (dIf (dTest (dOp dGt (dOp dIx (dVar 0) (dC (.int 0))) (dC (.int 0)))) (dSeq (dAsg (dOp dMod (dOp dIx (dVar 0) (dC (.int 0))) (dVar 1)) (hName 2)) (dSeq (dSetI (dOp dFdiv (dOp dIx (dVar 0) (dC (.int 0))) (dVar 1)) (dVar 0) (dC (.int 0))) (dRet (dVar 2)))) dNext) (dSeq (dSetI (dOp dAdd (dOp dIx (dVar 0) (dC (.int 2))) (dC (.int 1))) (dVar 0) (dC (.int 2))) (dSeq (dAsg (dOp dMod (dOp dPow (dOp dAdd (dOp dAdd (dOp dIx (dVar 0) (dC (.int 1))) (dOp dMulI (dC (.int 67867967)) (dOp dIx (dVar 0) (dC (.int 2))))) (dC (.int 53))) (dC (.int 5))) (dC (.int 2147483647))) (hName 3)) (dSeq (dAsg (dOp dMod (dOp dPow (dOp dAdd (dVar 3) (dOp dMulI (dC (.int 104729)) (dOp dIx (dVar 0) (dC (.int 2))))) (dC (.int 3))) (dC (.int 2147483587))) (hName 3)) (dRet (dOp dMod (dOp dFdiv (dVar 3) (dC (.int 8))) (dVar 1)))))))
theorem w__law_take {k : Nat} {f : Addr} {cdv : Value} {A : Around} {outer : List Env} {s : Shared} {H : Hp} {E : XK} (T : Txt K mg) (hgd : A.guards = some []) (hr : Room k (A.deeper (envOfC "_law_take" (defScope st__law_take) s.heap.objs.size f cdv))) :
    ∃ t, VSs (cxOf (L2.CX P w) P w K mg base ["box", "many", "digit", "number"] "_law_take" (defScope st__law_take) f cdv A outer s H E) (wDef E) (defBody st__law_take) t (d__law_take K) :=
  have hu1 := room1 hr
  have hu64 := hr.units
  have hu66 := room66 hr
  ⟨_, by exact (vss_cons (vs_if (vt_gt (ve_item hu1 (ve_v 0) ve_int) ve_int) (vss_cons (vs_name sc__law_take.nd (ve_mod (ve_item hu1 (ve_v 0) ve_int) (ve_v 1))) (vss_cons (vs_setI hu1 (ve_fdiv (ve_item hu1 (ve_v 0) ve_int) (ve_v 1)) (ve_v 0) ve_int) (vss_one (vs_ret (ve_v 2))))) vss_nil) (vss_cons (vs_setI hu1 (ve_add (ve_item hu1 (ve_v 0) ve_int) ve_int) (ve_v 0) ve_int) (vss_cons (vs_name sc__law_take.nd (ve_mod (ve_pow (ve_add (ve_add (ve_item hu1 (ve_v 0) ve_int) (ve_mul ve_int (ve_item hu1 (ve_v 0) ve_int))) ve_int) ve_int) ve_int)) (vss_cons (vs_name sc__law_take.nd (ve_mod (ve_pow (ve_add (ve_v 3) (ve_mul ve_int (ve_item hu1 (ve_v 0) ve_int))) ve_int) ve_int)) (vss_one (vs_ret (ve_mod (ve_fdiv (ve_v 3) ve_int) (ve_v 1))))))))⟩
/-- what is left to be shown of _law_take: BodyOk -/
theorem g__law_take {k : Nat} {f : Addr} {fd : FuncData} {s_ : Spd} (T : Txt K mg) (Fd : FunD K "_law_take" "_law_take" (defArgs st__law_take) (defBody st__law_take) (defScope st__law_take) [] [] f fd)
    (len : ∀ ds S Q E, s_ ds S Q E → ds.length = 2) (ok : BodyOk (d__law_take K) ["box", "many", "digit", "number"] s_) : FnG P w K mg base (k + 1) f fd ["box", "many"] (lift K s_) :=
  def_ok Fd sc__law_take len fun cdv A outer s H E hgd hr => (w__law_take T hgd hr ).elim fun t v => ⟨t, _, v, ok⟩
theorem r__law_take {k : Nat} {f : Addr} {fd : FuncData} {s_ : Spd} (T : Txt K mg) (hm : mg "_law_take" = some (.ref f)) (Fd : FunD K "_law_take" "_law_take" (defArgs st__law_take) (defBody st__law_take) (defScope st__law_take) [] [] f fd)
    (len : ∀ ds S Q E, s_ ds S Q E → ds.length = 2) (ok : BodyOk (d__law_take K) ["box", "many", "digit", "number"] s_) : Rdy P w K mg base (k + 1) "_law_take" [] [] s_ :=
  rdy_of (g__law_take T Fd  len ok) hm Fd.kp (Fd.bindsN fun _ _ _ _ _ _ us hl => match us, hl with | [_, _], _ => rfl)
theorem sc__law_names : FnScope ["box", "many", "letters", "words", "way", "first", "k", "stem", "at", "heads", "head"] ["box", "many"] (defScope st__law_names) := ⟨rfl, rfl, rfl, by decide +kernel, rfl, by decide +kernel, by decide +kernel⟩
def d__law_names (K : PySem.W.Frag) (s__law_take : Spd) : TSd := (dSeq (dAsg (dC (.str "abcdefghijklmnopqrstuvwxyz")) (hName 2)) (dSeq (dAsg (dSplit (dC (.str "here silent gone card piece word saw turn left back born less a")) (dC (.str " "))) (hName 3)) (dSeq (dAsg (dCall s__law_take [] (dCons (dVar 0) (dCons (dC (.int 4)) dNil))) (hName 4)) (dSeq (dAsg (dCall s__law_take [] (dCons (dVar 0) (dCons (dC (.int 26)) dNil))) (hName 5)) (dSeq (dIf (dTest (dOp dEq (dVar 4) (dC (.int 0)))) (dRet (dLc (nRng1 (dCons (dVar 1) dNil)) (hName 6) dYes (dOp dIx (dVar 3) (dOp dMod (dOp dAdd (dVar 5) (dOp dMulI (dC (.int 5)) (dVar 6))) (dC (.int 13)))) [6])) dNext) (dSeq (dAsg (dJoin (dC (.str "")) (dLc (nRng1 (dCons (dC (.int 7)) dNil)) (hName 6) dYes (dOp dIx (dVar 2) (dCall s__law_take [] (dCons (dVar 0) (dCons (dC (.int 26)) dNil)))) [6])) (hName 7)) (dSeq (dIf (dAndT (dTest (dOp dEq (dVar 4) (dC (.int 1)))) (dTest (dOp dLt (dVar 1) (dC (.int 8))))) (dRet (dLc (nRng1 (dCons (dVar 1) dNil)) (hName 6) dYes (dSlice (dVar 7) dNoPart (dPart (dOp dAdd (dC (.int 1)) (dOp dMod (dOp dAdd (dVar 5) (dOp dMulI (dC (.int 3)) (dVar 6))) (dC (.int 7)))))) [6])) dNext) (dSeq (dAsg (dCall s__law_take [] (dCons (dVar 0) (dCons (dC (.int 7)) dNil))) (hName 8)) (dSeq (dAsg (dLc (nRng1 (dCons (dVar 1) dNil)) (hName 6) dYes (dOp dIx (dVar 2) (dOp dMod (dOp dAdd (dVar 5) (dOp dMulI (dC (.int 7)) (dVar 6))) (dC (.int 26)))) [6]) (hName 9)) (dRet (dLc (nEnum (dCons (dVar 9) dNil)) (hTup 2 (hCons (hName 6) (hCons (hName 10) hNil))) dYes (dOp dAdd (dOp dAdd (dSlice (dVar 7) dNoPart (dPart (dVar 8))) (dVar 10)) (dSlice (dVar 7) (dPart (dVar 8)) (dPart (dOp dSub (dC (.int 6)) (dOp dMod (dVar 6) (dC (.int 3))))))) [6, 10])))))))))))
theorem w__law_names {k : Nat} {f : Addr} {cdv : Value} {A : Around} {outer : List Env} {s : Shared} {H : Hp} {E : XK} {s__law_take : Spd} (T : Txt K mg) (hgd : A.guards = some []) (hr : Room k (A.deeper (envOfC "_law_names" (defScope st__law_names) s.heap.objs.size f cdv))) (R__law_take : Rdy P w K mg base k "_law_take" [] [] s__law_take) :
    ∃ t, VSs (cxOf (L2.CX P w) P w K mg base ["box", "many", "letters", "words", "way", "first", "k", "stem", "at", "heads", "head"] "_law_names" (defScope st__law_names) f cdv A outer s H E) (wDef E) (defBody st__law_names) t (d__law_names K s__law_take) :=
  have hu1 := room1 hr
  have hu64 := hr.units
  have hu66 := room66 hr
  ⟨_, by exact (vss_cons (vs_name sc__law_names.nd ve_str) (vss_cons (vs_name sc__law_names.nd (ve_split ve_str ve_str)) (vss_cons (vs_name sc__law_names.nd (ve_callR R__law_take hgd hr (takes_of rfl rfl rfl rfl) (va_cons (ve_v 0) (va_cons ve_int va_nil)))) (vss_cons (vs_name sc__law_names.nd (ve_callR R__law_take hgd hr (takes_of rfl rfl rfl rfl) (va_cons (ve_v 0) (va_cons ve_int va_nil)))) (vss_cons (vs_if (vt_eq hu64 (ve_v 4) ve_int) (vss_one (vs_ret (ve_lcX (own := [("k", 6)]) rfl sc__law_names.nd (vi_range1 T.b_range (va_cons (ve_v 1) va_nil)) (blkOk_by (N := ["box", "many", "letters", "words", "way", "first", "k", "stem", "at", "heads", "head"]) (sc := defScope st__law_names) (own := [("k", 6)]) (by decide +kernel)) (fun _ _ _ _ _ => ⟨_, (vg_n sc__law_names.nd)⟩) (fun _ _ _ _ _ => ⟨_, vts_nil⟩) (fun _ _ _ _ _ => ⟨_, (ve_item hu1 (ve_v 3) (ve_mod (ve_add (ve_v 5) (ve_mul ve_int (ve_v 6))) ve_int))⟩)))) vss_nil) (vss_cons (vs_name sc__law_names.nd (ve_join ve_str (ve_lcX (own := [("k", 6)]) rfl sc__law_names.nd (vi_range1 T.b_range (va_cons ve_int va_nil)) (blkOk_by (N := ["box", "many", "letters", "words", "way", "first", "k", "stem", "at", "heads", "head"]) (sc := defScope st__law_names) (own := [("k", 6)]) (by decide +kernel)) (fun _ _ _ _ _ => ⟨_, (vg_n sc__law_names.nd)⟩) (fun _ _ _ _ _ => ⟨_, vts_nil⟩) (fun _ _ _ _ _ => ⟨_, (ve_item hu1 (ve_v 2) (ve_callR R__law_take hgd hr takes0 (va_cons (ve_v 0) (va_cons ve_int va_nil))))⟩)))) (vss_cons (vs_if (vt_w (vw_and (vt_eq hu64 (ve_v 4) ve_int) (vw_and1 (vt_lt (ve_v 1) ve_int)))) (vss_one (vs_ret (ve_lcX (own := [("k", 6)]) rfl sc__law_names.nd (vi_range1 T.b_range (va_cons (ve_v 1) va_nil)) (blkOk_by (N := ["box", "many", "letters", "words", "way", "first", "k", "stem", "at", "heads", "head"]) (sc := defScope st__law_names) (own := [("k", 6)]) (by decide +kernel)) (fun _ _ _ _ _ => ⟨_, (vg_n sc__law_names.nd)⟩) (fun _ _ _ _ _ => ⟨_, vts_nil⟩) (fun _ _ _ _ _ => ⟨_, (ve_slice (ve_v 7) vo_none (vo_some (ve_add ve_int (ve_mod (ve_add (ve_v 5) (ve_mul ve_int (ve_v 6))) ve_int))))⟩)))) vss_nil) (vss_cons (vs_name sc__law_names.nd (ve_callR R__law_take hgd hr (takes_of rfl rfl rfl rfl) (va_cons (ve_v 0) (va_cons ve_int va_nil)))) (vss_cons (vs_setLcX (own := [("k", 6)]) rfl sc__law_names.nd (vi_range1 T.b_range (va_cons (ve_v 1) va_nil)) (blkOk_by (N := ["box", "many", "letters", "words", "way", "first", "k", "stem", "at", "heads", "head"]) (sc := defScope st__law_names) (own := [("k", 6)]) (by decide +kernel)) (fun _ _ _ _ _ => ⟨_, (vg_n sc__law_names.nd)⟩) (fun _ _ _ _ _ => ⟨_, vts_nil⟩) (fun _ _ _ _ _ => ⟨_, (ve_item hu1 (ve_v 2) (ve_mod (ve_add (ve_v 5) (ve_mul ve_int (ve_v 6))) ve_int))⟩)) (vss_one (vs_ret (ve_lcX (own := [("k", 6), ("head", 10)]) rfl sc__law_names.nd (vi_enum T.b_enumerate (va_cons (ve_v 9) va_nil)) (blkOk_by (N := ["box", "many", "letters", "words", "way", "first", "k", "stem", "at", "heads", "head"]) (sc := defScope st__law_names) (own := [("k", 6), ("head", 10)]) (by decide +kernel)) (fun _ _ _ _ _ => ⟨_, (vg_tup rfl (vgs_cons (vg_n sc__law_names.nd) (vgs_cons (vg_n sc__law_names.nd) vgs_nil)))⟩) (fun _ _ _ _ _ => ⟨_, vts_nil⟩) (fun _ _ _ _ _ => ⟨_, (ve_add (ve_add (ve_slice (ve_v 7) vo_none (vo_some (ve_v 8))) (ve_v 10)) (ve_slice (ve_v 7) (vo_some (ve_v 8)) (vo_some (ve_sub ve_int (ve_mod (ve_v 6) ve_int)))))⟩)))))))))))))⟩
/-- what is left to be shown of _law_names: BodyOk -/
theorem g__law_names {k : Nat} {f : Addr} {fd : FuncData} {s_ : Spd} {s__law_take : Spd} (T : Txt K mg) (Fd : FunD K "_law_names" "_law_names" (defArgs st__law_names) (defBody st__law_names) (defScope st__law_names) [] [] f fd) (R__law_take : Rdy P w K mg base k "_law_take" [] [] s__law_take)
    (len : ∀ ds S Q E, s_ ds S Q E → ds.length = 2) (ok : BodyOk (d__law_names K s__law_take) ["box", "many", "letters", "words", "way", "first", "k", "stem", "at", "heads", "head"] s_) : FnG P w K mg base (k + 1) f fd ["box", "many"] (lift K s_) :=
  def_ok Fd sc__law_names len fun cdv A outer s H E hgd hr => (w__law_names T hgd hr R__law_take).elim fun t v => ⟨t, _, v, ok⟩
theorem r__law_names {k : Nat} {f : Addr} {fd : FuncData} {s_ : Spd} {s__law_take : Spd} (T : Txt K mg) (hm : mg "_law_names" = some (.ref f)) (Fd : FunD K "_law_names" "_law_names" (defArgs st__law_names) (defBody st__law_names) (defScope st__law_names) [] [] f fd) (R__law_take : Rdy P w K mg base k "_law_take" [] [] s__law_take)
    (len : ∀ ds S Q E, s_ ds S Q E → ds.length = 2) (ok : BodyOk (d__law_names K s__law_take) ["box", "many", "letters", "words", "way", "first", "k", "stem", "at", "heads", "head"] s_) : Rdy P w K mg base (k + 1) "_law_names" [] [] s_ :=
  rdy_of (g__law_names T Fd R__law_take len ok) hm Fd.kp (Fd.bindsN fun _ _ _ _ _ _ us hl => match us, hl with | [_, _], _ => rfl)
theorem sc__law_mixed : FnScope ["box", "some", "left", "k"] ["box", "some"] (defScope st__law_mixed) := ⟨rfl, rfl, rfl, by decide +kernel, rfl, by decide +kernel, by decide +kernel⟩
def d__law_mixed (K : PySem.W.Frag) (s__law_take : Spd) : TSd := (dSeq (dAsg (dCB dListOfM (dCons (dVar 1) dNil)) (hName 2)) (dRet (dLc (nRng1 (dCons (dCB dLen (dCons (dVar 1) dNil)) dNil)) (hName 3) dYes (dPopAt (dVar 2) (dCons (dCall s__law_take [] (dCons (dVar 0) (dCons (dCB dLen (dCons (dVar 2) dNil)) dNil))) dNil)) [3])))
theorem w__law_mixed {k : Nat} {f : Addr} {cdv : Value} {A : Around} {outer : List Env} {s : Shared} {H : Hp} {E : XK} {s__law_take : Spd} (T : Txt K mg) (hgd : A.guards = some []) (hr : Room k (A.deeper (envOfC "_law_mixed" (defScope st__law_mixed) s.heap.objs.size f cdv))) (R__law_take : Rdy P w K mg base k "_law_take" [] [] s__law_take) :
    ∃ t, VSs (cxOf (L2.CX P w) P w K mg base ["box", "some", "left", "k"] "_law_mixed" (defScope st__law_mixed) f cdv A outer s H E) (wDef E) (defBody st__law_mixed) t (d__law_mixed K s__law_take) :=
  have hu1 := room1 hr
  have hu64 := hr.units
  have hu66 := room66 hr
  ⟨_, by exact (vss_cons (vs_name sc__law_mixed.nd (ve_ct snd_listOfM call_list_of T.b_list (va_cons (ve_v 1) va_nil))) (vss_one (vs_ret (ve_lcX (own := [("k", 3)]) rfl sc__law_mixed.nd (vi_range1 T.b_range (va_cons (ve_cb snd_len call_lenA T.b_len (va_cons (ve_v 1) va_nil)) va_nil)) (blkOk_by (N := ["box", "some", "left", "k"]) (sc := defScope st__law_mixed) (own := [("k", 3)]) (by decide +kernel)) (fun _ _ _ _ _ => ⟨_, (vg_n sc__law_mixed.nd)⟩) (fun _ _ _ _ _ => ⟨_, vts_nil⟩) (fun _ _ _ _ _ => ⟨_, (ve_popAt (ve_v 2) (va_cons (ve_callR R__law_take hgd hr takes0 (va_cons (ve_v 0) (va_cons (ve_cb snd_len call_lenA T.b_len (va_cons (ve_v 2) va_nil)) va_nil))) va_nil))⟩)))))⟩
/-- what is left to be shown of _law_mixed: BodyOk -/
theorem g__law_mixed {k : Nat} {f : Addr} {fd : FuncData} {s_ : Spd} {s__law_take : Spd} (T : Txt K mg) (Fd : FunD K "_law_mixed" "_law_mixed" (defArgs st__law_mixed) (defBody st__law_mixed) (defScope st__law_mixed) [] [] f fd) (R__law_take : Rdy P w K mg base k "_law_take" [] [] s__law_take)
    (len : ∀ ds S Q E, s_ ds S Q E → ds.length = 2) (ok : BodyOk (d__law_mixed K s__law_take) ["box", "some", "left", "k"] s_) : FnG P w K mg base (k + 1) f fd ["box", "some"] (lift K s_) :=
  def_ok Fd sc__law_mixed len fun cdv A outer s H E hgd hr => (w__law_mixed T hgd hr R__law_take).elim fun t v => ⟨t, _, v, ok⟩
theorem r__law_mixed {k : Nat} {f : Addr} {fd : FuncData} {s_ : Spd} {s__law_take : Spd} (T : Txt K mg) (hm : mg "_law_mixed" = some (.ref f)) (Fd : FunD K "_law_mixed" "_law_mixed" (defArgs st__law_mixed) (defBody st__law_mixed) (defScope st__law_mixed) [] [] f fd) (R__law_take : Rdy P w K mg base k "_law_take" [] [] s__law_take)
    (len : ∀ ds S Q E, s_ ds S Q E → ds.length = 2) (ok : BodyOk (d__law_mixed K s__law_take) ["box", "some", "left", "k"] s_) : Rdy P w K mg base (k + 1) "_law_mixed" [] [] s_ :=
  rdy_of (g__law_mixed T Fd R__law_take len ok) hm Fd.kp (Fd.bindsN fun _ _ _ _ _ _ us hl => match us, hl with | [_, _], _ => rfl)
theorem sc__law_points : FnScope ["box", "names", "levels", "places", "found", "name", "kind", "one"] ["box", "names", "levels"] (defScope st__law_points) := ⟨rfl, rfl, rfl, by decide +kernel, rfl, by decide +kernel, by decide +kernel⟩
def g__law_points_0 (K : PySem.W.Frag) (s__law_take : Spd) : TGd := (hName 5)
theorem u_g__law_points_0 {s__law_take : Spd} {d : D} {σ : Sd} {S : Sto} {Q : Sd → Sto → Prop} : g__law_points_0 K s__law_take d σ S Q = (hName 5) d σ S Q := rfl
def b__law_points_0 (K : PySem.W.Frag) (s__law_take : Spd) : TSd := (dSeq (dAsg (dOp dIx (dLst (dCons (dC (.str "level")) (dCons (dC (.str "level")) (dCons (dC (.str "switch")) dNil)))) (dCall s__law_take [] (dCons (dVar 0) (dCons (dC (.int 3)) dNil)))) (hName 6)) (dSeq (dIf (dTest (dOp dGe (dCB dLen (dCons (dLcR (dVar 4) (hName 7) (dTest (dOp dEq (dOp dIx (dVar 7) (dC (.int 2))) (dC (.str "level")))) (dVar 7) [7]) dNil)) (dVar 2))) (dAsg (dC (.str "switch")) (hName 6)) dNext) (dDrop (dAppend (dVar 4) (dCons (dTup (dCons (dVar 5) (dCons (dOp dIx (dVar 3) (dCall s__law_take [] (dCons (dVar 0) (dCons (dCB dLen (dCons (dVar 3) dNil)) dNil)))) (dCons (dVar 6) dNil)))) dNil)))))
theorem u_b__law_points_0 {s__law_take : Spd} {D : EndsD} {σ : Sd} {S : Sto} : b__law_points_0 K s__law_take D σ S = (dSeq (dAsg (dOp dIx (dLst (dCons (dC (.str "level")) (dCons (dC (.str "level")) (dCons (dC (.str "switch")) dNil)))) (dCall s__law_take [] (dCons (dVar 0) (dCons (dC (.int 3)) dNil)))) (hName 6)) (dSeq (dIf (dTest (dOp dGe (dCB dLen (dCons (dLcR (dVar 4) (hName 7) (dTest (dOp dEq (dOp dIx (dVar 7) (dC (.int 2))) (dC (.str "level")))) (dVar 7) [7]) dNil)) (dVar 2))) (dAsg (dC (.str "switch")) (hName 6)) dNext) (dDrop (dAppend (dVar 4) (dCons (dTup (dCons (dVar 5) (dCons (dOp dIx (dVar 3) (dCall s__law_take [] (dCons (dVar 0) (dCons (dCB dLen (dCons (dVar 3) dNil)) dNil)))) (dCons (dVar 6) dNil)))) dNil))))) D σ S := rfl
def d__law_points (K : PySem.W.Frag) (s__law_take : Spd) : TSd := (dSeq (dAsg (dSlice (dLst (dCons (dC (.str "pa")) (dCons (dC (.str "place")) (dCons (dC (.str "q")) dNil)))) dNoPart (dPart (dOp dAdd (dC (.int 1)) (dCall s__law_take [] (dCons (dVar 0) (dCons (dC (.int 3)) dNil)))))) (hName 3)) (dSeq (dAsg (dLstM dNil) (hName 4)) (dSeq (dFor (nAny (dVar 1)) (g__law_points_0 K s__law_take) (b__law_points_0 K s__law_take)) (dSee 4 (dRet (dVar 4))))))
theorem w__law_points {k : Nat} {f : Addr} {cdv : Value} {A : Around} {outer : List Env} {s : Shared} {H : Hp} {E : XK} {s__law_take : Spd} (T : Txt K mg) (hgd : A.guards = some []) (hr : Room k (A.deeper (envOfC "_law_points" (defScope st__law_points) s.heap.objs.size f cdv))) (R__law_take : Rdy P w K mg base k "_law_take" [] [] s__law_take) :
    ∃ t, VSs (cxOf (L2.CX P w) P w K mg base ["box", "names", "levels", "places", "found", "name", "kind", "one"] "_law_points" (defScope st__law_points) f cdv A outer s H E) (wDef E) (defBody st__law_points) t (d__law_points K s__law_take) :=
  have hu1 := room1 hr
  have hu64 := hr.units
  have hu66 := room66 hr
  ⟨_, by exact (vss_cons (vs_name sc__law_points.nd (ve_slice (ve_lst (va_cons ve_str (va_cons ve_str (va_cons ve_str va_nil)))) vo_none (vo_some (ve_add ve_int (ve_callR R__law_take hgd hr (takes_of rfl rfl rfl rfl) (va_cons (ve_v 0) (va_cons ve_int va_nil))))))) (vss_cons (vs_name sc__law_points.nd (ve_lstM va_nil)) (vss_cons (vs_for (vs := [5]) (passes_of rfl) rfl (vi_any (ve_v 1)) (vg_n sc__law_points.nd) (vss_cons (vs_name sc__law_points.nd (ve_item hu1 (ve_lst (va_cons ve_str (va_cons ve_str (va_cons ve_str va_nil)))) (ve_callR R__law_take hgd hr (takes_of rfl rfl rfl rfl) (va_cons (ve_v 0) (va_cons ve_int va_nil))))) (vss_cons (vs_if (vt_ge (ve_cb snd_len call_lenA T.b_len (va_cons (ve_lcR (own := [("one", 7)]) rfl sc__law_points.nd (ve_v 4) (blkOk_by (N := ["box", "names", "levels", "places", "found", "name", "kind", "one"]) (sc := defScope st__law_points) (own := [("one", 7)]) (by decide +kernel)) (fun _ _ _ _ _ => ⟨_, (vg_n sc__law_points.nd)⟩) (fun _ _ _ _ _ => ⟨_, (vts_one (vt_eq hu64 (ve_item hu1 (ve_v 7) ve_int) ve_str))⟩) (fun _ _ _ _ _ => ⟨_, (ve_v 7)⟩)) va_nil)) (ve_v 2)) (vss_one (vs_name sc__law_points.nd ve_str)) vss_nil) (vss_one (vs_expr (ve_app (ve_v 4) (va_cons (ve_tup (va_cons (ve_v 5) (va_cons (ve_item hu1 (ve_v 3) (ve_callR R__law_take hgd hr (takes_of rfl rfl rfl rfl) (va_cons (ve_v 0) (va_cons (ve_cb snd_len call_lenA T.b_len (va_cons (ve_v 3) va_nil)) va_nil)))) (va_cons (ve_v 6) va_nil)))) va_nil))))))) (vss_see (j := 4) (vss_one (vs_ret (ve_v 4)))))))⟩
/-- what is left to be shown of _law_points: BodyOk -/
theorem g__law_points {k : Nat} {f : Addr} {fd : FuncData} {s_ : Spd} {s__law_take : Spd} (T : Txt K mg) (Fd : FunD K "_law_points" "_law_points" (defArgs st__law_points) (defBody st__law_points) (defScope st__law_points) [] [] f fd) (R__law_take : Rdy P w K mg base k "_law_take" [] [] s__law_take)
    (len : ∀ ds S Q E, s_ ds S Q E → ds.length = 3) (ok : BodyOk (d__law_points K s__law_take) ["box", "names", "levels", "places", "found", "name", "kind", "one"] s_) : FnG P w K mg base (k + 1) f fd ["box", "names", "levels"] (lift K s_) :=
  def_ok Fd sc__law_points len fun cdv A outer s H E hgd hr => (w__law_points T hgd hr R__law_take).elim fun t v => ⟨t, _, v, ok⟩
theorem r__law_points {k : Nat} {f : Addr} {fd : FuncData} {s_ : Spd} {s__law_take : Spd} (T : Txt K mg) (hm : mg "_law_points" = some (.ref f)) (Fd : FunD K "_law_points" "_law_points" (defArgs st__law_points) (defBody st__law_points) (defScope st__law_points) [] [] f fd) (R__law_take : Rdy P w K mg base k "_law_take" [] [] s__law_take)
    (len : ∀ ds S Q E, s_ ds S Q E → ds.length = 3) (ok : BodyOk (d__law_points K s__law_take) ["box", "names", "levels", "places", "found", "name", "kind", "one"] s_) : Rdy P w K mg base (k + 1) "_law_points" [] [] s_ :=
  rdy_of (g__law_points T Fd R__law_take len ok) hm Fd.kp (Fd.bindsN fun _ _ _ _ _ _ us hl => match us, hl with | [_, _, _], _ => rfl)
theorem sc__law_history : FnScope ["box", "high", "ticks", "found", "time", "lap", "worth", "at", "sign", "one"] ["box", "high", "ticks"] (defScope st__law_history) := ⟨rfl, rfl, rfl, by decide +kernel, rfl, by decide +kernel, by decide +kernel⟩
def g__law_history_0 (K : PySem.W.Frag) (s__law_take : Spd) : TGd := (hName 5)
theorem u_g__law_history_0 {s__law_take : Spd} {d : D} {σ : Sd} {S : Sto} {Q : Sd → Sto → Prop} : g__law_history_0 K s__law_take d σ S Q = (hName 5) d σ S Q := rfl
def b__law_history_0 (K : PySem.W.Frag) (s__law_take : Spd) : TSd := (dSeq (dAsg (dOp dAdd (dOp dAdd (dVar 4) (dOp dIx (dLst (dCons (dC (.int 0)) (dCons (dC (.int 1)) (dCons (dC (.int 1)) (dCons (dC (.int 2)) (dCons (dCall s__law_take [] (dCons (dVar 0) (dCons (dC (.int 30)) dNil))) dNil)))))) (dCall s__law_take [] (dCons (dVar 0) (dCons (dC (.int 5)) dNil))))) (dCB dInt (dCons (dOp dGt (dVar 5) (dC (.int 0))) dNil))) (hName 4)) (dSeq (dAsg (dOp dIx (dLst (dCons (dC (.int 0)) (dCons (dC (.int 1)) (dCons (dVar 1) (dCons (dCB (dMM fun i j => if j < i then j else i) (dCons (dVar 1) (dCons (dCall s__law_take [] (dCons (dVar 0) (dCons (dC (.int 4)) dNil))) dNil))) dNil))))) (dCall s__law_take [] (dCons (dVar 0) (dCons (dC (.int 4)) dNil)))) (hName 6)) (dDrop (dAppend (dVar 3) (dCons (dTup (dCons (dCB (dMM fun i j => if j < i then j else i) (dCons (dVar 4) (dCons (dOp dAdd (dVar 2) (dVar 5)) dNil))) (dCons (dVar 6) (dCons (dOp dIx (dLst (dCons (dC (.str "good")) (dCons (dC (.str "good")) (dCons (dC (.str "good")) (dCons (dC (.str "odd")) dNil))))) (dCall s__law_take [] (dCons (dVar 0) (dCons (dC (.int 4)) dNil)))) dNil)))) dNil)))))
theorem u_b__law_history_0 {s__law_take : Spd} {D : EndsD} {σ : Sd} {S : Sto} : b__law_history_0 K s__law_take D σ S = (dSeq (dAsg (dOp dAdd (dOp dAdd (dVar 4) (dOp dIx (dLst (dCons (dC (.int 0)) (dCons (dC (.int 1)) (dCons (dC (.int 1)) (dCons (dC (.int 2)) (dCons (dCall s__law_take [] (dCons (dVar 0) (dCons (dC (.int 30)) dNil))) dNil)))))) (dCall s__law_take [] (dCons (dVar 0) (dCons (dC (.int 5)) dNil))))) (dCB dInt (dCons (dOp dGt (dVar 5) (dC (.int 0))) dNil))) (hName 4)) (dSeq (dAsg (dOp dIx (dLst (dCons (dC (.int 0)) (dCons (dC (.int 1)) (dCons (dVar 1) (dCons (dCB (dMM fun i j => if j < i then j else i) (dCons (dVar 1) (dCons (dCall s__law_take [] (dCons (dVar 0) (dCons (dC (.int 4)) dNil))) dNil))) dNil))))) (dCall s__law_take [] (dCons (dVar 0) (dCons (dC (.int 4)) dNil)))) (hName 6)) (dDrop (dAppend (dVar 3) (dCons (dTup (dCons (dCB (dMM fun i j => if j < i then j else i) (dCons (dVar 4) (dCons (dOp dAdd (dVar 2) (dVar 5)) dNil))) (dCons (dVar 6) (dCons (dOp dIx (dLst (dCons (dC (.str "good")) (dCons (dC (.str "good")) (dCons (dC (.str "good")) (dCons (dC (.str "odd")) dNil))))) (dCall s__law_take [] (dCons (dVar 0) (dCons (dC (.int 4)) dNil)))) dNil)))) dNil))))) D σ S := rfl
def d__law_history (K : PySem.W.Frag) (s__law_take : Spd) : TSd := (dSeq (dAsg (dTup (dCons (dLstM dNil) (dCons (dC (.int 0)) dNil))) (hTup 2 (hCons (hName 3) (hCons (hName 4) hNil)))) (dSeq (dFor (nRng1 (dCons (dOp dIx (dLst (dCons (dC (.int 0)) (dCons (dC (.int 1)) (dCons (dC (.int 3)) (dCons (dC (.int 8)) (dCons (dC (.int 20)) dNil)))))) (dCall s__law_take [] (dCons (dVar 0) (dCons (dC (.int 5)) dNil)))) dNil)) (g__law_history_0 K s__law_take) (b__law_history_0 K s__law_take)) (dSee 3 (dRet (dLc (nEnum (dCons (dVar 3) dNil)) (hTup 2 (hCons (hName 7) (hCons (hName 8) hNil))) (dOrT (dTest (dOp dEq (dVar 7) (dC (.int 0)))) (dTest (dOp dGt (dOp dIx (dVar 8) (dC (.int 0))) (dCB dMaxL (dCons (dLc (nAny (dSlice (dVar 3) dNoPart (dPart (dVar 7)))) (hName 9) dYes (dOp dIx (dVar 9) (dC (.int 0))) [9]) dNil))))) (dVar 8) [7, 8])))))
theorem w__law_history {k : Nat} {f : Addr} {cdv : Value} {A : Around} {outer : List Env} {s : Shared} {H : Hp} {E : XK} {s__law_take : Spd} (T : Txt K mg) (hgd : A.guards = some []) (hr : Room k (A.deeper (envOfC "_law_history" (defScope st__law_history) s.heap.objs.size f cdv))) (R__law_take : Rdy P w K mg base k "_law_take" [] [] s__law_take) :
    ∃ t, VSs (cxOf (L2.CX P w) P w K mg base ["box", "high", "ticks", "found", "time", "lap", "worth", "at", "sign", "one"] "_law_history" (defScope st__law_history) f cdv A outer s H E) (wDef E) (defBody st__law_history) t (d__law_history K s__law_take) :=
  have hu1 := room1 hr
  have hu64 := hr.units
  have hu66 := room66 hr
  ⟨_, by exact (vss_cons (vs_asg (vs := [3, 4]) (ve_tup (va_cons (ve_lstM va_nil) (va_cons ve_int va_nil))) (vg_tup rfl (vgs_cons (vg_n sc__law_history.nd) (vgs_cons (vg_n sc__law_history.nd) vgs_nil)))) (vss_cons (vs_for (vs := [5]) (passes_of rfl) rfl (vi_range1 T.b_range (va_cons (ve_item hu1 (ve_lst (va_cons ve_int (va_cons ve_int (va_cons ve_int (va_cons ve_int (va_cons ve_int va_nil)))))) (ve_callR R__law_take hgd hr (takes_of rfl rfl rfl rfl) (va_cons (ve_v 0) (va_cons ve_int va_nil)))) va_nil)) (vg_n sc__law_history.nd) (vss_cons (vs_name sc__law_history.nd (ve_add (ve_add (ve_v 4) (ve_item hu1 (ve_lst (va_cons ve_int (va_cons ve_int (va_cons ve_int (va_cons ve_int (va_cons (ve_callR R__law_take hgd hr (takes_of rfl rfl rfl rfl) (va_cons (ve_v 0) (va_cons ve_int va_nil))) va_nil)))))) (ve_callR R__law_take hgd hr (takes_of rfl rfl rfl rfl) (va_cons (ve_v 0) (va_cons ve_int va_nil))))) (ve_ct snd_int call_intA T.b_int (va_cons (ve_gt (ve_v 5) ve_int) va_nil)))) (vss_cons (vs_name sc__law_history.nd (ve_item hu1 (ve_lst (va_cons ve_int (va_cons ve_int (va_cons (ve_v 1) (va_cons (ve_cb snd_mm (call_min2 rfl) T.b_min (va_cons (ve_v 1) (va_cons (ve_callR R__law_take hgd hr (takes_of rfl rfl rfl rfl) (va_cons (ve_v 0) (va_cons ve_int va_nil))) va_nil))) va_nil))))) (ve_callR R__law_take hgd hr (takes_of rfl rfl rfl rfl) (va_cons (ve_v 0) (va_cons ve_int va_nil))))) (vss_one (vs_expr (ve_app (ve_v 3) (va_cons (ve_tup (va_cons (ve_cb snd_mm (call_min2 rfl) T.b_min (va_cons (ve_v 4) (va_cons (ve_add (ve_v 2) (ve_v 5)) va_nil))) (va_cons (ve_v 6) (va_cons (ve_item hu1 (ve_lst (va_cons ve_str (va_cons ve_str (va_cons ve_str (va_cons ve_str va_nil))))) (ve_callR R__law_take hgd hr (takes_of rfl rfl rfl rfl) (va_cons (ve_v 0) (va_cons ve_int va_nil)))) va_nil)))) va_nil))))))) (vss_see (j := 3) (vss_one (vs_ret (ve_lcX (own := [("at", 7), ("sign", 8)]) rfl sc__law_history.nd (vi_enum T.b_enumerate (va_cons (ve_v 3) va_nil)) (blkOk_by (N := ["box", "high", "ticks", "found", "time", "lap", "worth", "at", "sign", "one"]) (sc := defScope st__law_history) (own := [("at", 7), ("sign", 8)]) (by decide +kernel)) (fun _ _ _ _ _ => ⟨_, (vg_tup rfl (vgs_cons (vg_n sc__law_history.nd) (vgs_cons (vg_n sc__law_history.nd) vgs_nil)))⟩) (fun _ _ _ _ _ => ⟨_, (vts_one (vt_w (vw_or (vt_eq hu64 (ve_v 7) ve_int) (vw_or1 (vt_gt (ve_item hu1 (ve_v 8) ve_int) (ve_cb snd_maxL (cr_max rfl) T.b_max (va_cons (ve_lcX (own := [("one", 9)]) rfl sc__law_history.nd (vi_any (ve_slice (ve_v 3) vo_none (vo_some (ve_v 7)))) (blkOk_by (N := ["box", "high", "ticks", "found", "time", "lap", "worth", "at", "sign", "one"]) (sc := { kind := .function, names := [(".0", .local), ("at", .local), ("sign", .local), ("max", .globalImplicit), ("found", .cell)], isGenerator := false, isCoroutine := false }) (own := [("one", 9)]) (by decide +kernel)) (fun _ _ _ _ _ => ⟨_, (vg_n sc__law_history.nd)⟩) (fun _ _ _ _ _ => ⟨_, vts_nil⟩) (fun _ _ _ _ _ => ⟨_, (ve_item hu1 (ve_v 9) ve_int)⟩)) va_nil)))))))⟩) (fun _ _ _ _ _ => ⟨_, (ve_v 8)⟩)))))))⟩
/-- what is left to be shown of _law_history: BodyOk -/
theorem g__law_history {k : Nat} {f : Addr} {fd : FuncData} {s_ : Spd} {s__law_take : Spd} (T : Txt K mg) (Fd : FunD K "_law_history" "_law_history" (defArgs st__law_history) (defBody st__law_history) (defScope st__law_history) [] [] f fd) (R__law_take : Rdy P w K mg base k "_law_take" [] [] s__law_take)
    (len : ∀ ds S Q E, s_ ds S Q E → ds.length = 3) (ok : BodyOk (d__law_history K s__law_take) ["box", "high", "ticks", "found", "time", "lap", "worth", "at", "sign", "one"] s_) : FnG P w K mg base (k + 1) f fd ["box", "high", "ticks"] (lift K s_) :=
  def_ok Fd sc__law_history len fun cdv A outer s H E hgd hr => (w__law_history T hgd hr R__law_take).elim fun t v => ⟨t, _, v, ok⟩
theorem r__law_history {k : Nat} {f : Addr} {fd : FuncData} {s_ : Spd} {s__law_take : Spd} (T : Txt K mg) (hm : mg "_law_history" = some (.ref f)) (Fd : FunD K "_law_history" "_law_history" (defArgs st__law_history) (defBody st__law_history) (defScope st__law_history) [] [] f fd) (R__law_take : Rdy P w K mg base k "_law_take" [] [] s__law_take)
    (len : ∀ ds S Q E, s_ ds S Q E → ds.length = 3) (ok : BodyOk (d__law_history K s__law_take) ["box", "high", "ticks", "found", "time", "lap", "worth", "at", "sign", "one"] s_) : Rdy P w K mg base (k + 1) "_law_history" [] [] s_ :=
  rdy_of (g__law_history T Fd R__law_take len ok) hm Fd.kp (Fd.bindsN fun _ _ _ _ _ _ us hl => match us, hl with | [_, _, _], _ => rfl)
theorem sc__law_histories : FnScope ["box", "points", "ticks", "found", "name", "place", "kind"] ["box", "points", "ticks"] (defScope st__law_histories) := ⟨rfl, rfl, rfl, by decide +kernel, rfl, by decide +kernel, by decide +kernel⟩
def g__law_histories_0 (K : PySem.W.Frag) (s__law_mixed : Spd) (s__law_take : Spd) (s__law_history : Spd) : TGd := (hTup 3 (hCons (hName 4) (hCons (hName 5) (hCons (hName 6) hNil))))
theorem u_g__law_histories_0 {s__law_mixed : Spd} {s__law_take : Spd} {s__law_history : Spd} {d : D} {σ : Sd} {S : Sto} {Q : Sd → Sto → Prop} : g__law_histories_0 K s__law_mixed s__law_take s__law_history d σ S Q = (hTup 3 (hCons (hName 4) (hCons (hName 5) (hCons (hName 6) hNil)))) d σ S Q := rfl
def b__law_histories_0 (K : PySem.W.Frag) (s__law_mixed : Spd) (s__law_take : Spd) (s__law_history : Spd) : TSd := (dIf (dTest (dOp dGt (dCall s__law_take [] (dCons (dVar 0) (dCons (dC (.int 5)) dNil))) (dC (.int 0)))) (dSetI (dCall s__law_history [] (dCons (dVar 0) (dCons (dIfE (dTest (dOp dEq (dVar 6) (dC (.str "level")))) (dC (.int 63)) (dC (.int 1))) (dCons (dVar 2) dNil)))) (dVar 3) (dVar 4)) dNext)
theorem u_b__law_histories_0 {s__law_mixed : Spd} {s__law_take : Spd} {s__law_history : Spd} {D : EndsD} {σ : Sd} {S : Sto} : b__law_histories_0 K s__law_mixed s__law_take s__law_history D σ S = (dIf (dTest (dOp dGt (dCall s__law_take [] (dCons (dVar 0) (dCons (dC (.int 5)) dNil))) (dC (.int 0)))) (dSetI (dCall s__law_history [] (dCons (dVar 0) (dCons (dIfE (dTest (dOp dEq (dVar 6) (dC (.str "level")))) (dC (.int 63)) (dC (.int 1))) (dCons (dVar 2) dNil)))) (dVar 3) (dVar 4)) dNext) D σ S := rfl
def d__law_histories (K : PySem.W.Frag) (s__law_mixed : Spd) (s__law_take : Spd) (s__law_history : Spd) : TSd := (dSeq (dAsg dDctM (hName 3)) (dSeq (dFor (nAny (dCall s__law_mixed [] (dCons (dVar 0) (dCons (dVar 1) dNil)))) (g__law_histories_0 K s__law_mixed s__law_take s__law_history) (b__law_histories_0 K s__law_mixed s__law_take s__law_history)) (dSee 3 (dRet (dVar 3)))))
theorem w__law_histories {k : Nat} {f : Addr} {cdv : Value} {A : Around} {outer : List Env} {s : Shared} {H : Hp} {E : XK} {s__law_mixed : Spd} {s__law_take : Spd} {s__law_history : Spd} (T : Txt K mg) (hgd : A.guards = some []) (hr : Room k (A.deeper (envOfC "_law_histories" (defScope st__law_histories) s.heap.objs.size f cdv))) (R__law_mixed : Rdy P w K mg base k "_law_mixed" [] [] s__law_mixed) (R__law_take : Rdy P w K mg base k "_law_take" [] [] s__law_take) (R__law_history : Rdy P w K mg base k "_law_history" [] [] s__law_history) :
    ∃ t, VSs (cxOf (L2.CX P w) P w K mg base ["box", "points", "ticks", "found", "name", "place", "kind"] "_law_histories" (defScope st__law_histories) f cdv A outer s H E) (wDef E) (defBody st__law_histories) t (d__law_histories K s__law_mixed s__law_take s__law_history) :=
  have hu1 := room1 hr
  have hu64 := hr.units
  have hu66 := room66 hr
  ⟨_, by exact (vss_cons (vs_name sc__law_histories.nd ve_dctM) (vss_cons (vs_for (vs := [4, 5, 6]) (passes_of rfl) rfl (vi_any (ve_callR R__law_mixed hgd hr (takes_of rfl rfl rfl rfl) (va_cons (ve_v 0) (va_cons (ve_v 1) va_nil)))) (vg_tup rfl (vgs_cons (vg_n sc__law_histories.nd) (vgs_cons (vg_n sc__law_histories.nd) (vgs_cons (vg_n sc__law_histories.nd) vgs_nil)))) (vss_one (vs_if (vt_gt (ve_callR R__law_take hgd hr (takes_of rfl rfl rfl rfl) (va_cons (ve_v 0) (va_cons ve_int va_nil))) ve_int) (vss_one (vs_setI hu1 (ve_callR R__law_history hgd hr (takes_of rfl rfl rfl rfl) (va_cons (ve_v 0) (va_cons (ve_ifE (vt_eq hu64 (ve_v 6) ve_str) ve_int ve_int) (va_cons (ve_v 2) va_nil)))) (ve_v 3) (ve_v 4))) vss_nil))) (vss_see (j := 3) (vss_one (vs_ret (ve_v 3))))))⟩
/-- what is left to be shown of _law_histories: BodyOk -/
theorem g__law_histories {k : Nat} {f : Addr} {fd : FuncData} {s_ : Spd} {s__law_mixed : Spd} {s__law_take : Spd} {s__law_history : Spd} (T : Txt K mg) (Fd : FunD K "_law_histories" "_law_histories" (defArgs st__law_histories) (defBody st__law_histories) (defScope st__law_histories) [] [] f fd) (R__law_mixed : Rdy P w K mg base k "_law_mixed" [] [] s__law_mixed) (R__law_take : Rdy P w K mg base k "_law_take" [] [] s__law_take) (R__law_history : Rdy P w K mg base k "_law_history" [] [] s__law_history)
    (len : ∀ ds S Q E, s_ ds S Q E → ds.length = 3) (ok : BodyOk (d__law_histories K s__law_mixed s__law_take s__law_history) ["box", "points", "ticks", "found", "name", "place", "kind"] s_) : FnG P w K mg base (k + 1) f fd ["box", "points", "ticks"] (lift K s_) :=
  def_ok Fd sc__law_histories len fun cdv A outer s H E hgd hr => (w__law_histories T hgd hr R__law_mixed R__law_take R__law_history).elim fun t v => ⟨t, _, v, ok⟩
theorem r__law_histories {k : Nat} {f : Addr} {fd : FuncData} {s_ : Spd} {s__law_mixed : Spd} {s__law_take : Spd} {s__law_history : Spd} (T : Txt K mg) (hm : mg "_law_histories" = some (.ref f)) (Fd : FunD K "_law_histories" "_law_histories" (defArgs st__law_histories) (defBody st__law_histories) (defScope st__law_histories) [] [] f fd) (R__law_mixed : Rdy P w K mg base k "_law_mixed" [] [] s__law_mixed) (R__law_take : Rdy P w K mg base k "_law_take" [] [] s__law_take) (R__law_history : Rdy P w K mg base k "_law_history" [] [] s__law_history)
    (len : ∀ ds S Q E, s_ ds S Q E → ds.length = 3) (ok : BodyOk (d__law_histories K s__law_mixed s__law_take s__law_history) ["box", "points", "ticks", "found", "name", "place", "kind"] s_) : Rdy P w K mg base (k + 1) "_law_histories" [] [] s_ :=
  rdy_of (g__law_histories T Fd R__law_mixed R__law_take R__law_history len ok) hm Fd.kp (Fd.bindsN fun _ _ _ _ _ _ us hl => match us, hl with | [_, _, _], _ => rfl)
theorem sc__law_picture_at : FnScope ["points", "histories", "time", "found", "name", "place", "kind", "signs", "sign"] ["points", "histories", "time"] (defScope st__law_picture_at) := ⟨rfl, rfl, rfl, by decide +kernel, rfl, by decide +kernel, by decide +kernel⟩
def g__law_picture_at_0 (K : PySem.W.Frag) : TGd := (hTup 3 (hCons (hName 4) (hCons (hName 5) (hCons (hName 6) hNil))))
theorem u_g__law_picture_at_0 {d : D} {σ : Sd} {S : Sto} {Q : Sd → Sto → Prop} : g__law_picture_at_0 K d σ S Q = (hTup 3 (hCons (hName 4) (hCons (hName 5) (hCons (hName 6) hNil)))) d σ S Q := rfl
def b__law_picture_at_0 (K : PySem.W.Frag) : TSd := (dSeq (dAsg (dLc (nAny (dGet2 (dVar 1) (dVar 4) (dLst dNil))) (hName 8) (dTest (dOp dLe (dOp dIx (dVar 8) (dC (.int 0))) (dVar 2))) (dVar 8) [8]) (hName 7)) (dIf (dAndT (dTest (dOp dNe (dVar 7) (dLst dNil))) (dTest (dOp dEq (dOp dIx (dOp dIx (dVar 7) (dNeg (dC (.int 1)))) (dC (.int 2))) (dC (.str "good"))))) (dSetI (dOp dIx (dOp dIx (dVar 7) (dNeg (dC (.int 1)))) (dC (.int 1))) (dVar 3) (dVar 4)) dNext))
theorem u_b__law_picture_at_0 {D : EndsD} {σ : Sd} {S : Sto} : b__law_picture_at_0 K D σ S = (dSeq (dAsg (dLc (nAny (dGet2 (dVar 1) (dVar 4) (dLst dNil))) (hName 8) (dTest (dOp dLe (dOp dIx (dVar 8) (dC (.int 0))) (dVar 2))) (dVar 8) [8]) (hName 7)) (dIf (dAndT (dTest (dOp dNe (dVar 7) (dLst dNil))) (dTest (dOp dEq (dOp dIx (dOp dIx (dVar 7) (dNeg (dC (.int 1)))) (dC (.int 2))) (dC (.str "good"))))) (dSetI (dOp dIx (dOp dIx (dVar 7) (dNeg (dC (.int 1)))) (dC (.int 1))) (dVar 3) (dVar 4)) dNext)) D σ S := rfl
def d__law_picture_at (K : PySem.W.Frag) : TSd := (dSeq (dAsg dDctM (hName 3)) (dSeq (dFor (nAny (dVar 0)) (g__law_picture_at_0 K) (b__law_picture_at_0 K)) (dSee 3 (dRet (dVar 3)))))
theorem w__law_picture_at {k : Nat} {f : Addr} {cdv : Value} {A : Around} {outer : List Env} {s : Shared} {H : Hp} {E : XK} (T : Txt K mg) (hgd : A.guards = some []) (hr : Room k (A.deeper (envOfC "_law_picture_at" (defScope st__law_picture_at) s.heap.objs.size f cdv))) :
    ∃ t, VSs (cxOf (L2.CX P w) P w K mg base ["points", "histories", "time", "found", "name", "place", "kind", "signs", "sign"] "_law_picture_at" (defScope st__law_picture_at) f cdv A outer s H E) (wDef E) (defBody st__law_picture_at) t (d__law_picture_at K) :=
  have hu1 := room1 hr
  have hu64 := hr.units
  have hu66 := room66 hr
  ⟨_, by exact (vss_cons (vs_name sc__law_picture_at.nd ve_dctM) (vss_cons (vs_for (vs := [4, 5, 6]) (passes_of rfl) rfl (vi_any (ve_v 0)) (vg_tup rfl (vgs_cons (vg_n sc__law_picture_at.nd) (vgs_cons (vg_n sc__law_picture_at.nd) (vgs_cons (vg_n sc__law_picture_at.nd) vgs_nil)))) (vss_cons (vs_setLcX (own := [("sign", 8)]) rfl sc__law_picture_at.nd (vi_any (ve_get2 hu1 (ve_v 1) (ve_v 4) (ve_lst va_nil) m2_of)) (blkOk_by (N := ["points", "histories", "time", "found", "name", "place", "kind", "signs", "sign"]) (sc := defScope st__law_picture_at) (own := [("sign", 8)]) (by decide +kernel)) (fun _ _ _ _ _ => ⟨_, (vg_n sc__law_picture_at.nd)⟩) (fun _ _ _ _ _ => ⟨_, (vts_one (vt_le (ve_item hu1 (ve_v 8) ve_int) (ve_v 2)))⟩) (fun _ _ _ _ _ => ⟨_, (ve_v 8)⟩)) (vss_one (vs_if (vt_w (vw_and (vt_ne hu64 (ve_v 7) (ve_lst va_nil)) (vw_and1 (vt_eq hu64 (ve_item hu1 (ve_item hu1 (ve_v 7) (ve_neg ve_int)) ve_int) ve_str)))) (vss_one (vs_setI hu1 (ve_item hu1 (ve_item hu1 (ve_v 7) (ve_neg ve_int)) ve_int) (ve_v 3) (ve_v 4))) vss_nil)))) (vss_see (j := 3) (vss_one (vs_ret (ve_v 3))))))⟩
/-- what is left to be shown of _law_picture_at: BodyOk -/
theorem g__law_picture_at {k : Nat} {f : Addr} {fd : FuncData} {s_ : Spd} (T : Txt K mg) (Fd : FunD K "_law_picture_at" "_law_picture_at" (defArgs st__law_picture_at) (defBody st__law_picture_at) (defScope st__law_picture_at) [] [] f fd)
    (len : ∀ ds S Q E, s_ ds S Q E → ds.length = 3) (ok : BodyOk (d__law_picture_at K) ["points", "histories", "time", "found", "name", "place", "kind", "signs", "sign"] s_) : FnG P w K mg base (k + 1) f fd ["points", "histories", "time"] (lift K s_) :=
  def_ok Fd sc__law_picture_at len fun cdv A outer s H E hgd hr => (w__law_picture_at T hgd hr ).elim fun t v => ⟨t, _, v, ok⟩
theorem r__law_picture_at {k : Nat} {f : Addr} {fd : FuncData} {s_ : Spd} (T : Txt K mg) (hm : mg "_law_picture_at" = some (.ref f)) (Fd : FunD K "_law_picture_at" "_law_picture_at" (defArgs st__law_picture_at) (defBody st__law_picture_at) (defScope st__law_picture_at) [] [] f fd)
    (len : ∀ ds S Q E, s_ ds S Q E → ds.length = 3) (ok : BodyOk (d__law_picture_at K) ["points", "histories", "time", "found", "name", "place", "kind", "signs", "sign"] s_) : Rdy P w K mg base (k + 1) "_law_picture_at" [] [] s_ :=
  rdy_of (g__law_picture_at T Fd  len ok) hm Fd.kp (Fd.bindsN fun _ _ _ _ _ _ us hl => match us, hl with | [_, _, _], _ => rfl)
theorem sc_law : FnScope ["script", "k", "box", "points", "works", "ticks", "histories", "handed", "name", "row", "kept", "times", "sign", "turn", "time", "lap", "found"] ["script"] (defScope st_law) := ⟨rfl, rfl, rfl, by decide +kernel, rfl, by decide +kernel, by decide +kernel⟩
def g_law_1 (K : PySem.W.Frag) (s__law_box : Spd) (s__law_cell : Spd) (s__law_points : Spd) (s__law_names : Spd) (s__law_take : Spd) (s__law_histories : Spd) (s_picture_at : Spd) (s__law_picture_at : Spd) (s_Works___init__ : Spd) : TGd := (hName 9)
theorem u_g_law_1 {s__law_box : Spd} {s__law_cell : Spd} {s__law_points : Spd} {s__law_names : Spd} {s__law_take : Spd} {s__law_histories : Spd} {s_picture_at : Spd} {s__law_picture_at : Spd} {s_Works___init__ : Spd} {d : D} {σ : Sd} {S : Sto} {Q : Sd → Sto → Prop} : g_law_1 K s__law_box s__law_cell s__law_points s__law_names s__law_take s__law_histories s_picture_at s__law_picture_at s_Works___init__ d σ S Q = (hName 9) d σ S Q := rfl
def b_law_1 (K : PySem.W.Frag) (s__law_box : Spd) (s__law_cell : Spd) (s__law_points : Spd) (s__law_names : Spd) (s__law_take : Spd) (s__law_histories : Spd) (s_picture_at : Spd) (s__law_picture_at : Spd) (s_Works___init__ : Spd) : TSd := (dDrop (dExtend (dVar 11) (dCons (dLcM (nAny (dVar 9)) (hName 12) dYes (dOp dIx (dVar 12) (dC (.int 0))) [12]) dNil)))
theorem u_b_law_1 {s__law_box : Spd} {s__law_cell : Spd} {s__law_points : Spd} {s__law_names : Spd} {s__law_take : Spd} {s__law_histories : Spd} {s_picture_at : Spd} {s__law_picture_at : Spd} {s_Works___init__ : Spd} {D : EndsD} {σ : Sd} {S : Sto} : b_law_1 K s__law_box s__law_cell s__law_points s__law_names s__law_take s__law_histories s_picture_at s__law_picture_at s_Works___init__ D σ S = (dDrop (dExtend (dVar 11) (dCons (dLcM (nAny (dVar 9)) (hName 12) dYes (dOp dIx (dVar 12) (dC (.int 0))) [12]) dNil))) D σ S := rfl
def g_law_3 (K : PySem.W.Frag) (s__law_box : Spd) (s__law_cell : Spd) (s__law_points : Spd) (s__law_names : Spd) (s__law_take : Spd) (s__law_histories : Spd) (s_picture_at : Spd) (s__law_picture_at : Spd) (s_Works___init__ : Spd) : TGd := (hName 15)
theorem u_g_law_3 {s__law_box : Spd} {s__law_cell : Spd} {s__law_points : Spd} {s__law_names : Spd} {s__law_take : Spd} {s__law_histories : Spd} {s_picture_at : Spd} {s__law_picture_at : Spd} {s_Works___init__ : Spd} {d : D} {σ : Sd} {S : Sto} {Q : Sd → Sto → Prop} : g_law_3 K s__law_box s__law_cell s__law_points s__law_names s__law_take s__law_histories s_picture_at s__law_picture_at s_Works___init__ d σ S Q = (hName 15) d σ S Q := rfl
def b_law_3 (K : PySem.W.Frag) (s__law_box : Spd) (s__law_cell : Spd) (s__law_points : Spd) (s__law_names : Spd) (s__law_take : Spd) (s__law_histories : Spd) (s_picture_at : Spd) (s__law_picture_at : Spd) (s_Works___init__ : Spd) : TSd := (dSeq (dAsg (dCall s_picture_at [] (dCons (dVar 4) (dCons (dVar 7) (dCons (dVar 14) dNil)))) (hName 16)) (dSeq (dIf (dTest (dOp dNe (dCB dReprL (dCons (dVar 16) dNil)) (dCB dReprL (dCons (dCall s__law_picture_at [] (dCons (dVar 3) (dCons (dVar 6) (dCons (dVar 14) dNil)))) dNil)))) (dRet (dC (.bl false))) dNext) (dSetI (dC (.int 1)) (dVar 16) (dC (.str "more")))))
theorem u_b_law_3 {s__law_box : Spd} {s__law_cell : Spd} {s__law_points : Spd} {s__law_names : Spd} {s__law_take : Spd} {s__law_histories : Spd} {s_picture_at : Spd} {s__law_picture_at : Spd} {s_Works___init__ : Spd} {D : EndsD} {σ : Sd} {S : Sto} : b_law_3 K s__law_box s__law_cell s__law_points s__law_names s__law_take s__law_histories s_picture_at s__law_picture_at s_Works___init__ D σ S = (dSeq (dAsg (dCall s_picture_at [] (dCons (dVar 4) (dCons (dVar 7) (dCons (dVar 14) dNil)))) (hName 16)) (dSeq (dIf (dTest (dOp dNe (dCB dReprL (dCons (dVar 16) dNil)) (dCB dReprL (dCons (dCall s__law_picture_at [] (dCons (dVar 3) (dCons (dVar 6) (dCons (dVar 14) dNil)))) dNil)))) (dRet (dC (.bl false))) dNext) (dSetI (dC (.int 1)) (dVar 16) (dC (.str "more"))))) D σ S := rfl
def g_law_2 (K : PySem.W.Frag) (s__law_box : Spd) (s__law_cell : Spd) (s__law_points : Spd) (s__law_names : Spd) (s__law_take : Spd) (s__law_histories : Spd) (s_picture_at : Spd) (s__law_picture_at : Spd) (s_Works___init__ : Spd) : TGd := (hName 13)
theorem u_g_law_2 {s__law_box : Spd} {s__law_cell : Spd} {s__law_points : Spd} {s__law_names : Spd} {s__law_take : Spd} {s__law_histories : Spd} {s_picture_at : Spd} {s__law_picture_at : Spd} {s_Works___init__ : Spd} {d : D} {σ : Sd} {S : Sto} {Q : Sd → Sto → Prop} : g_law_2 K s__law_box s__law_cell s__law_points s__law_names s__law_take s__law_histories s_picture_at s__law_picture_at s_Works___init__ d σ S Q = (hName 13) d σ S Q := rfl
def b_law_2 (K : PySem.W.Frag) (s__law_box : Spd) (s__law_cell : Spd) (s__law_points : Spd) (s__law_names : Spd) (s__law_take : Spd) (s__law_histories : Spd) (s_picture_at : Spd) (s__law_picture_at : Spd) (s_Works___init__ : Spd) : TSd := (dSeq (dAsg (dOp dSub (dOp dAdd (dOp dIx (dVar 11) (dCall s__law_take [] (dCons (dVar 2) (dCons (dCB dLen (dCons (dVar 11) dNil)) dNil)))) (dCall s__law_take [] (dCons (dVar 2) (dCons (dC (.int 3)) dNil)))) (dC (.int 1))) (hName 14)) (dSeq (dAsg (dCB (dMM fun i j => if j > i then j else i) (dCons (dC (.int 0)) (dCons (dCB (dMM fun i j => if j < i then j else i) (dCons (dC (.int 9999)) (dCons (dVar 14) dNil))) dNil))) (hName 14)) (dFor (nRng1 (dCons (dC (.int 2)) dNil)) (g_law_3 K s__law_box s__law_cell s__law_points s__law_names s__law_take s__law_histories s_picture_at s__law_picture_at s_Works___init__) (b_law_3 K s__law_box s__law_cell s__law_points s__law_names s__law_take s__law_histories s_picture_at s__law_picture_at s_Works___init__))))
theorem u_b_law_2 {s__law_box : Spd} {s__law_cell : Spd} {s__law_points : Spd} {s__law_names : Spd} {s__law_take : Spd} {s__law_histories : Spd} {s_picture_at : Spd} {s__law_picture_at : Spd} {s_Works___init__ : Spd} {D : EndsD} {σ : Sd} {S : Sto} : b_law_2 K s__law_box s__law_cell s__law_points s__law_names s__law_take s__law_histories s_picture_at s__law_picture_at s_Works___init__ D σ S = (dSeq (dAsg (dOp dSub (dOp dAdd (dOp dIx (dVar 11) (dCall s__law_take [] (dCons (dVar 2) (dCons (dCB dLen (dCons (dVar 11) dNil)) dNil)))) (dCall s__law_take [] (dCons (dVar 2) (dCons (dC (.int 3)) dNil)))) (dC (.int 1))) (hName 14)) (dSeq (dAsg (dCB (dMM fun i j => if j > i then j else i) (dCons (dC (.int 0)) (dCons (dCB (dMM fun i j => if j < i then j else i) (dCons (dC (.int 9999)) (dCons (dVar 14) dNil))) dNil))) (hName 14)) (dFor (nRng1 (dCons (dC (.int 2)) dNil)) (g_law_3 K s__law_box s__law_cell s__law_points s__law_names s__law_take s__law_histories s_picture_at s__law_picture_at s_Works___init__) (b_law_3 K s__law_box s__law_cell s__law_points s__law_names s__law_take s__law_histories s_picture_at s__law_picture_at s_Works___init__)))) D σ S := rfl
def g_law_0 (K : PySem.W.Frag) (s__law_box : Spd) (s__law_cell : Spd) (s__law_points : Spd) (s__law_names : Spd) (s__law_take : Spd) (s__law_histories : Spd) (s_picture_at : Spd) (s__law_picture_at : Spd) (s_Works___init__ : Spd) : TGd := (hName 1)
theorem u_g_law_0 {s__law_box : Spd} {s__law_cell : Spd} {s__law_points : Spd} {s__law_names : Spd} {s__law_take : Spd} {s__law_histories : Spd} {s_picture_at : Spd} {s__law_picture_at : Spd} {s_Works___init__ : Spd} {d : D} {σ : Sd} {S : Sto} {Q : Sd → Sto → Prop} : g_law_0 K s__law_box s__law_cell s__law_points s__law_names s__law_take s__law_histories s_picture_at s__law_picture_at s_Works___init__ d σ S Q = (hName 1) d σ S Q := rfl
def b_law_0 (K : PySem.W.Frag) (s__law_box : Spd) (s__law_cell : Spd) (s__law_points : Spd) (s__law_names : Spd) (s__law_take : Spd) (s__law_histories : Spd) (s_picture_at : Spd) (s__law_picture_at : Spd) (s_Works___init__ : Spd) : TSd := (dSeq (dAsg (dCall s__law_box [] (dCons (dCall s__law_cell [] (dCons (dVar 0) (dCons (dVar 1) dNil))) dNil)) (hName 2)) (dSeq (dAsg (dCall s__law_points [] (dCons (dVar 2) (dCons (dCall s__law_names [] (dCons (dVar 2) (dCons (dOp dAdd (dC (.int 1)) (dCall s__law_take [] (dCons (dVar 2) (dCons (dC (.int 8)) dNil)))) dNil))) (dCons (dC (.int 8)) dNil)))) (hName 3)) (dSeq (dPar 4 5 (dCons (dFrzI (dMakeK (He.ga K "Works") 1 0 s_Works___init__ (fun ds es => mix [(0, 0), (0, 1), (1, 0), (1, 1), (1, 2), (1, 3)] ds [.tup [], .tup [], .tup [], .tup []] es) (dCons (dVar 3) dNil) dNil)) (dCons (dOp dIx (dLst (dCons (dC (.int 9999)) (dCons (dC (.int 40)) (dCons (dC (.int 3)) dNil)))) (dCall s__law_take [] (dCons (dVar 2) (dCons (dC (.int 3)) dNil)))) dNil))) (dSeq (dAsg (dCall s__law_histories [] (dCons (dVar 2) (dCons (dVar 3) (dCons (dCB (dMM fun i j => if j < i then j else i) (dCons (dVar 5) (dCons (dC (.int 9970)) dNil))) dNil)))) (hName 6)) (dSeq (dAsg (dCB dDictOf (dCons (dLcD .items (dVar 6) (hTup 2 (hCons (hName 8) (hCons (hName 9) hNil))) dYes (dTup (dCons (dVar 8) (dCons (dIfE (dTest (dOp dEq (dCall s__law_take [] (dCons (dVar 2) (dCons (dC (.int 2)) dNil))) (dC (.int 0)))) (dCB dTupOf (dCons (dVar 9) dNil)) (dVar 9)) dNil))) [8, 9]) dNil)) (hName 7)) (dSeq (dAsg (dCB dReprL (dCons (dVar 7) dNil)) (hName 10)) (dSeq (dAsg (dLstM (dCons (dC (.int 0)) (dCons (dC (.int 9999)) dNil))) (hName 11)) (dSeq (dForD .vals (dVar 6) (g_law_1 K s__law_box s__law_cell s__law_points s__law_names s__law_take s__law_histories s_picture_at s__law_picture_at s_Works___init__) (b_law_1 K s__law_box s__law_cell s__law_points s__law_names s__law_take s__law_histories s_picture_at s__law_picture_at s_Works___init__)) (dSeq (dFor (nRng1 (dCons (dC (.int 6)) dNil)) (g_law_2 K s__law_box s__law_cell s__law_points s__law_names s__law_take s__law_histories s_picture_at s__law_picture_at s_Works___init__) (b_law_2 K s__law_box s__law_cell s__law_points s__law_names s__law_take s__law_histories s_picture_at s__law_picture_at s_Works___init__)) (dIf (dTest (dOp dNe (dCB dReprL (dCons (dVar 7) dNil)) (dVar 10))) (dRet (dC (.bl false))) dNext))))))))))
theorem u_b_law_0 {s__law_box : Spd} {s__law_cell : Spd} {s__law_points : Spd} {s__law_names : Spd} {s__law_take : Spd} {s__law_histories : Spd} {s_picture_at : Spd} {s__law_picture_at : Spd} {s_Works___init__ : Spd} {D : EndsD} {σ : Sd} {S : Sto} : b_law_0 K s__law_box s__law_cell s__law_points s__law_names s__law_take s__law_histories s_picture_at s__law_picture_at s_Works___init__ D σ S = (dSeq (dAsg (dCall s__law_box [] (dCons (dCall s__law_cell [] (dCons (dVar 0) (dCons (dVar 1) dNil))) dNil)) (hName 2)) (dSeq (dAsg (dCall s__law_points [] (dCons (dVar 2) (dCons (dCall s__law_names [] (dCons (dVar 2) (dCons (dOp dAdd (dC (.int 1)) (dCall s__law_take [] (dCons (dVar 2) (dCons (dC (.int 8)) dNil)))) dNil))) (dCons (dC (.int 8)) dNil)))) (hName 3)) (dSeq (dPar 4 5 (dCons (dFrzI (dMakeK (He.ga K "Works") 1 0 s_Works___init__ (fun ds es => mix [(0, 0), (0, 1), (1, 0), (1, 1), (1, 2), (1, 3)] ds [.tup [], .tup [], .tup [], .tup []] es) (dCons (dVar 3) dNil) dNil)) (dCons (dOp dIx (dLst (dCons (dC (.int 9999)) (dCons (dC (.int 40)) (dCons (dC (.int 3)) dNil)))) (dCall s__law_take [] (dCons (dVar 2) (dCons (dC (.int 3)) dNil)))) dNil))) (dSeq (dAsg (dCall s__law_histories [] (dCons (dVar 2) (dCons (dVar 3) (dCons (dCB (dMM fun i j => if j < i then j else i) (dCons (dVar 5) (dCons (dC (.int 9970)) dNil))) dNil)))) (hName 6)) (dSeq (dAsg (dCB dDictOf (dCons (dLcD .items (dVar 6) (hTup 2 (hCons (hName 8) (hCons (hName 9) hNil))) dYes (dTup (dCons (dVar 8) (dCons (dIfE (dTest (dOp dEq (dCall s__law_take [] (dCons (dVar 2) (dCons (dC (.int 2)) dNil))) (dC (.int 0)))) (dCB dTupOf (dCons (dVar 9) dNil)) (dVar 9)) dNil))) [8, 9]) dNil)) (hName 7)) (dSeq (dAsg (dCB dReprL (dCons (dVar 7) dNil)) (hName 10)) (dSeq (dAsg (dLstM (dCons (dC (.int 0)) (dCons (dC (.int 9999)) dNil))) (hName 11)) (dSeq (dForD .vals (dVar 6) (g_law_1 K s__law_box s__law_cell s__law_points s__law_names s__law_take s__law_histories s_picture_at s__law_picture_at s_Works___init__) (b_law_1 K s__law_box s__law_cell s__law_points s__law_names s__law_take s__law_histories s_picture_at s__law_picture_at s_Works___init__)) (dSeq (dFor (nRng1 (dCons (dC (.int 6)) dNil)) (g_law_2 K s__law_box s__law_cell s__law_points s__law_names s__law_take s__law_histories s_picture_at s__law_picture_at s_Works___init__) (b_law_2 K s__law_box s__law_cell s__law_points s__law_names s__law_take s__law_histories s_picture_at s__law_picture_at s_Works___init__)) (dIf (dTest (dOp dNe (dCB dReprL (dCons (dVar 7) dNil)) (dVar 10))) (dRet (dC (.bl false))) dNext)))))))))) D σ S := rfl
def d_law (K : PySem.W.Frag) (s__law_box : Spd) (s__law_cell : Spd) (s__law_points : Spd) (s__law_names : Spd) (s__law_take : Spd) (s__law_histories : Spd) (s_picture_at : Spd) (s__law_picture_at : Spd) (s_Works___init__ : Spd) : TSd := (dSeq (dFor (nRng1 (dCons (dCB (dMM fun i j => if j > i then j else i) (dCons (dC (.int 2)) (dCons (dCB (dMM fun i j => if j < i then j else i) (dCons (dC (.int 6)) (dCons (dCB dLen (dCons (dVar 0) dNil)) dNil))) dNil))) dNil)) (g_law_0 K s__law_box s__law_cell s__law_points s__law_names s__law_take s__law_histories s_picture_at s__law_picture_at s_Works___init__) (b_law_0 K s__law_box s__law_cell s__law_points s__law_names s__law_take s__law_histories s_picture_at s__law_picture_at s_Works___init__)) (dRet (dC (.bl true))))
theorem w_law {k : Nat} {f : Addr} {cdv : Value} {A : Around} {outer : List Env} {s : Shared} {H : Hp} {E : XK} {s__law_box : Spd} {s__law_cell : Spd} {s__law_points : Spd} {s__law_names : Spd} {s__law_take : Spd} {s__law_histories : Spd} {s_picture_at : Spd} {s__law_picture_at : Spd} {s_Works___init__ : Spd} (T : Txt K mg) (hgd : A.guards = some []) (hr : Room (k + 1) (A.deeper (envOfC "law" (defScope st_law) s.heap.objs.size f cdv))) (R__law_box : Rdy P w K mg base (k + 1) "_law_box" [] [] s__law_box) (R__law_cell : Rdy P w K mg base (k + 1) "_law_cell" [] [] s__law_cell) (R__law_points : Rdy P w K mg base (k + 1) "_law_points" [] [] s__law_points) (R__law_names : Rdy P w K mg base (k + 1) "_law_names" [] [] s__law_names) (R__law_take : Rdy P w K mg base (k + 1) "_law_take" [] [] s__law_take) (R__law_histories : Rdy P w K mg base (k + 1) "_law_histories" [] [] s__law_histories) (R_picture_at : Rdy P w K mg base (k + 1) "picture_at" [] [] s_picture_at) (R__law_picture_at : Rdy P w K mg base (k + 1) "_law_picture_at" [] [] s__law_picture_at) (M_Works_0 : RdyCK P w K mg base k "Works" (He.ga K "Works") 1 [] (fun vs zs => mix [(0, 0), (0, 1), (1, 0), (1, 1), (1, 2), (1, 3)] vs [.ref (kwAt ("Works", some "__init__") "rules" K), .ref (kwAt ("Works", some "__init__") "causes" K), .ref (kwAt ("Works", some "__init__") "commands" K), .ref (kwAt ("Works", some "__init__") "relations" K)] zs) (fun ds es => mix [(0, 0), (0, 1), (1, 0), (1, 1), (1, 2), (1, 3)] ds [.tup [], .tup [], .tup [], .tup []] es) s_Works___init__) :
    ∃ t, VSs (cxOf (L2.CX P w) P w K mg base ["script", "k", "box", "points", "works", "ticks", "histories", "handed", "name", "row", "kept", "times", "sign", "turn", "time", "lap", "found"] "law" (defScope st_law) f cdv A outer s H E) (wDef E) (defBody st_law) t (d_law K s__law_box s__law_cell s__law_points s__law_names s__law_take s__law_histories s_picture_at s__law_picture_at s_Works___init__) :=
  have hu1 := room1 hr
  have hu64 := hr.units
  have hu66 := room66 hr
  ⟨_, by exact (vss_cons (vs_for (vs := [1]) (passes_of rfl) rfl (vi_range1 T.b_range (va_cons (ve_cb snd_mm (call_max2 rfl) T.b_max (va_cons ve_int (va_cons (ve_cb snd_mm (call_min2 rfl) T.b_min (va_cons ve_int (va_cons (ve_cb snd_len call_lenA T.b_len (va_cons (ve_v 0) va_nil)) va_nil))) va_nil))) va_nil)) (vg_n sc_law.nd) (vss_cons (vs_name sc_law.nd (ve_callR R__law_box hgd hr (takes_of rfl rfl rfl rfl) (va_cons (ve_callR R__law_cell hgd hr (takes_of rfl rfl rfl rfl) (va_cons (ve_v 0) (va_cons (ve_v 1) va_nil))) va_nil))) (vss_cons (vs_name sc_law.nd (ve_callR R__law_points hgd hr (takes_of rfl rfl rfl rfl) (va_cons (ve_v 2) (va_cons (ve_callR R__law_names hgd hr (takes_of rfl rfl rfl rfl) (va_cons (ve_v 2) (va_cons (ve_add ve_int (ve_callR R__law_take hgd hr (takes_of rfl rfl rfl rfl) (va_cons (ve_v 2) (va_cons ve_int va_nil)))) va_nil))) (va_cons ve_int va_nil))))) (vss_cons (vs_pair rfl sc_law.nd (va_cons (ve_frzI (ve_makeK (ks := []) M_Works_0 hgd hr (takes_of rfl rfl rfl rfl) (va_cons (ve_v 3) va_nil) vk_nil)) (va_cons (ve_item hu1 (ve_lst (va_cons ve_int (va_cons ve_int (va_cons ve_int va_nil)))) (ve_callR R__law_take hgd hr (takes_of rfl rfl rfl rfl) (va_cons (ve_v 2) (va_cons ve_int va_nil)))) va_nil))) (vss_cons (vs_name sc_law.nd (ve_callR R__law_histories hgd hr (takes_of rfl rfl rfl rfl) (va_cons (ve_v 2) (va_cons (ve_v 3) (va_cons (ve_cb snd_mm (call_min2 rfl) T.b_min (va_cons (ve_v 5) (va_cons ve_int va_nil))) va_nil))))) (vss_cons (vs_name sc_law.nd (ve_ct snd_dictOf (call_dictA rfl) T.b_dict (va_cons (ve_lcD (own := [("name", 8), ("row", 9)]) rfl sc_law.nd (vd_items (ve_v 6)) (blkOk_by (N := ["script", "k", "box", "points", "works", "ticks", "histories", "handed", "name", "row", "kept", "times", "sign", "turn", "time", "lap", "found"]) (sc := defScope st_law) (own := [("name", 8), ("row", 9)]) (by decide +kernel)) (fun _ _ _ _ _ => ⟨_, (vg_tup rfl (vgs_cons (vg_n sc_law.nd) (vgs_cons (vg_n sc_law.nd) vgs_nil)))⟩) (fun _ _ _ _ _ => ⟨_, vts_nil⟩) (fun _ _ _ _ _ => ⟨_, (ve_tup (va_cons (ve_v 8) (va_cons (ve_ifE (vt_eq hu64 (ve_callR R__law_take hgd hr takes0 (va_cons (ve_v 2) (va_cons ve_int va_nil))) ve_int) (ve_ct snd_tupOf call_tuple_of T.b_tuple (va_cons (ve_v 9) va_nil)) (ve_v 9)) va_nil)))⟩)) va_nil))) (vss_cons (vs_name sc_law.nd (ve_cb snd_reprL (call_reprL hgd hu66) T.b_repr (va_cons (ve_v 7) va_nil))) (vss_cons (vs_name sc_law.nd (ve_lstM (va_cons ve_int (va_cons ve_int va_nil)))) (vss_cons (vs_forD (vs := [9]) (passes_of rfl) rfl (vd_vals (ve_v 6)) (vg_n sc_law.nd) (vss_one (vs_expr (ve_ext (ve_v 11) (va_cons (ve_lcMX (own := [("sign", 12)]) rfl sc_law.nd (vi_any (ve_v 9)) (blkOk_by (N := ["script", "k", "box", "points", "works", "ticks", "histories", "handed", "name", "row", "kept", "times", "sign", "turn", "time", "lap", "found"]) (sc := defScope st_law) (own := [("sign", 12)]) (by decide +kernel)) (fun _ _ _ _ _ => ⟨_, (vg_n sc_law.nd)⟩) (fun _ _ _ _ _ => ⟨_, vts_nil⟩) (fun _ _ _ _ _ => ⟨_, (ve_item hu1 (ve_v 12) ve_int)⟩)) va_nil))))) (vss_cons (vs_for (vs := [13]) (passes_of rfl) rfl (vi_range1 T.b_range (va_cons ve_int va_nil)) (vg_n sc_law.nd) (vss_cons (vs_name sc_law.nd (ve_sub (ve_add (ve_item hu1 (ve_v 11) (ve_callR R__law_take hgd hr (takes_of rfl rfl rfl rfl) (va_cons (ve_v 2) (va_cons (ve_cb snd_len call_lenA T.b_len (va_cons (ve_v 11) va_nil)) va_nil)))) (ve_callR R__law_take hgd hr (takes_of rfl rfl rfl rfl) (va_cons (ve_v 2) (va_cons ve_int va_nil)))) ve_int)) (vss_cons (vs_name sc_law.nd (ve_cb snd_mm (call_max2 rfl) T.b_max (va_cons ve_int (va_cons (ve_cb snd_mm (call_min2 rfl) T.b_min (va_cons ve_int (va_cons (ve_v 14) va_nil))) va_nil)))) (vss_one (vs_for (vs := [15]) (passes_of rfl) rfl (vi_range1 T.b_range (va_cons ve_int va_nil)) (vg_n sc_law.nd) (vss_cons (vs_name sc_law.nd (ve_callR R_picture_at hgd hr (takes_of rfl rfl rfl rfl) (va_cons (ve_v 4) (va_cons (ve_v 7) (va_cons (ve_v 14) va_nil))))) (vss_cons (vs_if (vt_ne hu64 (ve_cb snd_reprL (call_reprL hgd hu66) T.b_repr (va_cons (ve_v 16) va_nil)) (ve_cb snd_reprL (call_reprL hgd hu66) T.b_repr (va_cons (ve_callR R__law_picture_at hgd hr (takes_of rfl rfl rfl rfl) (va_cons (ve_v 3) (va_cons (ve_v 6) (va_cons (ve_v 14) va_nil)))) va_nil))) (vss_one (vs_ret ve_bl)) vss_nil) (vss_one (vs_setI hu1 ve_int (ve_v 16) ve_str))))))))) (vss_one (vs_if (vt_ne hu64 (ve_cb snd_reprL (call_reprL hgd hu66) T.b_repr (va_cons (ve_v 7) va_nil)) (ve_v 10)) (vss_one (vs_ret ve_bl)) vss_nil)))))))))))) (vss_one (vs_ret ve_bl)))⟩
/-- what is left to be shown of law: BodyOk -/
theorem g_law {k : Nat} {f : Addr} {fd : FuncData} {s_ : Spd} {s__law_box : Spd} {s__law_cell : Spd} {s__law_points : Spd} {s__law_names : Spd} {s__law_take : Spd} {s__law_histories : Spd} {s_picture_at : Spd} {s__law_picture_at : Spd} {s_Works___init__ : Spd} (T : Txt K mg) (Fd : FunD K "law" "law" (defArgs st_law) (defBody st_law) (defScope st_law) [] [] f fd) (R__law_box : Rdy P w K mg base (k + 1) "_law_box" [] [] s__law_box) (R__law_cell : Rdy P w K mg base (k + 1) "_law_cell" [] [] s__law_cell) (R__law_points : Rdy P w K mg base (k + 1) "_law_points" [] [] s__law_points) (R__law_names : Rdy P w K mg base (k + 1) "_law_names" [] [] s__law_names) (R__law_take : Rdy P w K mg base (k + 1) "_law_take" [] [] s__law_take) (R__law_histories : Rdy P w K mg base (k + 1) "_law_histories" [] [] s__law_histories) (R_picture_at : Rdy P w K mg base (k + 1) "picture_at" [] [] s_picture_at) (R__law_picture_at : Rdy P w K mg base (k + 1) "_law_picture_at" [] [] s__law_picture_at) (M_Works_0 : RdyCK P w K mg base k "Works" (He.ga K "Works") 1 [] (fun vs zs => mix [(0, 0), (0, 1), (1, 0), (1, 1), (1, 2), (1, 3)] vs [.ref (kwAt ("Works", some "__init__") "rules" K), .ref (kwAt ("Works", some "__init__") "causes" K), .ref (kwAt ("Works", some "__init__") "commands" K), .ref (kwAt ("Works", some "__init__") "relations" K)] zs) (fun ds es => mix [(0, 0), (0, 1), (1, 0), (1, 1), (1, 2), (1, 3)] ds [.tup [], .tup [], .tup [], .tup []] es) s_Works___init__)
    (len : ∀ ds S Q E, s_ ds S Q E → ds.length = 1) (ok : BodyOk (d_law K s__law_box s__law_cell s__law_points s__law_names s__law_take s__law_histories s_picture_at s__law_picture_at s_Works___init__) ["script", "k", "box", "points", "works", "ticks", "histories", "handed", "name", "row", "kept", "times", "sign", "turn", "time", "lap", "found"] s_) : FnG P w K mg base (k + 2) f fd ["script"] (lift K s_) :=
  def_ok Fd sc_law len fun cdv A outer s H E hgd hr => (w_law T hgd hr R__law_box R__law_cell R__law_points R__law_names R__law_take R__law_histories R_picture_at R__law_picture_at M_Works_0).elim fun t v => ⟨t, _, v, ok⟩
theorem r_law {k : Nat} {f : Addr} {fd : FuncData} {s_ : Spd} {s__law_box : Spd} {s__law_cell : Spd} {s__law_points : Spd} {s__law_names : Spd} {s__law_take : Spd} {s__law_histories : Spd} {s_picture_at : Spd} {s__law_picture_at : Spd} {s_Works___init__ : Spd} (T : Txt K mg) (hm : mg "law" = some (.ref f)) (Fd : FunD K "law" "law" (defArgs st_law) (defBody st_law) (defScope st_law) [] [] f fd) (R__law_box : Rdy P w K mg base (k + 1) "_law_box" [] [] s__law_box) (R__law_cell : Rdy P w K mg base (k + 1) "_law_cell" [] [] s__law_cell) (R__law_points : Rdy P w K mg base (k + 1) "_law_points" [] [] s__law_points) (R__law_names : Rdy P w K mg base (k + 1) "_law_names" [] [] s__law_names) (R__law_take : Rdy P w K mg base (k + 1) "_law_take" [] [] s__law_take) (R__law_histories : Rdy P w K mg base (k + 1) "_law_histories" [] [] s__law_histories) (R_picture_at : Rdy P w K mg base (k + 1) "picture_at" [] [] s_picture_at) (R__law_picture_at : Rdy P w K mg base (k + 1) "_law_picture_at" [] [] s__law_picture_at) (M_Works_0 : RdyCK P w K mg base k "Works" (He.ga K "Works") 1 [] (fun vs zs => mix [(0, 0), (0, 1), (1, 0), (1, 1), (1, 2), (1, 3)] vs [.ref (kwAt ("Works", some "__init__") "rules" K), .ref (kwAt ("Works", some "__init__") "causes" K), .ref (kwAt ("Works", some "__init__") "commands" K), .ref (kwAt ("Works", some "__init__") "relations" K)] zs) (fun ds es => mix [(0, 0), (0, 1), (1, 0), (1, 1), (1, 2), (1, 3)] ds [.tup [], .tup [], .tup [], .tup []] es) s_Works___init__)
    (len : ∀ ds S Q E, s_ ds S Q E → ds.length = 1) (ok : BodyOk (d_law K s__law_box s__law_cell s__law_points s__law_names s__law_take s__law_histories s_picture_at s__law_picture_at s_Works___init__) ["script", "k", "box", "points", "works", "ticks", "histories", "handed", "name", "row", "kept", "times", "sign", "turn", "time", "lap", "found"] s_) : Rdy P w K mg base (k + 2) "law" [] [] s_ :=
  rdy_of (g_law T Fd R__law_box R__law_cell R__law_points R__law_names R__law_take R__law_histories R_picture_at R__law_picture_at M_Works_0 len ok) hm Fd.kp (Fd.bindsN fun _ _ _ _ _ _ us hl => match us, hl with | [_], _ => rfl)
theorem sc_Works___init__ : FnScope ["self", "points", "rules", "causes", "commands", "relations"] ["self", "points", "rules", "causes", "commands", "relations"] (defScope st_Works___init__) := ⟨rfl, rfl, rfl, by decide +kernel, rfl, by decide +kernel, by decide +kernel⟩
def d_Works___init__ (K : PySem.W.Frag) (s_Works_take_points : Spd) (s_Works_take_rules : Spd) (s_Works_take_causes : Spd) (s_Works_take_commands : Spd) (s_Works_take_relations : Spd) : TSd := (dSeq (dSetF (He.ga K "Works") "all_points" (dVar 0) dDctM) (dSeq (dSetF (He.ga K "Works") "all_rules" (dVar 0) dDctM) (dSeq (dSetF (He.ga K "Works") "all_causes" (dVar 0) dDctM) (dSeq (dSetF (He.ga K "Works") "all_commands" (dVar 0) dDctM) (dSeq (dSetF (He.ga K "Works") "all_relations" (dVar 0) (dLstM dNil)) (dSeq (dDrop (dMeth (He.ga K "Works") "take_points" s_Works_take_points [] (dVar 0) (dCons (dVar 1) dNil))) (dSeq (dDrop (dMeth (He.ga K "Works") "take_rules" s_Works_take_rules [] (dVar 0) (dCons (dVar 2) dNil))) (dSeq (dDrop (dMeth (He.ga K "Works") "take_causes" s_Works_take_causes [] (dVar 0) (dCons (dVar 3) dNil))) (dSeq (dDrop (dMeth (He.ga K "Works") "take_commands" s_Works_take_commands [] (dVar 0) (dCons (dVar 4) dNil))) (dDrop (dMeth (He.ga K "Works") "take_relations" s_Works_take_relations [] (dVar 0) (dCons (dVar 5) dNil))))))))))))
theorem w_Works___init__ {k : Nat} {f : Addr} {cdv : Value} {A : Around} {outer : List Env} {s : Shared} {H : Hp} {E : XK} {s_Works_take_points : Spd} {s_Works_take_rules : Spd} {s_Works_take_causes : Spd} {s_Works_take_commands : Spd} {s_Works_take_relations : Spd} (T : Txt K mg) (hgd : A.guards = some []) (hr : Room k (A.deeper (envOfC "Works.__init__" (defScope st_Works___init__) s.heap.objs.size f cdv))) (R_Works_take_points : RdyM P w K mg base k (He.ga K "Works") "take_points" [] [] s_Works_take_points) (R_Works_take_rules : RdyM P w K mg base k (He.ga K "Works") "take_rules" [] [] s_Works_take_rules) (R_Works_take_causes : RdyM P w K mg base k (He.ga K "Works") "take_causes" [] [] s_Works_take_causes) (R_Works_take_commands : RdyM P w K mg base k (He.ga K "Works") "take_commands" [] [] s_Works_take_commands) (R_Works_take_relations : RdyM P w K mg base k (He.ga K "Works") "take_relations" [] [] s_Works_take_relations) :
    ∃ t, VSs (cxOf (L2.CX P w) P w K mg base ["self", "points", "rules", "causes", "commands", "relations"] "Works.__init__" (defScope st_Works___init__) f cdv A outer s H E) (wDef E) (defBody st_Works___init__) t (d_Works___init__ K s_Works_take_points s_Works_take_rules s_Works_take_causes s_Works_take_commands s_Works_take_relations) :=
  have hu1 := room1 hr
  have hu64 := hr.units
  have hu66 := room66 hr
  ⟨_, by exact (vss_cons (vs_fld T.C_Works T.a_Works_all_points (ve_v 0) ve_dctM) (vss_cons (vs_fld T.C_Works T.a_Works_all_rules (ve_v 0) ve_dctM) (vss_cons (vs_fld T.C_Works T.a_Works_all_causes (ve_v 0) ve_dctM) (vss_cons (vs_fld T.C_Works T.a_Works_all_commands (ve_v 0) ve_dctM) (vss_cons (vs_fld T.C_Works T.a_Works_all_relations (ve_v 0) (ve_lstM va_nil)) (vss_cons (vs_expr (ve_methR R_Works_take_points T.C_Works hgd hr (takes_of rfl rfl rfl rfl) (ve_v 0) (va_cons (ve_v 1) va_nil))) (vss_cons (vs_expr (ve_methR R_Works_take_rules T.C_Works hgd hr (takes_of rfl rfl rfl rfl) (ve_v 0) (va_cons (ve_v 2) va_nil))) (vss_cons (vs_expr (ve_methR R_Works_take_causes T.C_Works hgd hr (takes_of rfl rfl rfl rfl) (ve_v 0) (va_cons (ve_v 3) va_nil))) (vss_cons (vs_expr (ve_methR R_Works_take_commands T.C_Works hgd hr (takes_of rfl rfl rfl rfl) (ve_v 0) (va_cons (ve_v 4) va_nil))) (vss_one (vs_expr (ve_methR R_Works_take_relations T.C_Works hgd hr (takes_of rfl rfl rfl rfl) (ve_v 0) (va_cons (ve_v 5) va_nil)))))))))))))⟩
/-- what is left to be shown of Works___init__: BodyOk -/
theorem g_Works___init__ {k : Nat} {f : Addr} {fd : FuncData} {s_ : Spd} {s_Works_take_points : Spd} {s_Works_take_rules : Spd} {s_Works_take_causes : Spd} {s_Works_take_commands : Spd} {s_Works_take_relations : Spd} (T : Txt K mg) (Fd : FunD K "__init__" "Works.__init__" (defArgs st_Works___init__) (defBody st_Works___init__) (defScope st_Works___init__) [] [("rules", .ref (kwAt ("Works", some "__init__") "rules" K)), ("causes", .ref (kwAt ("Works", some "__init__") "causes" K)), ("commands", .ref (kwAt ("Works", some "__init__") "commands" K)), ("relations", .ref (kwAt ("Works", some "__init__") "relations" K))] f fd) (R_Works_take_points : RdyM P w K mg base k (He.ga K "Works") "take_points" [] [] s_Works_take_points) (R_Works_take_rules : RdyM P w K mg base k (He.ga K "Works") "take_rules" [] [] s_Works_take_rules) (R_Works_take_causes : RdyM P w K mg base k (He.ga K "Works") "take_causes" [] [] s_Works_take_causes) (R_Works_take_commands : RdyM P w K mg base k (He.ga K "Works") "take_commands" [] [] s_Works_take_commands) (R_Works_take_relations : RdyM P w K mg base k (He.ga K "Works") "take_relations" [] [] s_Works_take_relations)
    (len : ∀ ds S Q E, s_ ds S Q E → ds.length = 6) (ok : BodyOk (d_Works___init__ K s_Works_take_points s_Works_take_rules s_Works_take_causes s_Works_take_commands s_Works_take_relations) ["self", "points", "rules", "causes", "commands", "relations"] s_) : FnG P w K mg base (k + 1) f fd ["self", "points", "rules", "causes", "commands", "relations"] (lift K s_) :=
  def_ok Fd sc_Works___init__ len fun cdv A outer s H E hgd hr => (w_Works___init__ T hgd hr R_Works_take_points R_Works_take_rules R_Works_take_causes R_Works_take_commands R_Works_take_relations).elim fun t v => ⟨t, _, v, ok⟩
theorem rck_Works_0 {k : Nat} {f : Addr} {fd : FuncData} {s_ : Spd} (F : FunD K "__init__" "Works.__init__" (defArgs st_Works___init__) (defBody st_Works___init__) (defScope st_Works___init__) [] [("rules", .ref (kwAt ("Works", some "__init__") "rules" K)), ("causes", .ref (kwAt ("Works", some "__init__") "causes" K)), ("commands", .ref (kwAt ("Works", some "__init__") "commands" K)), ("relations", .ref (kwAt ("Works", some "__init__") "relations" K))] f fd) (G : FnG P w K mg base k f fd ["self", "points", "rules", "causes", "commands", "relations"] (lift K s_)) (hM : Mk K (He.ga K "Works") f) (hm : mg "Works" = some (.ref (He.ga K "Works"))) (rm : ∀ M : Hp, Reps K M [.ref (kwAt ("Works", some "__init__") "rules" K), .ref (kwAt ("Works", some "__init__") "causes" K), .ref (kwAt ("Works", some "__init__") "commands" K), .ref (kwAt ("Works", some "__init__") "relations" K)] [.tup [], .tup [], .tup [], .tup []]) :
    RdyCK P w K mg base k "Works" (He.ga K "Works") 1 [] (fun vs zs => mix [(0, 0), (0, 1), (1, 0), (1, 1), (1, 2), (1, 3)] vs [.ref (kwAt ("Works", some "__init__") "rules" K), .ref (kwAt ("Works", some "__init__") "causes" K), .ref (kwAt ("Works", some "__init__") "commands" K), .ref (kwAt ("Works", some "__init__") "relations" K)] zs) (fun ds es => mix [(0, 0), (0, 1), (1, 0), (1, 1), (1, 2), (1, 3)] ds [.tup [], .tup [], .tup [], .tup []] es) s_ :=
  rdyck_of 1 [] [("rules", .ref (kwAt ("Works", some "__init__") "rules" K)), ("causes", .ref (kwAt ("Works", some "__init__") "causes" K)), ("commands", .ref (kwAt ("Works", some "__init__") "commands" K)), ("relations", .ref (kwAt ("Works", some "__init__") "relations" K))] [.tup [], .tup [], .tup [], .tup []] [(0, 0), (0, 1), (1, 0), (1, 1), (1, 2), (1, 3)] F G hM hm (by simp) (fun q hq => by simp at hq; rcases hq with rfl | rfl | rfl | rfl <;> simp) rm fun Dk doc pm an cdv ct us mv ws h1 h2 h3 => match us, mv, ws, h1, h2, h3 with | [_, _], [_, _, _, _], [], _, _, _ => ⟨_, _, _, _, _, _, rfl, rfl, ⟨_, _, _, _, _, _, rfl, rfl, ⟨_, _, _, _, _, _, rfl, rfl, ⟨_, _, _, _, _, _, rfl, rfl, rfl⟩⟩⟩⟩
theorem sc_Works_take_points : FnScope ["self", "points", "point"] ["self", "points"] (defScope st_Works_take_points) := ⟨rfl, rfl, rfl, by decide +kernel, rfl, by decide +kernel, by decide +kernel⟩
def g_Works_take_points_0 (K : PySem.W.Frag) (s_are_such : Spd) (s_Works_places : Spd) : TGd := (hName 2)
theorem u_g_Works_take_points_0 {s_are_such : Spd} {s_Works_places : Spd} {d : D} {σ : Sd} {S : Sto} {Q : Sd → Sto → Prop} : g_Works_take_points_0 K s_are_such s_Works_places d σ S Q = (hName 2) d σ S Q := rfl
def b_Works_take_points_0 (K : PySem.W.Frag) (s_are_such : Spd) (s_Works_places : Spd) : TSd := (dSeq (dIf (dTest (dOp (dInG id) (dOp dIx (dVar 2) (dC (.int 0))) (dFld (He.ga K "Works") "all_points" (dVar 0)))) dNever dNext) (dSetI (dVar 2) (dFld (He.ga K "Works") "all_points" (dVar 0)) (dOp dIx (dVar 2) (dC (.int 0)))))
theorem u_b_Works_take_points_0 {s_are_such : Spd} {s_Works_places : Spd} {D : EndsD} {σ : Sd} {S : Sto} : b_Works_take_points_0 K s_are_such s_Works_places D σ S = (dSeq (dIf (dTest (dOp (dInG id) (dOp dIx (dVar 2) (dC (.int 0))) (dFld (He.ga K "Works") "all_points" (dVar 0)))) dNever dNext) (dSetI (dVar 2) (dFld (He.ga K "Works") "all_points" (dVar 0)) (dOp dIx (dVar 2) (dC (.int 0))))) D σ S := rfl
def d_Works_take_points (K : PySem.W.Frag) (s_are_such : Spd) (s_Works_places : Spd) : TSd := (dSeq (dIf (dNotT (dTest (dCall s_are_such [] (dCons (dVar 1) (dCons (dC (.int 1)) (dCons (dC (.int 8)) (dCons (dC (.ref (He.ga K "is_point"))) dNil))))))) dNever dNext) (dSeq (dFor (nAny (dVar 1)) (g_Works_take_points_0 K s_are_such s_Works_places) (b_Works_take_points_0 K s_are_such s_Works_places)) (dIf (dTest (dOp dGt (dCB dLen (dCons (dMeth (He.ga K "Works") "places" s_Works_places [] (dVar 0) dNil) dNil)) (dC (.int 3)))) dNever dNext)))
theorem w_Works_take_points {k : Nat} {f : Addr} {cdv : Value} {A : Around} {outer : List Env} {s : Shared} {H : Hp} {E : XK} {s_are_such : Spd} {s_Works_places : Spd} (T : Txt K mg) (hgd : A.guards = some []) (hr : Room k (A.deeper (envOfC "Works.take_points" (defScope st_Works_take_points) s.heap.objs.size f cdv))) (R_are_such : Rdy P w K mg base k "are_such" [] [] s_are_such) (R_Works_places : RdyM P w K mg base k (He.ga K "Works") "places" [] [] s_Works_places) :
    ∃ t, VSs (cxOf (L2.CX P w) P w K mg base ["self", "points", "point"] "Works.take_points" (defScope st_Works_take_points) f cdv A outer s H E) (wDef E) (defBody st_Works_take_points) t (d_Works_take_points K s_are_such s_Works_places) :=
  have hu1 := room1 hr
  have hu64 := hr.units
  have hu66 := room66 hr
  ⟨_, by exact (vss_cons (vs_if (vt_not (vt_val (ve_callR R_are_such hgd hr (takes_of rfl rfl rfl rfl) (va_cons (ve_v 1) (va_cons ve_int (va_cons (ve_gi T.c_MOST_POINTS) (va_cons (ve_go T.f_is_point (fun _ => .ref _)) va_nil))))))) (vss_one vs_never) vss_nil) (vss_cons (vs_for (vs := [2]) (passes_of rfl) rfl (vi_any (ve_v 1)) (vg_n sc_Works_take_points.nd) (vss_cons (vs_if (vt_in hu1 (ve_item hu1 (ve_v 2) ve_int) (ve_fld T.C_Works T.a_Works_all_points (ve_v 0))) (vss_one vs_never) vss_nil) (vss_one (vs_setI hu1 (ve_v 2) (ve_fld T.C_Works T.a_Works_all_points (ve_v 0)) (ve_item hu1 (ve_v 2) ve_int))))) (vss_one (vs_if (vt_gt (ve_cb snd_len call_lenA T.b_len (va_cons (ve_methR0 R_Works_places T.C_Works hgd hr (takes_of rfl rfl rfl rfl) (ve_v 0)) va_nil)) (ve_gi T.c_MOST_PLACES)) (vss_one vs_never) vss_nil))))⟩
/-- what is left to be shown of Works_take_points: BodyOk -/
theorem g_Works_take_points {k : Nat} {f : Addr} {fd : FuncData} {s_ : Spd} {s_are_such : Spd} {s_Works_places : Spd} (T : Txt K mg) (Fd : FunD K "take_points" "Works.take_points" (defArgs st_Works_take_points) (defBody st_Works_take_points) (defScope st_Works_take_points) [] [] f fd) (R_are_such : Rdy P w K mg base k "are_such" [] [] s_are_such) (R_Works_places : RdyM P w K mg base k (He.ga K "Works") "places" [] [] s_Works_places)
    (len : ∀ ds S Q E, s_ ds S Q E → ds.length = 2) (ok : BodyOk (d_Works_take_points K s_are_such s_Works_places) ["self", "points", "point"] s_) : FnG P w K mg base (k + 1) f fd ["self", "points"] (lift K s_) :=
  def_ok Fd sc_Works_take_points len fun cdv A outer s H E hgd hr => (w_Works_take_points T hgd hr R_are_such R_Works_places).elim fun t v => ⟨t, _, v, ok⟩
theorem b_Works_take_points {f : Addr} {fd : FuncData} (Fd : FunD K "take_points" "Works.take_points" (defArgs st_Works_take_points) (defBody st_Works_take_points) (defScope st_Works_take_points) [] [] f fd) : Binds K fd ["self", "points"] [] := Fd.bindsN fun _ _ _ _ _ _ us hl => match us, hl with | [_, _], _ => rfl
theorem sc_Works_take_rules : FnScope ["self", "rules", "rule"] ["self", "rules"] (defScope st_Works_take_rules) := ⟨rfl, rfl, rfl, by decide +kernel, rfl, by decide +kernel, by decide +kernel⟩
def g_Works_take_rules_0 (K : PySem.W.Frag) (s_are_such : Spd) : TGd := (hName 2)
theorem u_g_Works_take_rules_0 {s_are_such : Spd} {d : D} {σ : Sd} {S : Sto} {Q : Sd → Sto → Prop} : g_Works_take_rules_0 K s_are_such d σ S Q = (hName 2) d σ S Q := rfl
def b_Works_take_rules_0 (K : PySem.W.Frag) (s_are_such : Spd) : TSd := dNever
theorem u_b_Works_take_rules_0 {s_are_such : Spd} {D : EndsD} {σ : Sd} {S : Sto} : b_Works_take_rules_0 K s_are_such D σ S = dNever D σ S := rfl
def d_Works_take_rules (K : PySem.W.Frag) (s_are_such : Spd) : TSd := (dSeq (dIf (dNotT (dTest (dCall s_are_such [] (dCons (dVar 1) (dCons (dC (.int 0)) (dCons (dC (.int 6)) (dCons (dC (.ref (He.ga K "is_rule"))) dNil))))))) dNever dNext) (dFor (nAny (dVar 1)) (g_Works_take_rules_0 K s_are_such) (b_Works_take_rules_0 K s_are_such)))
theorem w_Works_take_rules {k : Nat} {f : Addr} {cdv : Value} {A : Around} {outer : List Env} {s : Shared} {H : Hp} {E : XK} {s_are_such : Spd} (T : Txt K mg) (hgd : A.guards = some []) (hr : Room k (A.deeper (envOfC "Works.take_rules" (defScope st_Works_take_rules) s.heap.objs.size f cdv))) (R_are_such : Rdy P w K mg base k "are_such" [] [] s_are_such) :
    ∃ t, VSs (cxOf (L2.CX P w) P w K mg base ["self", "rules", "rule"] "Works.take_rules" (defScope st_Works_take_rules) f cdv A outer s H E) (wDef E) (defBody st_Works_take_rules) t (d_Works_take_rules K s_are_such) :=
  have hu1 := room1 hr
  have hu64 := hr.units
  have hu66 := room66 hr
  ⟨_, by exact (vss_cons (vs_if (vt_not (vt_val (ve_callR R_are_such hgd hr (takes_of rfl rfl rfl rfl) (va_cons (ve_v 1) (va_cons ve_int (va_cons (ve_gi T.c_MOST_RULES) (va_cons (ve_go T.f_is_rule (fun _ => .ref _)) va_nil))))))) (vss_one vs_never) vss_nil) (vss_one (vs_for (vs := [2]) (passes_of rfl) rfl (vi_any (ve_v 1)) (vg_n sc_Works_take_rules.nd) vss_never)))⟩
/-- what is left to be shown of Works_take_rules: BodyOk -/
theorem g_Works_take_rules {k : Nat} {f : Addr} {fd : FuncData} {s_ : Spd} {s_are_such : Spd} (T : Txt K mg) (Fd : FunD K "take_rules" "Works.take_rules" (defArgs st_Works_take_rules) (defBody st_Works_take_rules) (defScope st_Works_take_rules) [] [] f fd) (R_are_such : Rdy P w K mg base k "are_such" [] [] s_are_such)
    (len : ∀ ds S Q E, s_ ds S Q E → ds.length = 2) (ok : BodyOk (d_Works_take_rules K s_are_such) ["self", "rules", "rule"] s_) : FnG P w K mg base (k + 1) f fd ["self", "rules"] (lift K s_) :=
  def_ok Fd sc_Works_take_rules len fun cdv A outer s H E hgd hr => (w_Works_take_rules T hgd hr R_are_such).elim fun t v => ⟨t, _, v, ok⟩
theorem b_Works_take_rules {f : Addr} {fd : FuncData} (Fd : FunD K "take_rules" "Works.take_rules" (defArgs st_Works_take_rules) (defBody st_Works_take_rules) (defScope st_Works_take_rules) [] [] f fd) : Binds K fd ["self", "rules"] [] := Fd.bindsN fun _ _ _ _ _ _ us hl => match us, hl with | [_, _], _ => rfl
theorem sc_Works_take_causes : FnScope ["self", "causes", "cause", "name"] ["self", "causes"] (defScope st_Works_take_causes) := ⟨rfl, rfl, rfl, by decide +kernel, rfl, by decide +kernel, by decide +kernel⟩
def g_Works_take_causes_0 (K : PySem.W.Frag) (s_are_such : Spd) : TGd := (hName 2)
theorem u_g_Works_take_causes_0 {s_are_such : Spd} {d : D} {σ : Sd} {S : Sto} {Q : Sd → Sto → Prop} : g_Works_take_causes_0 K s_are_such d σ S Q = (hName 2) d σ S Q := rfl
def b_Works_take_causes_0 (K : PySem.W.Frag) (s_are_such : Spd) : TSd := dNever
theorem u_b_Works_take_causes_0 {s_are_such : Spd} {D : EndsD} {σ : Sd} {S : Sto} : b_Works_take_causes_0 K s_are_such D σ S = dNever D σ S := rfl
def g_Works_take_causes_1 (K : PySem.W.Frag) (s_are_such : Spd) : TGd := (hName 3)
theorem u_g_Works_take_causes_1 {s_are_such : Spd} {d : D} {σ : Sd} {S : Sto} {Q : Sd → Sto → Prop} : g_Works_take_causes_1 K s_are_such d σ S Q = (hName 3) d σ S Q := rfl
def b_Works_take_causes_1 (K : PySem.W.Frag) (s_are_such : Spd) : TSd := dNever
theorem u_b_Works_take_causes_1 {s_are_such : Spd} {D : EndsD} {σ : Sd} {S : Sto} : b_Works_take_causes_1 K s_are_such D σ S = dNever D σ S := rfl
def d_Works_take_causes (K : PySem.W.Frag) (s_are_such : Spd) : TSd := (dSeq (dIf (dNotT (dTest (dCall s_are_such [] (dCons (dVar 1) (dCons (dC (.int 0)) (dCons (dC (.int 8)) (dCons (dC (.ref (He.ga K "is_cause"))) dNil))))))) dNever dNext) (dSeq (dFor (nAny (dVar 1)) (g_Works_take_causes_0 K s_are_such) (b_Works_take_causes_0 K s_are_such)) (dForD .keys (dFld (He.ga K "Works") "all_rules" (dVar 0)) (g_Works_take_causes_1 K s_are_such) (b_Works_take_causes_1 K s_are_such))))
theorem w_Works_take_causes {k : Nat} {f : Addr} {cdv : Value} {A : Around} {outer : List Env} {s : Shared} {H : Hp} {E : XK} {s_are_such : Spd} (T : Txt K mg) (hgd : A.guards = some []) (hr : Room k (A.deeper (envOfC "Works.take_causes" (defScope st_Works_take_causes) s.heap.objs.size f cdv))) (R_are_such : Rdy P w K mg base k "are_such" [] [] s_are_such) :
    ∃ t, VSs (cxOf (L2.CX P w) P w K mg base ["self", "causes", "cause", "name"] "Works.take_causes" (defScope st_Works_take_causes) f cdv A outer s H E) (wDef E) (defBody st_Works_take_causes) t (d_Works_take_causes K s_are_such) :=
  have hu1 := room1 hr
  have hu64 := hr.units
  have hu66 := room66 hr
  ⟨_, by exact (vss_cons (vs_if (vt_not (vt_val (ve_callR R_are_such hgd hr (takes_of rfl rfl rfl rfl) (va_cons (ve_v 1) (va_cons ve_int (va_cons (ve_gi T.c_MOST_CAUSES) (va_cons (ve_go T.f_is_cause (fun _ => .ref _)) va_nil))))))) (vss_one vs_never) vss_nil) (vss_cons (vs_for (vs := [2]) (passes_of rfl) rfl (vi_any (ve_v 1)) (vg_n sc_Works_take_causes.nd) vss_never) (vss_one (vs_forD (vs := [3]) (passes_of rfl) rfl (vd_keys (ve_fld T.C_Works T.a_Works_all_rules (ve_v 0))) (vg_n sc_Works_take_causes.nd) vss_never))))⟩
/-- what is left to be shown of Works_take_causes: BodyOk -/
theorem g_Works_take_causes {k : Nat} {f : Addr} {fd : FuncData} {s_ : Spd} {s_are_such : Spd} (T : Txt K mg) (Fd : FunD K "take_causes" "Works.take_causes" (defArgs st_Works_take_causes) (defBody st_Works_take_causes) (defScope st_Works_take_causes) [] [] f fd) (R_are_such : Rdy P w K mg base k "are_such" [] [] s_are_such)
    (len : ∀ ds S Q E, s_ ds S Q E → ds.length = 2) (ok : BodyOk (d_Works_take_causes K s_are_such) ["self", "causes", "cause", "name"] s_) : FnG P w K mg base (k + 1) f fd ["self", "causes"] (lift K s_) :=
  def_ok Fd sc_Works_take_causes len fun cdv A outer s H E hgd hr => (w_Works_take_causes T hgd hr R_are_such).elim fun t v => ⟨t, _, v, ok⟩
theorem b_Works_take_causes {f : Addr} {fd : FuncData} (Fd : FunD K "take_causes" "Works.take_causes" (defArgs st_Works_take_causes) (defBody st_Works_take_causes) (defScope st_Works_take_causes) [] [] f fd) : Binds K fd ["self", "causes"] [] := Fd.bindsN fun _ _ _ _ _ _ us hl => match us, hl with | [_, _], _ => rfl
theorem sc_Works_take_commands : FnScope ["self", "commands", "command", "name", "point", "worth", "locks", "place", "lock"] ["self", "commands"] (defScope st_Works_take_commands) := ⟨rfl, rfl, rfl, by decide +kernel, rfl, by decide +kernel, by decide +kernel⟩
def g_Works_take_commands_0 (K : PySem.W.Frag) (s_are_such : Spd) : TGd := (hName 2)
theorem u_g_Works_take_commands_0 {s_are_such : Spd} {d : D} {σ : Sd} {S : Sto} {Q : Sd → Sto → Prop} : g_Works_take_commands_0 K s_are_such d σ S Q = (hName 2) d σ S Q := rfl
def b_Works_take_commands_0 (K : PySem.W.Frag) (s_are_such : Spd) : TSd := dNever
theorem u_b_Works_take_commands_0 {s_are_such : Spd} {D : EndsD} {σ : Sd} {S : Sto} : b_Works_take_commands_0 K s_are_such D σ S = dNever D σ S := rfl
def d_Works_take_commands (K : PySem.W.Frag) (s_are_such : Spd) : TSd := (dSeq (dIf (dNotT (dTest (dCall s_are_such [] (dCons (dVar 1) (dCons (dC (.int 0)) (dCons (dC (.int 4)) (dCons (dC (.ref (He.ga K "is_command"))) dNil))))))) dNever dNext) (dFor (nAny (dVar 1)) (g_Works_take_commands_0 K s_are_such) (b_Works_take_commands_0 K s_are_such)))
theorem w_Works_take_commands {k : Nat} {f : Addr} {cdv : Value} {A : Around} {outer : List Env} {s : Shared} {H : Hp} {E : XK} {s_are_such : Spd} (T : Txt K mg) (hgd : A.guards = some []) (hr : Room k (A.deeper (envOfC "Works.take_commands" (defScope st_Works_take_commands) s.heap.objs.size f cdv))) (R_are_such : Rdy P w K mg base k "are_such" [] [] s_are_such) :
    ∃ t, VSs (cxOf (L2.CX P w) P w K mg base ["self", "commands", "command", "name", "point", "worth", "locks", "place", "lock"] "Works.take_commands" (defScope st_Works_take_commands) f cdv A outer s H E) (wDef E) (defBody st_Works_take_commands) t (d_Works_take_commands K s_are_such) :=
  have hu1 := room1 hr
  have hu64 := hr.units
  have hu66 := room66 hr
  ⟨_, by exact (vss_cons (vs_if (vt_not (vt_val (ve_callR R_are_such hgd hr (takes_of rfl rfl rfl rfl) (va_cons (ve_v 1) (va_cons ve_int (va_cons (ve_gi T.c_MOST_COMMANDS) (va_cons (ve_go T.f_is_command (fun _ => .ref _)) va_nil))))))) (vss_one vs_never) vss_nil) (vss_one (vs_for (vs := [2]) (passes_of rfl) rfl (vi_any (ve_v 1)) (vg_n sc_Works_take_commands.nd) vss_never)))⟩
/-- what is left to be shown of Works_take_commands: BodyOk -/
theorem g_Works_take_commands {k : Nat} {f : Addr} {fd : FuncData} {s_ : Spd} {s_are_such : Spd} (T : Txt K mg) (Fd : FunD K "take_commands" "Works.take_commands" (defArgs st_Works_take_commands) (defBody st_Works_take_commands) (defScope st_Works_take_commands) [] [] f fd) (R_are_such : Rdy P w K mg base k "are_such" [] [] s_are_such)
    (len : ∀ ds S Q E, s_ ds S Q E → ds.length = 2) (ok : BodyOk (d_Works_take_commands K s_are_such) ["self", "commands", "command", "name", "point", "worth", "locks", "place", "lock"] s_) : FnG P w K mg base (k + 1) f fd ["self", "commands"] (lift K s_) :=
  def_ok Fd sc_Works_take_commands len fun cdv A outer s H E hgd hr => (w_Works_take_commands T hgd hr R_are_such).elim fun t v => ⟨t, _, v, ok⟩
theorem b_Works_take_commands {f : Addr} {fd : FuncData} (Fd : FunD K "take_commands" "Works.take_commands" (defArgs st_Works_take_commands) (defBody st_Works_take_commands) (defScope st_Works_take_commands) [] [] f fd) : Binds K fd ["self", "commands"] [] := Fd.bindsN fun _ _ _ _ _ _ us hl => match us, hl with | [_, _], _ => rfl
theorem sc_Works_take_relations : FnScope ["self", "relations", "relation", "names", "name", "at"] ["self", "relations"] (defScope st_Works_take_relations) := ⟨rfl, rfl, rfl, by decide +kernel, rfl, by decide +kernel, by decide +kernel⟩
def g_Works_take_relations_1 (K : PySem.W.Frag) (s_are_such : Spd) (s_names_of : Spd) (s_Works_point : Spd) : TGd := (hName 4)
theorem u_g_Works_take_relations_1 {s_are_such : Spd} {s_names_of : Spd} {s_Works_point : Spd} {d : D} {σ : Sd} {S : Sto} {Q : Sd → Sto → Prop} : g_Works_take_relations_1 K s_are_such s_names_of s_Works_point d σ S Q = (hName 4) d σ S Q := rfl
def b_Works_take_relations_1 (K : PySem.W.Frag) (s_are_such : Spd) (s_names_of : Spd) (s_Works_point : Spd) : TSd := (dDrop (dMeth (He.ga K "Works") "point" s_Works_point [] (dVar 0) (dCons (dVar 4) dNil)))
theorem u_b_Works_take_relations_1 {s_are_such : Spd} {s_names_of : Spd} {s_Works_point : Spd} {D : EndsD} {σ : Sd} {S : Sto} : b_Works_take_relations_1 K s_are_such s_names_of s_Works_point D σ S = (dDrop (dMeth (He.ga K "Works") "point" s_Works_point [] (dVar 0) (dCons (dVar 4) dNil))) D σ S := rfl
def g_Works_take_relations_2 (K : PySem.W.Frag) (s_are_such : Spd) (s_names_of : Spd) (s_Works_point : Spd) : TGd := (hTup 2 (hCons (hName 5) (hCons (hName 4) hNil)))
theorem u_g_Works_take_relations_2 {s_are_such : Spd} {s_names_of : Spd} {s_Works_point : Spd} {d : D} {σ : Sd} {S : Sto} {Q : Sd → Sto → Prop} : g_Works_take_relations_2 K s_are_such s_names_of s_Works_point d σ S Q = (hTup 2 (hCons (hName 5) (hCons (hName 4) hNil))) d σ S Q := rfl
def b_Works_take_relations_2 (K : PySem.W.Frag) (s_are_such : Spd) (s_names_of : Spd) (s_Works_point : Spd) : TSd := (dIf (dTest (dOp (dInG id) (dVar 4) (dSlice (dVar 3) dNoPart (dPart (dVar 5))))) dNever dNext)
theorem u_b_Works_take_relations_2 {s_are_such : Spd} {s_names_of : Spd} {s_Works_point : Spd} {D : EndsD} {σ : Sd} {S : Sto} : b_Works_take_relations_2 K s_are_such s_names_of s_Works_point D σ S = (dIf (dTest (dOp (dInG id) (dVar 4) (dSlice (dVar 3) dNoPart (dPart (dVar 5))))) dNever dNext) D σ S := rfl
def g_Works_take_relations_0 (K : PySem.W.Frag) (s_are_such : Spd) (s_names_of : Spd) (s_Works_point : Spd) : TGd := (hName 2)
theorem u_g_Works_take_relations_0 {s_are_such : Spd} {s_names_of : Spd} {s_Works_point : Spd} {d : D} {σ : Sd} {S : Sto} {Q : Sd → Sto → Prop} : g_Works_take_relations_0 K s_are_such s_names_of s_Works_point d σ S Q = (hName 2) d σ S Q := rfl
def b_Works_take_relations_0 (K : PySem.W.Frag) (s_are_such : Spd) (s_names_of : Spd) (s_Works_point : Spd) : TSd := (dSeq (dAsg (dCall s_names_of [] (dCons (dVar 2) dNil)) (hName 3)) (dSeq (dFor (nAny (dVar 3)) (g_Works_take_relations_1 K s_are_such s_names_of s_Works_point) (b_Works_take_relations_1 K s_are_such s_names_of s_Works_point)) (dSeq (dFor (nEnum (dCons (dVar 3) dNil)) (g_Works_take_relations_2 K s_are_such s_names_of s_Works_point) (b_Works_take_relations_2 K s_are_such s_names_of s_Works_point)) (dSeq (dIf (dAndT (dTest (dOp dEq (dOp dIx (dVar 2) (dC (.int 0))) (dC (.str "gate")))) (dTest (dOp dNe (dOp dIx (dMeth (He.ga K "Works") "point" s_Works_point [] (dVar 0) (dCons (dOp dIx (dVar 2) (dC (.int 2))) dNil)) (dC (.int 2))) (dC (.str "switch"))))) dNever dNext) (dDrop (dAppend (dFld (He.ga K "Works") "all_relations" (dVar 0)) (dCons (dVar 2) dNil)))))))
theorem u_b_Works_take_relations_0 {s_are_such : Spd} {s_names_of : Spd} {s_Works_point : Spd} {D : EndsD} {σ : Sd} {S : Sto} : b_Works_take_relations_0 K s_are_such s_names_of s_Works_point D σ S = (dSeq (dAsg (dCall s_names_of [] (dCons (dVar 2) dNil)) (hName 3)) (dSeq (dFor (nAny (dVar 3)) (g_Works_take_relations_1 K s_are_such s_names_of s_Works_point) (b_Works_take_relations_1 K s_are_such s_names_of s_Works_point)) (dSeq (dFor (nEnum (dCons (dVar 3) dNil)) (g_Works_take_relations_2 K s_are_such s_names_of s_Works_point) (b_Works_take_relations_2 K s_are_such s_names_of s_Works_point)) (dSeq (dIf (dAndT (dTest (dOp dEq (dOp dIx (dVar 2) (dC (.int 0))) (dC (.str "gate")))) (dTest (dOp dNe (dOp dIx (dMeth (He.ga K "Works") "point" s_Works_point [] (dVar 0) (dCons (dOp dIx (dVar 2) (dC (.int 2))) dNil)) (dC (.int 2))) (dC (.str "switch"))))) dNever dNext) (dDrop (dAppend (dFld (He.ga K "Works") "all_relations" (dVar 0)) (dCons (dVar 2) dNil))))))) D σ S := rfl
def d_Works_take_relations (K : PySem.W.Frag) (s_are_such : Spd) (s_names_of : Spd) (s_Works_point : Spd) : TSd := (dSeq (dIf (dNotT (dTest (dCall s_are_such [] (dCons (dVar 1) (dCons (dC (.int 0)) (dCons (dC (.int 5)) (dCons (dC (.ref (He.ga K "is_relation"))) dNil))))))) dNever dNext) (dFor (nAny (dVar 1)) (g_Works_take_relations_0 K s_are_such s_names_of s_Works_point) (b_Works_take_relations_0 K s_are_such s_names_of s_Works_point)))
theorem w_Works_take_relations {k : Nat} {f : Addr} {cdv : Value} {A : Around} {outer : List Env} {s : Shared} {H : Hp} {E : XK} {s_are_such : Spd} {s_names_of : Spd} {s_Works_point : Spd} (T : Txt K mg) (hgd : A.guards = some []) (hr : Room k (A.deeper (envOfC "Works.take_relations" (defScope st_Works_take_relations) s.heap.objs.size f cdv))) (R_are_such : Rdy P w K mg base k "are_such" [] [] s_are_such) (R_names_of : Rdy P w K mg base k "names_of" [] [] s_names_of) (R_Works_point : RdyM P w K mg base k (He.ga K "Works") "point" [] [] s_Works_point) :
    ∃ t, VSs (cxOf (L2.CX P w) P w K mg base ["self", "relations", "relation", "names", "name", "at"] "Works.take_relations" (defScope st_Works_take_relations) f cdv A outer s H E) (wDef E) (defBody st_Works_take_relations) t (d_Works_take_relations K s_are_such s_names_of s_Works_point) :=
  have hu1 := room1 hr
  have hu64 := hr.units
  have hu66 := room66 hr
  ⟨_, by exact (vss_cons (vs_if (vt_not (vt_val (ve_callR R_are_such hgd hr (takes_of rfl rfl rfl rfl) (va_cons (ve_v 1) (va_cons ve_int (va_cons (ve_gi T.c_MOST_RELATIONS) (va_cons (ve_go T.f_is_relation (fun _ => .ref _)) va_nil))))))) (vss_one vs_never) vss_nil) (vss_one (vs_for (vs := [2]) (passes_of rfl) rfl (vi_any (ve_v 1)) (vg_n sc_Works_take_relations.nd) (vss_cons (vs_name sc_Works_take_relations.nd (ve_callR R_names_of hgd hr (takes_of rfl rfl rfl rfl) (va_cons (ve_v 2) va_nil))) (vss_cons (vs_for (vs := [4]) (passes_of rfl) rfl (vi_any (ve_v 3)) (vg_n sc_Works_take_relations.nd) (vss_one (vs_expr (ve_methR R_Works_point T.C_Works hgd hr (takes_of rfl rfl rfl rfl) (ve_v 0) (va_cons (ve_v 4) va_nil))))) (vss_cons (vs_for (vs := [5, 4]) (passes_of rfl) rfl (vi_enum T.b_enumerate (va_cons (ve_v 3) va_nil)) (vg_tup rfl (vgs_cons (vg_n sc_Works_take_relations.nd) (vgs_cons (vg_n sc_Works_take_relations.nd) vgs_nil))) (vss_one (vs_if (vt_in hu1 (ve_v 4) (ve_slice (ve_v 3) vo_none (vo_some (ve_v 5)))) (vss_one vs_never) vss_nil))) (vss_cons (vs_if (vt_w (vw_and (vt_eq hu64 (ve_item hu1 (ve_v 2) ve_int) ve_str) (vw_and1 (vt_ne hu64 (ve_item hu1 (ve_methR R_Works_point T.C_Works hgd hr (takes_of rfl rfl rfl rfl) (ve_v 0) (va_cons (ve_item hu1 (ve_v 2) ve_int) va_nil)) ve_int) ve_str)))) (vss_one vs_never) vss_nil) (vss_one (vs_expr (ve_app (ve_fld T.C_Works T.a_Works_all_relations (ve_v 0)) (va_cons (ve_v 2) va_nil)))))))))))⟩
/-- what is left to be shown of Works_take_relations: BodyOk -/
theorem g_Works_take_relations {k : Nat} {f : Addr} {fd : FuncData} {s_ : Spd} {s_are_such : Spd} {s_names_of : Spd} {s_Works_point : Spd} (T : Txt K mg) (Fd : FunD K "take_relations" "Works.take_relations" (defArgs st_Works_take_relations) (defBody st_Works_take_relations) (defScope st_Works_take_relations) [] [] f fd) (R_are_such : Rdy P w K mg base k "are_such" [] [] s_are_such) (R_names_of : Rdy P w K mg base k "names_of" [] [] s_names_of) (R_Works_point : RdyM P w K mg base k (He.ga K "Works") "point" [] [] s_Works_point)
    (len : ∀ ds S Q E, s_ ds S Q E → ds.length = 2) (ok : BodyOk (d_Works_take_relations K s_are_such s_names_of s_Works_point) ["self", "relations", "relation", "names", "name", "at"] s_) : FnG P w K mg base (k + 1) f fd ["self", "relations"] (lift K s_) :=
  def_ok Fd sc_Works_take_relations len fun cdv A outer s H E hgd hr => (w_Works_take_relations T hgd hr R_are_such R_names_of R_Works_point).elim fun t v => ⟨t, _, v, ok⟩
theorem b_Works_take_relations {f : Addr} {fd : FuncData} (Fd : FunD K "take_relations" "Works.take_relations" (defArgs st_Works_take_relations) (defBody st_Works_take_relations) (defScope st_Works_take_relations) [] [] f fd) : Binds K fd ["self", "relations"] [] := Fd.bindsN fun _ _ _ _ _ _ us hl => match us, hl with | [_, _], _ => rfl
theorem sc_Works_points : FnScope ["self"] ["self"] (defScope st_Works_points) := ⟨rfl, rfl, rfl, by decide +kernel, rfl, by decide +kernel, by decide +kernel⟩
def d_Works_points (K : PySem.W.Frag) : TSd := (dRet (dListVals (dFld (He.ga K "Works") "all_points" (dVar 0))))
theorem w_Works_points {k : Nat} {f : Addr} {cdv : Value} {A : Around} {outer : List Env} {s : Shared} {H : Hp} {E : XK} (T : Txt K mg) (hgd : A.guards = some []) (hr : Room k (A.deeper (envOfC "Works.points" (defScope st_Works_points) s.heap.objs.size f cdv))) :
    ∃ t, VSs (cxOf (L2.CX P w) P w K mg base ["self"] "Works.points" (defScope st_Works_points) f cdv A outer s H E) (wDef E) (defBody st_Works_points) t (d_Works_points K) :=
  have hu1 := room1 hr
  have hu64 := hr.units
  have hu66 := room66 hr
  ⟨_, by exact (vss_one (vs_ret (ve_listVals rfl T.b_list (ve_fld T.C_Works T.a_Works_all_points (ve_v 0)))))⟩
/-- what is left to be shown of Works_points: BodyOk -/
theorem g_Works_points {k : Nat} {f : Addr} {fd : FuncData} {s_ : Spd} (T : Txt K mg) (Fd : FunD K "points" "Works.points" (defArgs st_Works_points) (defBody st_Works_points) (defScope st_Works_points) [] [] f fd)
    (len : ∀ ds S Q E, s_ ds S Q E → ds.length = 1) (ok : BodyOk (d_Works_points K) ["self"] s_) : FnG P w K mg base (k + 1) f fd ["self"] (lift K s_) :=
  def_ok Fd sc_Works_points len fun cdv A outer s H E hgd hr => (w_Works_points T hgd hr ).elim fun t v => ⟨t, _, v, ok⟩
theorem b_Works_points {f : Addr} {fd : FuncData} (Fd : FunD K "points" "Works.points" (defArgs st_Works_points) (defBody st_Works_points) (defScope st_Works_points) [] [] f fd) : Binds K fd ["self"] [] := Fd.bindsN fun _ _ _ _ _ _ us hl => match us, hl with | [_], _ => rfl
theorem sc_Works_places : FnScope ["self", "point"] ["self"] (defScope st_Works_places) := ⟨rfl, rfl, rfl, by decide +kernel, rfl, by decide +kernel, by decide +kernel⟩
def d_Works_places (K : PySem.W.Frag) : TSd := (dRet (dSortSet (dLcD .vals (dFld (He.ga K "Works") "all_points" (dVar 0)) (hName 1) dYes (dOp dIx (dVar 1) (dC (.int 1))) [1])))
theorem w_Works_places {k : Nat} {f : Addr} {cdv : Value} {A : Around} {outer : List Env} {s : Shared} {H : Hp} {E : XK} (T : Txt K mg) (hgd : A.guards = some []) (hr : Room k (A.deeper (envOfC "Works.places" (defScope st_Works_places) s.heap.objs.size f cdv))) :
    ∃ t, VSs (cxOf (L2.CX P w) P w K mg base ["self", "point"] "Works.places" (defScope st_Works_places) f cdv A outer s H E) (wDef E) (defBody st_Works_places) t (d_Works_places K) :=
  have hu1 := room1 hr
  have hu64 := hr.units
  have hu66 := room66 hr
  ⟨_, by exact (vss_one (vs_ret (ve_sortSet rfl T.b_sorted T.b_set (ve_lcD (own := [("point", 1)]) rfl sc_Works_places.nd (vd_vals (ve_fld T.C_Works T.a_Works_all_points (ve_v 0))) (blkOk_by (N := ["self", "point"]) (sc := defScope st_Works_places) (own := [("point", 1)]) (by decide +kernel)) (fun _ _ _ _ _ => ⟨_, (vg_n sc_Works_places.nd)⟩) (fun _ _ _ _ _ => ⟨_, vts_nil⟩) (fun _ _ _ _ _ => ⟨_, (ve_item hu1 (ve_v 1) ve_int)⟩)))))⟩
/-- what is left to be shown of Works_places: BodyOk -/
theorem g_Works_places {k : Nat} {f : Addr} {fd : FuncData} {s_ : Spd} (T : Txt K mg) (Fd : FunD K "places" "Works.places" (defArgs st_Works_places) (defBody st_Works_places) (defScope st_Works_places) [] [] f fd)
    (len : ∀ ds S Q E, s_ ds S Q E → ds.length = 1) (ok : BodyOk (d_Works_places K) ["self", "point"] s_) : FnG P w K mg base (k + 1) f fd ["self"] (lift K s_) :=
  def_ok Fd sc_Works_places len fun cdv A outer s H E hgd hr => (w_Works_places T hgd hr ).elim fun t v => ⟨t, _, v, ok⟩
theorem b_Works_places {f : Addr} {fd : FuncData} (Fd : FunD K "places" "Works.places" (defArgs st_Works_places) (defBody st_Works_places) (defScope st_Works_places) [] [] f fd) : Binds K fd ["self"] [] := Fd.bindsN fun _ _ _ _ _ _ us hl => match us, hl with | [_], _ => rfl
theorem sc_Works_has_point : FnScope ["self", "thing"] ["self", "thing"] (defScope st_Works_has_point) := ⟨rfl, rfl, rfl, by decide +kernel, rfl, by decide +kernel, by decide +kernel⟩
def d_Works_has_point (K : PySem.W.Frag) : TSd := (dRet (dAndV (dCB dIsi (dCons (dVar 1) (dCons (dC (.ty "str")) dNil))) (dOp (dInG id) (dVar 1) (dFld (He.ga K "Works") "all_points" (dVar 0)))))
theorem w_Works_has_point {k : Nat} {f : Addr} {cdv : Value} {A : Around} {outer : List Env} {s : Shared} {H : Hp} {E : XK} (T : Txt K mg) (hgd : A.guards = some []) (hr : Room k (A.deeper (envOfC "Works.has_point" (defScope st_Works_has_point) s.heap.objs.size f cdv))) :
    ∃ t, VSs (cxOf (L2.CX P w) P w K mg base ["self", "thing"] "Works.has_point" (defScope st_Works_has_point) f cdv A outer s H E) (wDef E) (defBody st_Works_has_point) t (d_Works_has_point K) :=
  have hu1 := room1 hr
  have hu64 := hr.units
  have hu66 := room66 hr
  ⟨_, by exact (vss_one (vs_ret (ve_and (ve_cb snd_isi call_isA T.b_isinstance (va_cons (ve_v 1) (va_cons (ve_ty T.b_str VL.boot_str) va_nil))) (ve_one (ve_in hu1 (ve_v 1) (ve_fld T.C_Works T.a_Works_all_points (ve_v 0)))))))⟩
/-- what is left to be shown of Works_has_point: BodyOk -/
theorem g_Works_has_point {k : Nat} {f : Addr} {fd : FuncData} {s_ : Spd} (T : Txt K mg) (Fd : FunD K "has_point" "Works.has_point" (defArgs st_Works_has_point) (defBody st_Works_has_point) (defScope st_Works_has_point) [] [] f fd)
    (len : ∀ ds S Q E, s_ ds S Q E → ds.length = 2) (ok : BodyOk (d_Works_has_point K) ["self", "thing"] s_) : FnG P w K mg base (k + 1) f fd ["self", "thing"] (lift K s_) :=
  def_ok Fd sc_Works_has_point len fun cdv A outer s H E hgd hr => (w_Works_has_point T hgd hr ).elim fun t v => ⟨t, _, v, ok⟩
theorem b_Works_has_point {f : Addr} {fd : FuncData} (Fd : FunD K "has_point" "Works.has_point" (defArgs st_Works_has_point) (defBody st_Works_has_point) (defScope st_Works_has_point) [] [] f fd) : Binds K fd ["self", "thing"] [] := Fd.bindsN fun _ _ _ _ _ _ us hl => match us, hl with | [_, _], _ => rfl
theorem sc_Works_point : FnScope ["self", "name"] ["self", "name"] (defScope st_Works_point) := ⟨rfl, rfl, rfl, by decide +kernel, rfl, by decide +kernel, by decide +kernel⟩
def d_Works_point (K : PySem.W.Frag) (s_Works_has_point : Spd) : TSd := (dSeq (dIf (dNotT (dTest (dMeth (He.ga K "Works") "has_point" s_Works_has_point [] (dVar 0) (dCons (dVar 1) dNil)))) dNever dNext) (dRet (dOp dIx (dFld (He.ga K "Works") "all_points" (dVar 0)) (dVar 1))))
theorem w_Works_point {k : Nat} {f : Addr} {cdv : Value} {A : Around} {outer : List Env} {s : Shared} {H : Hp} {E : XK} {s_Works_has_point : Spd} (T : Txt K mg) (hgd : A.guards = some []) (hr : Room k (A.deeper (envOfC "Works.point" (defScope st_Works_point) s.heap.objs.size f cdv))) (R_Works_has_point : RdyM P w K mg base k (He.ga K "Works") "has_point" [] [] s_Works_has_point) :
    ∃ t, VSs (cxOf (L2.CX P w) P w K mg base ["self", "name"] "Works.point" (defScope st_Works_point) f cdv A outer s H E) (wDef E) (defBody st_Works_point) t (d_Works_point K s_Works_has_point) :=
  have hu1 := room1 hr
  have hu64 := hr.units
  have hu66 := room66 hr
  ⟨_, by exact (vss_cons (vs_if (vt_not (vt_val (ve_methR R_Works_has_point T.C_Works hgd hr (takes_of rfl rfl rfl rfl) (ve_v 0) (va_cons (ve_v 1) va_nil)))) (vss_one vs_never) vss_nil) (vss_one (vs_ret (ve_item hu1 (ve_fld T.C_Works T.a_Works_all_points (ve_v 0)) (ve_v 1)))))⟩
/-- what is left to be shown of Works_point: BodyOk -/
theorem g_Works_point {k : Nat} {f : Addr} {fd : FuncData} {s_ : Spd} {s_Works_has_point : Spd} (T : Txt K mg) (Fd : FunD K "point" "Works.point" (defArgs st_Works_point) (defBody st_Works_point) (defScope st_Works_point) [] [] f fd) (R_Works_has_point : RdyM P w K mg base k (He.ga K "Works") "has_point" [] [] s_Works_has_point)
    (len : ∀ ds S Q E, s_ ds S Q E → ds.length = 2) (ok : BodyOk (d_Works_point K s_Works_has_point) ["self", "name"] s_) : FnG P w K mg base (k + 1) f fd ["self", "name"] (lift K s_) :=
  def_ok Fd sc_Works_point len fun cdv A outer s H E hgd hr => (w_Works_point T hgd hr R_Works_has_point).elim fun t v => ⟨t, _, v, ok⟩
theorem b_Works_point {f : Addr} {fd : FuncData} (Fd : FunD K "point" "Works.point" (defArgs st_Works_point) (defBody st_Works_point) (defScope st_Works_point) [] [] f fd) : Binds K fd ["self", "name"] [] := Fd.bindsN fun _ _ _ _ _ _ us hl => match us, hl with | [_, _], _ => rfl
theorem sc_Works_is_worth : FnScope ["self", "point", "thing", "most"] ["self", "point", "thing"] (defScope st_Works_is_worth) := ⟨rfl, rfl, rfl, by decide +kernel, rfl, by decide +kernel, by decide +kernel⟩
def d_Works_is_worth (K : PySem.W.Frag) (s_is_whole : Spd) (s_Works_point : Spd) : TSd := (dSeq (dAsg (dIfE (dTest (dOp dEq (dOp dIx (dMeth (He.ga K "Works") "point" s_Works_point [] (dVar 0) (dCons (dVar 1) dNil)) (dC (.int 2))) (dC (.str "level")))) (dC (.int 63)) (dC (.int 1))) (hName 3)) (dRet (dCall s_is_whole [] (dCons (dVar 2) (dCons (dC (.int 0)) (dCons (dVar 3) dNil))))))
theorem w_Works_is_worth {k : Nat} {f : Addr} {cdv : Value} {A : Around} {outer : List Env} {s : Shared} {H : Hp} {E : XK} {s_is_whole : Spd} {s_Works_point : Spd} (T : Txt K mg) (hgd : A.guards = some []) (hr : Room k (A.deeper (envOfC "Works.is_worth" (defScope st_Works_is_worth) s.heap.objs.size f cdv))) (R_is_whole : Rdy P w K mg base k "is_whole" [] [] s_is_whole) (R_Works_point : RdyM P w K mg base k (He.ga K "Works") "point" [] [] s_Works_point) :
    ∃ t, VSs (cxOf (L2.CX P w) P w K mg base ["self", "point", "thing", "most"] "Works.is_worth" (defScope st_Works_is_worth) f cdv A outer s H E) (wDef E) (defBody st_Works_is_worth) t (d_Works_is_worth K s_is_whole s_Works_point) :=
  have hu1 := room1 hr
  have hu64 := hr.units
  have hu66 := room66 hr
  ⟨_, by exact (vss_cons (vs_name sc_Works_is_worth.nd (ve_ifE (vt_eq hu64 (ve_item hu1 (ve_methR R_Works_point T.C_Works hgd hr (takes_of rfl rfl rfl rfl) (ve_v 0) (va_cons (ve_v 1) va_nil)) ve_int) ve_str) (ve_gi T.c_MOST_LEVEL) ve_int)) (vss_one (vs_ret (ve_callR R_is_whole hgd hr (takes_of rfl rfl rfl rfl) (va_cons (ve_v 2) (va_cons ve_int (va_cons (ve_v 3) va_nil)))))))⟩
/-- what is left to be shown of Works_is_worth: BodyOk -/
theorem g_Works_is_worth {k : Nat} {f : Addr} {fd : FuncData} {s_ : Spd} {s_is_whole : Spd} {s_Works_point : Spd} (T : Txt K mg) (Fd : FunD K "is_worth" "Works.is_worth" (defArgs st_Works_is_worth) (defBody st_Works_is_worth) (defScope st_Works_is_worth) [] [] f fd) (R_is_whole : Rdy P w K mg base k "is_whole" [] [] s_is_whole) (R_Works_point : RdyM P w K mg base k (He.ga K "Works") "point" [] [] s_Works_point)
    (len : ∀ ds S Q E, s_ ds S Q E → ds.length = 3) (ok : BodyOk (d_Works_is_worth K s_is_whole s_Works_point) ["self", "point", "thing", "most"] s_) : FnG P w K mg base (k + 1) f fd ["self", "point", "thing"] (lift K s_) :=
  def_ok Fd sc_Works_is_worth len fun cdv A outer s H E hgd hr => (w_Works_is_worth T hgd hr R_is_whole R_Works_point).elim fun t v => ⟨t, _, v, ok⟩
theorem b_Works_is_worth {f : Addr} {fd : FuncData} (Fd : FunD K "is_worth" "Works.is_worth" (defArgs st_Works_is_worth) (defBody st_Works_is_worth) (defScope st_Works_is_worth) [] [] f fd) : Binds K fd ["self", "point", "thing"] [] := Fd.bindsN fun _ _ _ _ _ _ us hl => match us, hl with | [_, _, _], _ => rfl
end K48

namespace K48
open PySem PySem.Spec PyProof.Rows L2 VL
def df0 : He.DefD := ⟨("Works", some "has_point"), "has_point", "Works.has_point", defArgs st_Works_has_point, defBody st_Works_has_point, defScope st_Works_has_point, [], []⟩
def df1 : He.DefD := ⟨("Works", some "places"), "places", "Works.places", defArgs st_Works_places, defBody st_Works_places, defScope st_Works_places, [], []⟩
def df2 : He.DefD := ⟨("Works", some "points"), "points", "Works.points", defArgs st_Works_points, defBody st_Works_points, defScope st_Works_points, [], []⟩
def df3 : He.DefD := ⟨("_law_box", none), "_law_box", "_law_box", defArgs st__law_box, defBody st__law_box, defScope st__law_box, [], []⟩
def df4 : He.DefD := ⟨("_law_cell", none), "_law_cell", "_law_cell", defArgs st__law_cell, defBody st__law_cell, defScope st__law_cell, [], []⟩
def df5 : He.DefD := ⟨("_law_picture_at", none), "_law_picture_at", "_law_picture_at", defArgs st__law_picture_at, defBody st__law_picture_at, defScope st__law_picture_at, [], []⟩
def df6 : He.DefD := ⟨("_law_take", none), "_law_take", "_law_take", defArgs st__law_take, defBody st__law_take, defScope st__law_take, [], []⟩
def df7 : He.DefD := ⟨("is_mark", none), "is_mark", "is_mark", defArgs st_is_mark, defBody st_is_mark, defScope st_is_mark, [], []⟩
def df8 : He.DefD := ⟨("is_name", none), "is_name", "is_name", defArgs st_is_name, defBody st_is_name, defScope st_is_name, [], []⟩
def df9 : He.DefD := ⟨("is_whole", none), "is_whole", "is_whole", defArgs st_is_whole, defBody st_is_whole, defScope st_is_whole, [], []⟩
def df10 : He.DefD := ⟨("is_word", none), "is_word", "is_word", defArgs st_is_word, defBody st_is_word, defScope st_is_word, [], []⟩
def df11 : He.DefD := ⟨("names_of", none), "names_of", "names_of", defArgs st_names_of, defBody st_names_of, defScope st_names_of, [], []⟩
def df12 : He.DefD := ⟨("need_works", none), "need_works", "need_works", defArgs st_need_works, defBody st_need_works, defScope st_need_works, [], []⟩
def df13 : He.DefD := ⟨("worth_at", none), "worth_at", "worth_at", defArgs st_worth_at, defBody st_worth_at, defScope st_worth_at, [], []⟩
def df14 : He.DefD := ⟨("Works", some "point"), "point", "Works.point", defArgs st_Works_point, defBody st_Works_point, defScope st_Works_point, [], []⟩
def df15 : He.DefD := ⟨("_law_history", none), "_law_history", "_law_history", defArgs st__law_history, defBody st__law_history, defScope st__law_history, [], []⟩
def df16 : He.DefD := ⟨("_law_mixed", none), "_law_mixed", "_law_mixed", defArgs st__law_mixed, defBody st__law_mixed, defScope st__law_mixed, [], []⟩
def df17 : He.DefD := ⟨("_law_names", none), "_law_names", "_law_names", defArgs st__law_names, defBody st__law_names, defScope st__law_names, [], []⟩
def df18 : He.DefD := ⟨("_law_points", none), "_law_points", "_law_points", defArgs st__law_points, defBody st__law_points, defScope st__law_points, [], []⟩
def df19 : He.DefD := ⟨("is_cause", none), "is_cause", "is_cause", defArgs st_is_cause, defBody st_is_cause, defScope st_is_cause, [], []⟩
def df20 : He.DefD := ⟨("is_lock", none), "is_lock", "is_lock", defArgs st_is_lock, defBody st_is_lock, defScope st_is_lock, [], []⟩
def df21 : He.DefD := ⟨("is_point", none), "is_point", "is_point", defArgs st_is_point, defBody st_is_point, defScope st_is_point, [], []⟩
def df22 : He.DefD := ⟨("is_relation", none), "is_relation", "is_relation", defArgs st_is_relation, defBody st_is_relation, defScope st_is_relation, [], []⟩
def df23 : He.DefD := ⟨("is_rule", none), "is_rule", "is_rule", defArgs st_is_rule, defBody st_is_rule, defScope st_is_rule, [], []⟩
def df24 : He.DefD := ⟨("is_time", none), "is_time", "is_time", defArgs st_is_time, defBody st_is_time, defScope st_is_time, [], []⟩
def df25 : He.DefD := ⟨("Works", some "is_worth"), "is_worth", "Works.is_worth", defArgs st_Works_is_worth, defBody st_Works_is_worth, defScope st_Works_is_worth, [], []⟩
def df26 : He.DefD := ⟨("_law_histories", none), "_law_histories", "_law_histories", defArgs st__law_histories, defBody st__law_histories, defScope st__law_histories, [], []⟩
def df27 : He.DefD := ⟨("is_command", none), "is_command", "is_command", defArgs st_is_command, defBody st_is_command, defScope st_is_command, [], []⟩
def df28 : He.DefD := ⟨("is_sign", none), "is_sign", "is_sign", defArgs st_is_sign, defBody st_is_sign, defScope st_is_sign, [], []⟩
def df29 : He.DefD := ⟨("need_time", none), "need_time", "need_time", defArgs st_need_time, defBody st_need_time, defScope st_need_time, [], []⟩
def df30 : He.DefD := ⟨("are_such", none), "are_such", "are_such", defArgs st_are_such, defBody st_are_such, defScope st_are_such, [], []⟩
def df31 : He.DefD := ⟨("need_history", none), "need_history", "need_history", defArgs st_need_history, defBody st_need_history, defScope st_need_history, [], []⟩
def df32 : He.DefD := ⟨("Works", some "take_causes"), "take_causes", "Works.take_causes", defArgs st_Works_take_causes, defBody st_Works_take_causes, defScope st_Works_take_causes, [], []⟩
def df33 : He.DefD := ⟨("Works", some "take_commands"), "take_commands", "Works.take_commands", defArgs st_Works_take_commands, defBody st_Works_take_commands, defScope st_Works_take_commands, [], []⟩
def df34 : He.DefD := ⟨("Works", some "take_points"), "take_points", "Works.take_points", defArgs st_Works_take_points, defBody st_Works_take_points, defScope st_Works_take_points, [], []⟩
def df35 : He.DefD := ⟨("Works", some "take_relations"), "take_relations", "Works.take_relations", defArgs st_Works_take_relations, defBody st_Works_take_relations, defScope st_Works_take_relations, [], []⟩
def df36 : He.DefD := ⟨("Works", some "take_rules"), "take_rules", "Works.take_rules", defArgs st_Works_take_rules, defBody st_Works_take_rules, defScope st_Works_take_rules, [], []⟩
def df37 : He.DefD := ⟨("need_histories", none), "need_histories", "need_histories", defArgs st_need_histories, defBody st_need_histories, defScope st_need_histories, [], []⟩
def df38 : He.DefD := ⟨("Works", some "__init__"), "__init__", "Works.__init__", defArgs st_Works___init__, defBody st_Works___init__, defScope st_Works___init__, [], [("rules", .adr (kwAt ("Works", some "__init__") "rules")), ("causes", .adr (kwAt ("Works", some "__init__") "causes")), ("commands", .adr (kwAt ("Works", some "__init__") "commands")), ("relations", .adr (kwAt ("Works", some "__init__") "relations"))]⟩
def df39 : He.DefD := ⟨("picture_at", none), "picture_at", "picture_at", defArgs st_picture_at, defBody st_picture_at, defScope st_picture_at, [], []⟩
def df40 : He.DefD := ⟨("law", none), "law", "law", defArgs st_law, defBody st_law, defScope st_law, [], []⟩
def fn : List He.DefD := [df0, df1, df2, df3, df4, df5, df6, df7, df8, df9, df10, df11, df12, df13, df14, df15, df16, df17, df18, df19, df20, df21, df22, df23, df24, df25, df26, df27, df28, df29, df30, df31, df32, df33, df34, df35, df36, df37, df38, df39, df40]
def exs : List (PySem.W.Frag → Bool) := [fun K => (He.Fa.meth "Works" "has_point").ok K,
  fun K => (He.Fa.meth "Works" "places").ok K,
  fun K => (He.Fa.meth "Works" "points").ok K,
  fun K => (He.Fa.glo "_law_box").ok K,
  fun K => (He.Fa.glo "_law_cell").ok K,
  fun K => (He.Fa.glo "_law_picture_at").ok K,
  fun K => (He.Fa.glo "_law_take").ok K,
  fun K => (He.Fa.glo "is_mark").ok K,
  fun K => (He.Fa.glo "is_name").ok K,
  fun K => (He.Fa.glo "is_whole").ok K,
  fun K => (He.Fa.glo "is_word").ok K,
  fun K => (He.Fa.glo "names_of").ok K,
  fun K => (He.Fa.glo "need_works").ok K,
  fun K => (He.Fa.glo "worth_at").ok K,
  fun K => (He.Fa.meth "Works" "point").ok K,
  fun K => (He.Fa.glo "_law_history").ok K,
  fun K => (He.Fa.glo "_law_mixed").ok K,
  fun K => (He.Fa.glo "_law_names").ok K,
  fun K => (He.Fa.glo "_law_points").ok K,
  fun K => (He.Fa.glo "is_cause").ok K,
  fun K => (He.Fa.glo "is_lock").ok K,
  fun K => (He.Fa.glo "is_point").ok K,
  fun K => (He.Fa.glo "is_relation").ok K,
  fun K => (He.Fa.glo "is_rule").ok K,
  fun K => (He.Fa.glo "is_time").ok K,
  fun K => (He.Fa.meth "Works" "is_worth").ok K,
  fun K => (He.Fa.glo "_law_histories").ok K,
  fun K => (He.Fa.glo "is_command").ok K,
  fun K => (He.Fa.glo "is_sign").ok K,
  fun K => (He.Fa.glo "need_time").ok K,
  fun K => (He.Fa.glo "are_such").ok K,
  fun K => (He.Fa.glo "need_history").ok K,
  fun K => (He.Fa.meth "Works" "take_causes").ok K,
  fun K => (He.Fa.meth "Works" "take_commands").ok K,
  fun K => (He.Fa.meth "Works" "take_points").ok K,
  fun K => (He.Fa.meth "Works" "take_relations").ok K,
  fun K => (He.Fa.meth "Works" "take_rules").ok K,
  fun K => (He.Fa.glo "need_histories").ok K,
  fun K => (He.Fa.mkr "Works").ok K,
  fun K => (He.Fa.glo "picture_at").ok K,
  fun K => (He.Fa.glo "law").ok K,
  fun K => (He.Fa.cls "Works").ok K,
  fun K => (He.Fa.glo "Works").ok K,
  fun K => (He.Fa.noat "Works" "all_causes").ok K,
  fun K => (He.Fa.noat "Works" "all_commands").ok K,
  fun K => (He.Fa.noat "Works" "all_points").ok K,
  fun K => (He.Fa.noat "Works" "all_relations").ok K,
  fun K => (He.Fa.noat "Works" "all_rules").ok K,
  fun K => eqB "Works" K,
  fun K => tup0 K (kwAt ("Works", some "__init__") "rules" K),
  fun K => tup0 K (kwAt ("Works", some "__init__") "causes" K),
  fun K => tup0 K (kwAt ("Works", some "__init__") "commands" K),
  fun K => tup0 K (kwAt ("Works", some "__init__") "relations" K),
  fun K => (He.Fa.free "all").ok K,
  fun K => (He.Fa.free "bool").ok K,
  fun K => (He.Fa.free "dict").ok K,
  fun K => (He.Fa.free "enumerate").ok K,
  fun K => (He.Fa.free "int").ok K,
  fun K => (He.Fa.free "isinstance").ok K,
  fun K => (He.Fa.free "len").ok K,
  fun K => (He.Fa.free "list").ok K,
  fun K => (He.Fa.free "max").ok K,
  fun K => (He.Fa.free "min").ok K,
  fun K => (He.Fa.free "range").ok K,
  fun K => (He.Fa.free "repr").ok K,
  fun K => (He.Fa.free "set").ok K,
  fun K => (He.Fa.free "sorted").ok K,
  fun K => (He.Fa.free "str").ok K,
  fun K => (He.Fa.free "tuple").ok K,
  fun K => (He.Fa.free "zip").ok K,
  fun K => (He.Fa.int "MOST_TIME" 9999).ok K,
  fun K => (He.Fa.int "MOST_LEVEL" 63).ok K,
  fun K => (He.Fa.int "MOST_LOCKS" 4).ok K,
  fun K => (He.Fa.int "MOST_SIGNS" 100).ok K,
  fun K => (He.Fa.int "MOST_POINTS" 8).ok K,
  fun K => (He.Fa.int "MOST_PLACES" 3).ok K,
  fun K => (He.Fa.int "MOST_RULES" 6).ok K,
  fun K => (He.Fa.int "MOST_CAUSES" 8).ok K,
  fun K => (He.Fa.int "MOST_COMMANDS" 4).ok K,
  fun K => (He.Fa.int "MOST_RELATIONS" 5).ok K,
  fun K => (He.Fa.str "LETTERS" "abcdefghijklmnopqrstuvwxyz").ok K,
  fun K => (He.Fa.glo "MARKS").ok K,
  fun K => He.tupB K "MARKS" [.str "good", .str "odd"],
  fun K => (He.Fa.glo "KINDS").ok K,
  fun K => He.tupB K "KINDS" [.str "level", .str "switch"],
  fun K => (He.Fa.glo "WORDS").ok K,
  fun K => He.tupB K "WORDS" [.str "above", .str "below"],
  fun K => (He.Fa.glo "Works").ok K]
def ex (K : PySem.W.Frag) : Bool := exs.all fun f => f K
theorem ex_at {K : PySem.W.Frag} (h : ex K = true) (i : Nat) {f : PySem.W.Frag → Bool} (e : exs[i]? = some f := by rfl) : f K = true := List.all_eq_true.mp h f (List.mem_of_getElem? e)
variable {K : PySem.W.Frag} {mg : Str → Option Value} {h : Heap}
theorem txt_ok (X : K.In h) (G : h.Ns mainGlobals mg) (c : ex K = true) : Txt K mg where
  b_all := He.free_ok X G (ex_at c 53)
  b_bool := He.free_ok X G (ex_at c 54)
  b_dict := He.free_ok X G (ex_at c 55)
  b_enumerate := He.free_ok X G (ex_at c 56)
  b_int := He.free_ok X G (ex_at c 57)
  b_isinstance := He.free_ok X G (ex_at c 58)
  b_len := He.free_ok X G (ex_at c 59)
  b_list := He.free_ok X G (ex_at c 60)
  b_max := He.free_ok X G (ex_at c 61)
  b_min := He.free_ok X G (ex_at c 62)
  b_range := He.free_ok X G (ex_at c 63)
  b_repr := He.free_ok X G (ex_at c 64)
  b_set := He.free_ok X G (ex_at c 65)
  b_sorted := He.free_ok X G (ex_at c 66)
  b_str := He.free_ok X G (ex_at c 67)
  b_tuple := He.free_ok X G (ex_at c 68)
  b_zip := He.free_ok X G (ex_at c 69)
  c_MOST_TIME := He.int_ok X G (ex_at c 70)
  c_MOST_LEVEL := He.int_ok X G (ex_at c 71)
  c_MOST_LOCKS := He.int_ok X G (ex_at c 72)
  c_MOST_SIGNS := He.int_ok X G (ex_at c 73)
  c_MOST_POINTS := He.int_ok X G (ex_at c 74)
  c_MOST_PLACES := He.int_ok X G (ex_at c 75)
  c_MOST_RULES := He.int_ok X G (ex_at c 76)
  c_MOST_CAUSES := He.int_ok X G (ex_at c 77)
  c_MOST_COMMANDS := He.int_ok X G (ex_at c 78)
  c_MOST_RELATIONS := He.int_ok X G (ex_at c 79)
  c_LETTERS := He.str_ok X G (ex_at c 80)
  g_MARKS := He.glo_ok X G (ex_at c 81)
  t_MARKS := fun M => .tup (He.tupB_ok (ex_at c 82) M) (.cons (.str _) (.cons (.str _) .nil))
  g_KINDS := He.glo_ok X G (ex_at c 83)
  t_KINDS := fun M => .tup (He.tupB_ok (ex_at c 84) M) (.cons (.str _) (.cons (.str _) .nil))
  g_WORDS := He.glo_ok X G (ex_at c 85)
  t_WORDS := fun M => .tup (He.tupB_ok (ex_at c 86) M) (.cons (.str _) (.cons (.str _) .nil))
  f_is_cause := He.glo_ok X G (ex_at c 19)
  f_is_command := He.glo_ok X G (ex_at c 27)
  f_is_point := He.glo_ok X G (ex_at c 21)
  f_is_relation := He.glo_ok X G (ex_at c 22)
  f_is_rule := He.glo_ok X G (ex_at c 23)
  o_Works := He.glo_ok X G (ex_at c 87)
  C_Works := He.cls_ok (ex_at c 41)
  a_Works_all_causes := He.noat_ok (ex_at c 43)
  a_Works_all_commands := He.noat_ok (ex_at c 44)
  a_Works_all_points := He.noat_ok (ex_at c 45)
  a_Works_all_relations := He.noat_ok (ex_at c 46)
  a_Works_all_rules := He.noat_ok (ex_at c 47)
  E_Works := eqB_ok (ex_at c 48)
abbrev RW : PySem.W.OpenRow := PySem.W.OpenLaw.row PySem.Challenge.rw_panelwatch_k48_pictures_by_histories
abbrev hk : PySem.W.Hook := hookV 5 fn ex
def ob (s : PySem.W.SharedT) : AlV := obsVG 5 fn ex (HandSHeadRun.getT s)
theorem ob_eq (s : PySem.W.SharedT) : ob s = hk.obs s.abs := obsVG_eq (HandSHeadRun.getT_eq s)
def loose : List Str := (["_wall", "PanelError", "Absent", "NoTime", "NoWorth", "NoPoints", "NoRules", "NoCauses", "NoCommands", "NoRelations", "NoWorks", "NoHistory", "Twice", "Ring", "TooMany", "NoPoint", "NoRule", "NoCommand", "MOST_TIME", "MOST_LEVEL", "MARKS", "LETTERS", "is_whole", "is_name", "is_time", "is_mark", "KINDS", "WORDS", "MOST_POINTS", "MOST_PLACES"] : List Str) ++ (["MOST_RULES", "MOST_CAUSES", "MOST_COMMANDS", "MOST_LOCKS", "MOST_RELATIONS", "is_word", "is_point", "is_rule", "is_cause", "is_lock", "is_command", "is_relation", "are_such", "names_of", "Works", "is_sign", "need_history", "MOST_SIGNS", "need_works", "need_histories", "need_time", "worth_at", "picture_at", "_law_cell", "_law_box", "_law_take", "_law_names", "_law_mixed", "_law_points", "_law_bonds"] : List Str) ++ (["_law_most", "_law_in", "_law_holds", "_law_broken", "_law_picture", "_law_history", "_law_histories", "_law_picture_at"] : List Str)
theorem run (w : World) : HandSHeadRun.RunEq RW (PySem.W.view RW.prog [74]) hk ob 12000 loose w := by
  intro os
  kernel_rfl
end K48

/-! names: texts of small letters. -/
namespace Nm
open PySem PySem.Spec PyProof.Rows L2 VL
abbrev ls (s : Str) : List Nat := s.cps.toList
def mk (l : List Nat) : Str := ⟨l.toArray⟩
theorem ls_mk (l : List Nat) : ls (mk l) = l := by simp [ls, mk]
theorem mk_ls (s : Str) : mk (ls s) = s := by simp [ls, mk]
theorem ls_inj {s t : Str} (h : ls s = ls t) : s = t := by rw [← mk_ls s, ← mk_ls t, h]
theorem ls_len (s : Str) : (ls s).length = s.length := Array.length_toList
theorem len_mk (l : List Nat) : (mk l).length = l.length := by rw [← ls_len, ls_mk]
theorem ls_app (s t : Str) : ls (s ++ t) = ls s ++ ls t := by
  show (s.cps ++ t.cps).toList = _
  rw [Array.toList_append]
def Lt (c : Nat) : Prop := 97 ≤ c ∧ c ≤ 122
def abc : Str := "abcdefghijklmnopqrstuvwxyz"
theorem abc_ls : ls abc = List.range' 97 26 := by decide +kernel
theorem mem_abc {c : Nat} : c ∈ ls abc ↔ Lt c := by
  rw [abc_ls, List.mem_range'_1]
  unfold Lt
  omega
structure Nm (s : Str) : Prop where
  lo : 1 ≤ s.length
  hi : s.length ≤ 8
  all : ∀ c ∈ ls s, Lt c
theorem nm_mk {l : List Nat} (h1 : 1 ≤ l.length) (h2 : l.length ≤ 8) (h3 : ∀ c ∈ l, Lt c) : Nm (mk l) := ⟨by rw [len_mk]; exact h1, by rw [len_mk]; exact h2, by rw [ls_mk]; exact h3⟩
def nmB (s : Str) : Bool := decide (1 ≤ s.length) && decide (s.length ≤ 8) && (ls s).all fun c => decide (97 ≤ c) && decide (c ≤ 122)
theorem nm_of {s : Str} (h : nmB s = true) : Nm s := by
  unfold nmB at h
  simp only [Bool.and_eq_true, decide_eq_true_eq, List.all_eq_true] at h
  exact ⟨h.1.1, h.1.2, h.2⟩
theorem fold_ls (ps : List Str) : ∀ acc : Array Nat, (ps.foldl (fun acc p => acc ++ (Str.ofString "").cps ++ p.cps) acc).toList = acc.toList ++ (ps.map ls).flatten := by
  induction ps with
  | nil => intro acc; simp
  | cons p ps ih =>
    intro acc
    have e0 : (Str.ofString "").cps = #[] := by decide +kernel
    rw [List.foldl_cons, ih, List.map_cons, List.flatten_cons, e0]
    simp [ls]
theorem join_ls (xs : List Str) : ls (Txt.join "" xs) = (xs.map ls).flatten := by
  unfold Txt.join Builtin.Str.glued
  cases xs with
  | nil => decide +kernel
  | cons x xs =>
    exact fold_ls xs x.cps
/-- the i-th sign -/
theorem ix_str {s : Str} {i : Int} (h0 : 0 ≤ i) (h1 : i < s.length) : ∃ c, (ls s)[i.toNat]? = some c ∧ atI s.cps.toList i = some c := by
  have hl : i.toNat < (ls s).length := by rw [ls_len]; omega
  refine ⟨(ls s)[i.toNat], List.getElem?_eq_getElem hl, ?_⟩
  have e : (s.cps.toList.length : Int) = s.length := by rw [show s.cps.toList.length = s.length from ls_len s]
  unfold atI ixN
  rw [if_pos h0, if_pos (by rw [e]; exact h1)]
  exact List.getElem?_eq_getElem hl
theorem cut_gen (l : List Nat) (n i k : Nat) (h : l.length = n) : (l.drop (min i n)).take (min k n - min i n) = (l.drop i).take (k - i) := by
  subst h
  by_cases c : i ≤ l.length
  · rw [Nat.min_eq_left c]
    by_cases e : k ≤ l.length
    · rw [Nat.min_eq_left e]
    · rw [Nat.min_eq_right (by omega), List.take_of_length_le (by rw [List.length_drop]; omega), List.take_of_length_le (by rw [List.length_drop]; omega)]
  · rw [Nat.min_eq_right (a := i) (by omega), List.drop_of_length_le (Nat.le_refl _), List.drop_of_length_le (i := i) (by omega)]
    simp
theorem cut_to (s : Str) {k : Int} (h0 : 0 ≤ k) : cutS s none (some k) = mk ((ls s).take k.toNat) := by
  unfold cutS mk
  have e := cut_gen (ls s) s.length 0 k.toNat (ls_len s)
  rw [HT.sIx_none, show (some k) = some ((k.toNat : Nat) : Int) by rw [Int.toNat_of_nonneg h0], HT.sIx_nat]
  rw [Nat.zero_min, List.drop_zero, Nat.sub_zero, Nat.sub_zero] at e
  rw [← e, List.drop_zero, Nat.sub_zero]
theorem cut_fromto (s : Str) {i k : Int} (h0 : 0 ≤ i) (h1 : 0 ≤ k) : cutS s (some i) (some k) = mk (((ls s).drop i.toNat).take (k.toNat - i.toNat)) := by
  unfold cutS mk
  rw [show (some k) = some ((k.toNat : Nat) : Int) by rw [Int.toNat_of_nonneg h1], show (some i) = some ((i.toNat : Nat) : Int) by rw [Int.toNat_of_nonneg h0], HT.sIx_nat, HT.sIx_nat]
  rw [← cut_gen (ls s) s.length i.toNat k.toNat (ls_len s)]
end Nm

/-! names drawn: three ways, all unlike. -/
namespace Nm
open PySem PySem.Spec PyProof.Rows L2 VL
theorem nodup_range_map {α : Type} {f : Nat → α} {n : Nat} (h : ∀ i j, i < n → j < n → f i = f j → i = j) : ((List.range n).map f).Nodup := by
  rw [List.Nodup, List.pairwise_map]
  refine List.Pairwise.imp_of_mem (R := fun a b => a ≠ b) (fun {a b} ha hb ne e => ?_) List.nodup_range
  exact ne (h a b (List.mem_range.mp ha) (List.mem_range.mp hb) e)
theorem nodup_at {α : Type} : ∀ {l : List α}, l.Nodup → ∀ {i j : Nat} {x : α}, l[i]? = some x → l[j]? = some x → i = j
  | [], _, i, j, x, h, _ => by simp at h
  | a :: l, nd, 0, 0, x, _, _ => rfl
  | a :: l, nd, 0, j + 1, x, h, g => by
    rw [List.nodup_cons] at nd
    simp at h g
    subst h
    exact absurd (List.mem_of_getElem? g) nd.1
  | a :: l, nd, i + 1, 0, x, h, g => by
    rw [List.nodup_cons] at nd
    simp at h g
    subst g
    exact absurd (List.mem_of_getElem? h) nd.1
  | a :: l, nd, i + 1, j + 1, x, h, g => by
    rw [List.nodup_cons] at nd
    simp at h g
    rw [nodup_at nd.2 h g]
theorem pick_list {α : Type} {g : α → D} {P : α → Prop} : ∀ {ys : List D}, (∀ y ∈ ys, ∃ a, P a ∧ y = g a) → ∃ l : List α, (∀ a ∈ l, P a) ∧ ys = l.map g
  | [], _ => ⟨[], (fun _ m => by cases m), rfl⟩
  | y :: ys, h => by
    obtain ⟨a, pa, e⟩ := h y (List.mem_cons_self ..)
    obtain ⟨l, pl, el⟩ := pick_list fun z hz => h z (List.mem_cons_of_mem _ hz)
    refine ⟨a :: l, fun b hb => ?_, by rw [List.map_cons, e, el]⟩
    rcases List.mem_cons.mp hb with rfl | m
    · exact pa
    · exact pl b m
/-- names that are all unlike -/
structure Names (ns : List Str) (n : Nat) : Prop where
  len : ns.length = n
  nd : ns.Nodup
  nm : ∀ s ∈ ns, Nm s
theorem names_of_map {f : Nat → Str} {n : Nat} (inj : ∀ i j, i < n → j < n → f i = f j → i = j) (h : ∀ i, i < n → Nm (f i)) : Names ((List.range n).map f) n :=
  ⟨by simp, nodup_range_map inj, fun s hs => by
    obtain ⟨i, hi, rfl⟩ := List.mem_map.mp hs
    exact h i (List.mem_range.mp hi)⟩
def words : List Str := Txt.split "here silent gone card piece word saw turn left back born less a" " "
theorem words_len : words.length = 13 := by decide +kernel
theorem words_nd : words.Nodup := by
  have h : decide (words.Nodup) = true := by decide +kernel
  exact of_decide_eq_true h
theorem words_nm : ∀ s ∈ words, Nm s := fun s hs => nm_of (List.all_eq_true.mp (show words.all nmB = true by decide +kernel) s hs)
def way0 (first : Int) (k : Nat) : Str := (words[((first + 5 * (k : Int)) % 13).toNat]?).getD ""
theorem way0_at (first : Int) (k : Nat) : words[((first + 5 * (k : Int)) % 13).toNat]? = some (way0 first k) := by
  have h0 := Int.emod_nonneg (first + 5 * (k : Int)) (by decide : (13 : Int) ≠ 0)
  have h1 := Int.emod_lt_of_pos (first + 5 * (k : Int)) (by decide : (0 : Int) < 13)
  have hl : ((first + 5 * (k : Int)) % 13).toNat < words.length := by rw [words_len]; omega
  unfold way0
  rw [List.getElem?_eq_getElem hl]; rfl
theorem way0_names (first : Int) {n : Nat} (h : n ≤ 13) : Names ((List.range n).map (way0 first)) n := by
  refine names_of_map (fun i j hi hj e => ?_) fun i hi => words_nm _ (List.mem_of_getElem? (way0_at first i))
  have a := way0_at first i
  have b := way0_at first j
  rw [e] at a
  have := nodup_at words_nd a b
  have h0 := Int.emod_nonneg (first + 5 * (i : Int)) (by decide : (13 : Int) ≠ 0)
  have h1 := Int.emod_nonneg (first + 5 * (j : Int)) (by decide : (13 : Int) ≠ 0)
  omega
def way1 (stem : Str) (first : Int) (k : Nat) : Str := cutS stem none (some (1 + (first + 3 * (k : Int)) % 7))
theorem way1_names {stem : Str} (hl : (ls stem).length = 7) (ha : ∀ c ∈ ls stem, Lt c) (first : Int) {n : Nat} (h : n ≤ 7) : Names ((List.range n).map (way1 stem first)) n := by
  have b0 := fun k : Nat => Int.emod_nonneg (first + 3 * (k : Int)) (by decide : (7 : Int) ≠ 0)
  have b1 := fun k : Nat => Int.emod_lt_of_pos (first + 3 * (k : Int)) (by decide : (0 : Int) < 7)
  have len : ∀ k : Nat, ((ls stem).take (1 + (first + 3 * (k : Int)) % 7).toNat).length = (1 + (first + 3 * (k : Int)) % 7).toNat := fun k => by
    have := b0 k; have := b1 k
    rw [List.length_take, hl]
    omega
  refine names_of_map (fun i j hi hj e => ?_) fun i hi => ?_
  · unfold way1 at e
    rw [cut_to _ (by have := b0 i; omega), cut_to _ (by have := b0 j; omega)] at e
    have e2 := congrArg Str.length e
    rw [len_mk, len_mk, len, len] at e2
    have := b0 i; have := b0 j
    omega
  · unfold way1
    have := b0 i; have := b1 i
    rw [cut_to _ (by omega)]
    refine nm_mk (by rw [len]; omega) (by rw [len]; omega) fun c hc => ha c (List.mem_of_mem_take hc)
def let_ (i : Int) : Str := ⟨#[97 + i.toNat]⟩
def way2 (stem : Str) (at_ first : Int) (k : Nat) : Str := (cutS stem none (some at_) ++ let_ ((first + 7 * (k : Int)) % 26)) ++ cutS stem (some at_) (some (6 - (k : Int) % 3))
theorem way2_ls {stem : Str} {at_ first : Int} {k : Nat} (h0 : 0 ≤ at_) : ls (way2 stem at_ first k) = ((ls stem).take at_.toNat ++ [97 + ((first + 7 * (k : Int)) % 26).toNat]) ++ ((ls stem).drop at_.toNat).take ((6 - (k : Int) % 3).toNat - at_.toNat) := by
  unfold way2
  rw [ls_app, ls_app, cut_to _ h0, cut_fromto _ h0 (by omega), ls_mk, ls_mk]
  rfl
theorem way2_names {stem : Str} (hl : (ls stem).length = 7) (ha : ∀ c ∈ ls stem, Lt c) {at_ : Int} (h0 : 0 ≤ at_) (h1 : at_ < 7) (first : Int) {n : Nat} (h : n ≤ 26) : Names ((List.range n).map (way2 stem at_ first)) n := by
  have b0 := fun k : Nat => Int.emod_nonneg (first + 7 * (k : Int)) (by decide : (26 : Int) ≠ 0)
  have b1 := fun k : Nat => Int.emod_lt_of_pos (first + 7 * (k : Int)) (by decide : (0 : Int) < 26)
  have ht : ((ls stem).take at_.toNat).length = at_.toNat := by rw [List.length_take, hl]; omega
  refine names_of_map (fun i j hi hj e => ?_) fun i hi => ?_
  · have e2 := congrArg ls e
    rw [way2_ls h0, way2_ls h0] at e2
    have e3 := congrArg (fun l : List Nat => l[at_.toNat]?) e2
    have f : ∀ (c : Nat) (r : List Nat), (((ls stem).take at_.toNat ++ [c]) ++ r)[at_.toNat]? = some c := fun c r => by
      rw [List.append_assoc, List.getElem?_append_right (by omega), ht, Nat.sub_self]
      rfl
    simp only [f] at e3
    have e4 := Option.some.inj e3
    have := b0 i; have := b0 j
    omega
  · have hc3 : 0 ≤ (i : Int) % 3 := Int.emod_nonneg _ (by decide)
    have hlen : (ls (way2 stem at_ first i)).length ≤ 8 ∧ 1 ≤ (ls (way2 stem at_ first i)).length := by
      rw [way2_ls h0, List.length_append, List.length_append, ht, List.length_take, List.length_drop, hl, List.length_singleton]
      omega
    refine ⟨by rw [← ls_len]; exact hlen.2, by rw [← ls_len]; exact hlen.1, fun c hc => ?_⟩
    rw [way2_ls h0] at hc
    rcases List.mem_append.mp hc with hc | hc
    · rcases List.mem_append.mp hc with hc | hc
      · exact ha c (List.mem_of_mem_take hc)
      · rw [List.mem_singleton.mp hc]
        have := b0 i; have := b1 i
        unfold Lt
        omega
    · exact ha c (List.mem_of_mem_drop (List.mem_of_mem_take hc))
theorem abc_at {i : Int} (h0 : 0 ≤ i) (h1 : i < 26) : atI abc.cps.toList i = some (97 + i.toNat) := by
  have e : abc.cps.toList = List.range' 97 26 := abc_ls
  rw [e]
  unfold atI ixN
  rw [if_pos h0, if_pos (by simpa using h1)]
  show (List.range' 97 26)[i.toNat]? = some (97 + i.toNat)
  rw [List.getElem?_range' (by omega), Nat.one_mul]
theorem let_lt {i : Int} (h0 : 0 ≤ i) (h1 : i < 26) : Lt (97 + i.toNat) := by unfold Lt; omega
theorem join_cs (cs : List Nat) : ls (Txt.join "" (cs.map fun c => (⟨#[c]⟩ : Str))) = cs := by
  rw [join_ls, List.map_map]
  induction cs with
  | nil => rfl
  | cons c cs ih => rw [List.map_cons, List.flatten_cons, ih]; rfl
end Nm

/-! words, points, relations. -/
namespace K48
open PySem PySem.Spec PyProof.Rows L2 VL Nm
variable {K : PySem.W.Frag}
def sp_is_whole : Spd := fun ds S Q _ => ∃ i lo hi : Int, ds = [.int i, .int lo, .int hi] ∧ Q (.bl (decide (lo ≤ i) && decide (i ≤ hi))) S
theorem ok_is_whole : BodyOk (d_is_whole K) ["thing", "low", "high"] sp_is_whole := by
  rintro _ S Q E ⟨i, lo, hi, rfl, h⟩
  simp [d_is_whole, startD, tyN, isT, kindsB]
  by_cases c : lo ≤ i <;> simp [c] at h ⊢ <;> exact fin_now h
def sp_is_name : Spd := fun ds S Q _ => ∃ s : Str, ds = [.str s] ∧ Nm s ∧ Q (.bl true) S
theorem signs_map (s : Str) : VL.signs s = (ls s).map fun c => D.str ⟨#[c]⟩ := rfl
theorem ok_is_name : BodyOk (d_is_name K) ["thing", "sign"] sp_is_name := by
  rintro _ S Q E ⟨s, rfl, hs, h⟩
  have h1 : (1 : Int) ≤ s.length := by have := hs.lo; omega
  have h2 : ((s.length : Nat) : Int) ≤ 8 := by have := hs.hi; omega
  have h3 : s.length ≤ sizeLine := sz (by have := hs.hi; omega)
  simp [d_is_name, startD, tyN, isT, kindsB, h1, h2, h3]
  refine ⟨by simpa [VL.signs] using (show s.cps.toList.length ≤ sizeLine from h3), ?_⟩
  rw [signs_map]
  refine lc_all (fun c => D.str ⟨#[c]⟩) (fun _ => D.bl true) (ls s) (fun c hc R r => ?_) ?_
  · have hm : c ∈ ls abc := mem_abc.mpr (hs.all c hc)
    have hm' : c ∈ ("abcdefghijklmnopqrstuvwxyz" : Str).cps.toList := hm
    simp [oneD, wipeD]
    have hg : signD (.str ⟨#[c]⟩) = some c := rfl
    rw [hg]
    simp only [Array.mem_toList_iff] at hm'
    simp [hm']
    exact r
  · simp only [vw_lst, bools_true, all_true]
    exact fin_now h
def sp_is_word : Spd := fun ds S Q _ => ∃ (s : Str) (ws : List Str), ds = [.str s, .tup (ws.map D.str)] ∧ Q (.bl (decide (s ∈ ws))) S
theorem inD_strs (s : Str) (ws : List Str) : inD (.str s) (ws.map D.str) = decide (s ∈ ws) := by
  induction ws with
  | nil => rfl
  | cons w ws ih =>
    have ih' : (ws.map D.str).any (fun y => eqF y (.str s)) = decide (s ∈ ws) := ih
    unfold inD
    rw [List.map_cons, List.any_cons, ih']
    show ((w == s) || decide (s ∈ ws)) = decide (s ∈ w :: ws)
    by_cases e : w = s
    · subst e; simp
    · have e' : ¬ s = w := fun q => e q.symm
      simp [e, e']
theorem flat_strs (ws : List Str) : (ws.map D.str).all flatD = true := by
  induction ws with
  | nil => rfl
  | cons w ws ih => rw [List.map_cons, List.all_cons, ih]; rfl
theorem ok_is_word : BodyOk (d_is_word K) ["thing", "words"] sp_is_word := by
  rintro _ S Q E ⟨s, ws, rfl, h⟩
  simp only [d_is_word, startD, z_dRet, z_dAndV, z_dCB, z_dCons, z_dVar, z_dNil, z_dC]
  simp [tyN, isT, kindsB, -List.all_map, flat_strs, inD_strs, flatD]
  exact fin_now h
structure Pt where
  n : Str
  p : Str
  lv : Bool
def kiS (b : Bool) : Str := if b then "level" else "switch"
def ptD (x : Pt) : D := .tup [.str x.n, .str x.p, .str (kiS x.lv)]
def VPt (x : Pt) : Prop := Nm x.n ∧ Nm x.p
def sp_is_point : Spd := fun ds S Q _ => ∃ x : Pt, ds = [ptD x] ∧ VPt x ∧ Q (.bl true) S
theorem ok_is_point : BodyOk (d_is_point K sp_is_word sp_is_name) ["thing"] sp_is_point := by
  rintro _ S Q E ⟨x, rfl, ⟨h1, h2⟩, h⟩
  simp [d_is_point, startD, ptD, tyN, isT, kindsB, atI, ixN]
  refine ⟨x.n, rfl, h1, ?_⟩
  simp
  refine ⟨x.p, rfl, h2, ?_⟩
  simp
  refine ⟨kiS x.lv, ["level", "switch"], rfl, ?_⟩
  have e : (decide (kiS x.lv ∈ (["level", "switch"] : List Str))) = true := by cases x.lv <;> decide
  rw [e]
  exact fin_now h
def spNo : Spd := fun _ _ _ _ => False
theorem ok_no {td : TSd} {N : List Str} : BodyOk td N spNo := fun _ _ _ _ h => h.elim
theorem len_no {n : Nat} : ∀ ds S Q E, spNo ds S Q E → ds.length = n := fun _ _ _ _ h => h.elim
inductive Rl where
  | same (a b : Str)
  | sum (a : Str) (bs : List Str)
  | gate (a b : Str)
def rlD : Rl → D
  | .same a b => .tup [.str "same", .str a, .str b]
  | .sum a bs => .tup [.str "sum", .str a, .tup (bs.map D.str)]
  | .gate a b => .tup [.str "gate", .str a, .str b]
def Rl.ns : Rl → List Str
  | .same a b => [a, b]
  | .sum a bs => a :: bs
  | .gate a b => [a, b]
/-- the form of a relation -/
def FRl : Rl → Prop
  | .same a b => Nm a ∧ Nm b
  | .sum a bs => Nm a ∧ (∀ b ∈ bs, Nm b) ∧ 1 ≤ bs.length ∧ bs.length ≤ 3
  | .gate a b => Nm a ∧ Nm b
def sp_is_relation : Spd := fun ds S Q _ => ∃ r : Rl, ds = [rlD r] ∧ FRl r ∧ Q (.bl true) S
theorem ok_is_relation : BodyOk (d_is_relation K sp_is_name sp_is_word) ["thing", "part"] sp_is_relation := by
  rintro _ S Q E ⟨r, rfl, hr, h⟩
  cases r with
  | same a b =>
    obtain ⟨h1, h2⟩ := hr
    simp [d_is_relation, startD, rlD, tyN, isT, kindsB, atI, ixN, sz1, sz2]
    refine ⟨a, rfl, h1, ?_⟩
    simp
    refine ⟨"same", ["same", "gate"], rfl, ?_⟩
    simp
    exact ⟨b, rfl, h2, fin_now h⟩
  | gate a b =>
    obtain ⟨h1, h2⟩ := hr
    simp [d_is_relation, startD, rlD, tyN, isT, kindsB, atI, ixN, sz1, sz2]
    refine ⟨a, rfl, h1, ?_⟩
    simp
    refine ⟨"gate", ["same", "gate"], rfl, ?_⟩
    simp
    exact ⟨b, rfl, h2, fin_now h⟩
  | sum a bs =>
    obtain ⟨h1, h2, h3, h4⟩ := hr
    have h3' : (1 : Int) ≤ bs.length := by omega
    have h4' : ((bs.length : Nat) : Int) ≤ 3 := by omega
    simp [d_is_relation, startD, rlD, tyN, isT, kindsB, atI, ixN, sz1, sz2]
    refine ⟨a, rfl, h1, ?_⟩
    simp
    refine ⟨"sum", ["same", "gate"], rfl, ?_⟩
    simp [sz1]
    refine ⟨"sum", ["sum"], rfl, ?_⟩
    simp [h3', h4', sz (show bs.length ≤ 1000000 by omega)]
    refine lc_all D.str (fun _ => D.bl true) bs (fun c hc R r => ?_) ?_
    · simp [oneD, wipeD]
      exact ⟨c, rfl, h2 c hc, r⟩
    · simp only [vw_lst, bools_true, all_true]
      exact fin_now h
/-- a list or tuple of things that fit -/
def sp_are_such (K : PySem.W.Frag) : Spd := fun ds S Q _ => ∃ (x : D) (es : List D) (lo hi : Int) (f : Addr) (spd : Spd), ds = [x, .int lo, .int hi, .ref f] ∧ (x = .lst es ∨ x = .tup es) ∧ lo ≤ es.length ∧ (es.length : Int) ≤ hi ∧ es.length ≤ 1000 ∧
  tb_are_such_fits K sp_is_point spNo spNo spNo sp_is_relation f spd ∧ (∀ e ∈ es, ∀ (S : Sto) (Q : QD) (E : XD), Q (.bl true) S → spd [e] S Q E) ∧ Q (.bl true) S
theorem ok_are_such : BodyOk (d_are_such K sp_is_point spNo spNo spNo sp_is_relation) ["things", "least", "most", "fits", "thing"] (sp_are_such K) := by
  rintro _ S Q E ⟨x, es, lo, hi, f, spd, rfl, hx, h1, h2, h3, h4, h5, h⟩
  have hz : es.length ≤ sizeLine := sz (by omega)
  have key : ∀ (R : List D → Sto → Prop), R (es.map fun _ => D.bl true) S → dLcL (hName 4) dYes (dCallV 3 (tb_are_such_fits K sp_is_point spNo spNo spNo sp_is_relation) (dCons (dVar 4) dNil)) [some x, some (.int lo), some (.int hi), some (.ref f), none] R es [] S := by
    intro R r
    have := lc_all (gd := hName 4) (dt := dYes) (de := dCallV 3 (tb_are_such_fits K sp_is_point spNo spNo spNo sp_is_relation) (dCons (dVar 4) dNil)) (σ0 := [some x, some (.int lo), some (.int hi), some (.ref f), none]) (Q := R) (S := S) id (fun _ => D.bl true) es (fun c hc R r => by
      simp [oneD]
      exact ⟨spd, h4, h5 c hc _ _ _ r⟩) r
    rw [List.map_id] at this
    exact this
  rcases hx with rfl | rfl
  · simp [d_are_such, startD, tyN, isT, kindsB, h1, h2, sz2, hz, tysD, wipeD]
    refine key _ ?_
    simp only [vw_lst, bools_true, all_true]
    exact fin_now h
  · simp [d_are_such, startD, tyN, isT, kindsB, h1, h2, sz2, hz, tysD, wipeD]
    refine key _ ?_
    simp only [vw_lst, bools_true, all_true]
    exact fin_now h
def sp_names_of : Spd := fun ds S Q _ => ∃ r : Rl, ds = [rlD r] ∧ r.ns.length ≤ 1000 ∧ Q (.lst (r.ns.map D.str)) S
theorem ok_names_of : BodyOk (d_names_of K) ["relation"] sp_names_of := by
  rintro _ S Q E ⟨r, rfl, hl, h⟩
  cases r with
  | same a b =>
    simp [d_names_of, startD, rlD, atI, ixN, sz1, sz2]
    exact ⟨by decide, fin_now h⟩
  | gate a b =>
    simp [d_names_of, startD, rlD, atI, ixN, sz1, sz2]
    exact ⟨by decide, fin_now h⟩
  | sum a bs =>
    simp [Rl.ns] at hl
    simp [d_names_of, startD, rlD, atI, ixN, sz1, sz2, sz (show bs.length ≤ 1000000 by omega), sz (show 1 + bs.length ≤ 1000000 by omega)]
    exact fin_now h
end K48

/-! works as they stand, what they tell of points. -/
namespace K48
open PySem PySem.Spec PyProof.Rows L2 VL Nm
variable {K : PySem.W.Frag}
def ptsK (pts : List Pt) : List (Key × D) := pts.map fun x => (.inr x.n, ptD x)
def ptOf (pts : List Pt) (s : Str) : Option Pt := pts.find? fun x => decide (x.n = s)
theorem getK_pts (pts : List Pt) (s : Str) : getK (ptsK pts) (.inr s) = (ptOf pts s).map ptD := by
  induction pts with
  | nil => rfl
  | cons x pts ih =>
    unfold getK ptsK ptOf at *
    rw [List.map_cons, List.find?_cons, List.find?_cons]
    by_cases c : x.n = s
    · have e1 : decide ((Sum.inr x.n : Key) = .inr s) = true := by simp [c]
      have e2 : decide (x.n = s) = true := by simp [c]
      simp only [e1, e2]
      rfl
    · have e1 : decide ((Sum.inr x.n : Key) = .inr s) = false := by simp [c]
      have e2 : decide (x.n = s) = false := by simp [c]
      simp only [e1, e2]
      exact ih
def wF (a b c e f : D) : List (Str × D) := [("all_points", a), ("all_rules", b), ("all_causes", c), ("all_commands", e), ("all_relations", f)]
section
variable {a b c e f : D}
theorem lk_points : (wF a b c e f).lookup ("all_points" : Str) = some a := rfl
theorem lk_rules : (wF a b c e f).lookup ("all_rules" : Str) = some b := rfl
theorem lk_causes : (wF a b c e f).lookup ("all_causes" : Str) = some c := rfl
theorem lk_commands : (wF a b c e f).lookup ("all_commands" : Str) = some e := rfl
theorem lk_relations : (wF a b c e f).lookup ("all_relations" : Str) = some f := rfl
theorem no_points : (wF a b c e f).lookup ("points" : Str) = none := rfl
theorem no_places : (wF a b c e f).lookup ("places" : Str) = none := rfl
theorem no_has_point : (wF a b c e f).lookup ("has_point" : Str) = none := rfl
theorem no_point : (wF a b c e f).lookup ("point" : Str) = none := rfl
theorem no_is_worth : (wF a b c e f).lookup ("is_worth" : Str) = none := rfl
theorem no_t1 : (wF a b c e f).lookup ("take_points" : Str) = none := rfl
theorem no_t2 : (wF a b c e f).lookup ("take_rules" : Str) = none := rfl
theorem no_t3 : (wF a b c e f).lookup ("take_causes" : Str) = none := rfl
theorem no_t4 : (wF a b c e f).lookup ("take_commands" : Str) = none := rfl
theorem no_t5 : (wF a b c e f).lookup ("take_relations" : Str) = none := rfl
end
/-- works of these points and relations -/
def Wv (K : PySem.W.Frag) (S : Sto) (d : D) (pts : List Pt) (rls : List Rl) : Prop := ∃ a b c e f, insV S d = some (He.ga K "Works", wF a b c e f) ∧ vw S a = .dct (ptsK pts) ∧ vw S f = .lst (rls.map rlD)
/-- works that never change -/
def wkD (K : PySem.W.Frag) (pts : List Pt) (rls : List Rl) : D := .ins (He.ga K "Works") (wF (.dct (ptsK pts)) (.dct []) (.dct []) (.dct []) (.lst (rls.map rlD)))
theorem wv_wk {S : Sto} {pts : List Pt} {rls : List Rl} : Wv K S (wkD K pts rls) pts rls := ⟨_, _, _, _, _, rfl, rfl, rfl⟩
theorem vw_is_dct {S : Sto} {a : D} {kds : List (Key × D)} (h : vw S a = .dct kds) : a = .dct kds ∨ ∃ p, a = .ref p ∧ S p = some (.dct kds) := by
  cases a with
  | ref p =>
    rcases vw_ref (S := S) (a := p) with ⟨es, h1, h2⟩ | ⟨es, h1, h2⟩ | h2
    · rw [h2] at h; cases h
    · rw [h2] at h; cases h; exact .inr ⟨p, rfl, h1⟩
    · rw [h2] at h; cases h
  | dct k => cases h; exact .inl rfl
  | _ => cases h
def sp_has_point (K : PySem.W.Frag) : Spd := fun ds S Q _ => ∃ (d : D) (pts : List Pt) (rls : List Rl) (s : Str), ds = [d, .str s] ∧ Wv K S d pts rls ∧ Q (.bl (ptOf pts s).isSome) S
theorem ok_has_point : BodyOk (d_Works_has_point K) ["self", "thing"] (sp_has_point K) := by
  rintro _ S Q E ⟨d, pts, rls, s, rfl, ⟨a, b, c, e, f, h1, h2, h3⟩, h⟩
  simp only [d_Works_has_point, startD, z_dRet, z_dAndV, z_dCB, z_dCons, z_dVar, z_dNil, z_dC]
  simp [-insV_ref, tyN, isT, kindsB, h1, lk_points, h2, keyD, getK_pts]
  exact fin_now h
def sp_point (K : PySem.W.Frag) : Spd := fun ds S Q _ => ∃ (d : D) (pts : List Pt) (rls : List Rl) (s : Str) (x : Pt), ds = [d, .str s] ∧ Wv K S d pts rls ∧ ptOf pts s = some x ∧ Q (ptD x) S
theorem ok_point : BodyOk (d_Works_point K (sp_has_point K)) ["self", "name"] (sp_point K) := by
  rintro _ S Q E ⟨d, pts, rls, s, x, rfl, hw, hx, h⟩
  obtain ⟨a, b, c, e, f, h1, h2, h3⟩ := id hw
  simp [-insV_ref, -List.lookup_eq_none_iff, d_Works_point, startD, h1, no_has_point]
  refine ⟨d, pts, rls, s, rfl, hw, ?_⟩
  rw [hx]
  simp [-insV_ref, h1, lk_points, h2, keyD, getK_pts, hx]
  exact fin_now h
def most (x : Pt) : Int := if x.lv then 63 else 1
def sp_is_worth (K : PySem.W.Frag) : Spd := fun ds S Q _ => ∃ (d : D) (pts : List Pt) (rls : List Rl) (s : Str) (x : Pt) (i : Int), ds = [d, .str s, .int i] ∧ Wv K S d pts rls ∧ ptOf pts s = some x ∧ Q (.bl (decide (0 ≤ i) && decide (i ≤ most x))) S
theorem vw_pt {S : Sto} {x : Pt} : vw S (ptD x) = .tup [.str x.n, .str x.p, .str (kiS x.lv)] := rfl
theorem ki_level (b : Bool) : (kiS b = ("level" : Str)) ↔ b = true := by cases b <;> decide
theorem ok_is_worth : BodyOk (d_Works_is_worth K sp_is_whole (sp_point K)) ["self", "point", "thing", "most"] (sp_is_worth K) := by
  rintro _ S Q E ⟨d, pts, rls, s, x, i, rfl, hw, hx, h⟩
  obtain ⟨a, b, c, e, f, h1, h2, h3⟩ := id hw
  simp [-insV_ref, -List.lookup_eq_none_iff, d_Works_is_worth, startD, h1, no_point]
  refine ⟨d, pts, rls, s, x, rfl, hw, hx, ?_⟩
  simp [vw_pt, atI, ixN, ki_level]
  unfold most at h
  cases q : x.lv <;> rw [q] at h <;> simp
  · exact ⟨_, _, _, rfl, fin_now h⟩
  · exact ⟨_, _, _, rfl, fin_now h⟩
theorem vals_pts0 (pts : List Pt) : (ptsK pts).map (·.2) = pts.map ptD := by
  unfold ptsK
  rw [List.map_map]
  rfl
def sp_points (K : PySem.W.Frag) : Spd := fun ds S Q _ => ∃ (d : D) (pts : List Pt) (rls : List Rl), ds = [d] ∧ Wv K S d pts rls ∧ pts.length ≤ 1000 ∧ Q (.lst (pts.map ptD)) S
theorem ok_points : BodyOk (d_Works_points K) ["self"] (sp_points K) := by
  rintro _ S Q E ⟨d, pts, rls, rfl, ⟨a, b, c, e, f, h1, h2, h3⟩, hl, h⟩
  have hz : (ptsK pts).length ≤ sizeLine := by unfold ptsK; rw [List.length_map]; exact sz (by omega)
  simp [-insV_ref, d_Works_points, startD, h1, lk_points, h2, vals_pts0, hz]
  exact fin_now h
def sp_places (K : PySem.W.Frag) : Spd := fun ds S Q _ => ∃ (d : D) (pts : List Pt) (rls : List Rl), ds = [d] ∧ Wv K S d pts rls ∧ pts.length < 64 ∧
  ∀ ys : List Str, ys.Nodup → (∀ y, y ∈ ys ↔ y ∈ pts.map (·.p)) → sortedS ys = true → Q (.lst (ys.map D.str)) S
theorem vals_pts (pts : List Pt) : Vw.vals.ds (ptsK pts) = pts.map ptD := by
  show (ptsK pts).map (·.2) = _
  unfold ptsK
  rw [List.map_map]
  rfl
theorem strs_map (xs : List Str) : strsD (xs.map D.str) = some xs := by
  induction xs with
  | nil => rfl
  | cons x xs ih => rw [List.map_cons, strsD, ih]; rfl
theorem ok_places : BodyOk (d_Works_places K) ["self", "point"] (sp_places K) := by
  rintro _ S Q E ⟨d, pts, rls, rfl, ⟨a, b, c, e, f, h1, h2, h3⟩, hl, h⟩
  have hz : (ptsK pts).length ≤ sizeLine := by unfold ptsK; rw [List.length_map]; exact sz (by omega)
  have hl2 : ∀ d : D, 1 < (wipeD [some d, none] [1]).length := fun d => show (1 : Nat) < 2 by decide
  have fin : ∀ R : QD, (∀ ys : List Str, ys.Nodup → (∀ y, y ∈ ys ↔ y ∈ pts.map (·.p)) → sortedS ys = true → ys.length ≤ (pts.map (·.p)).length → R (.lst (ys.map D.str)) S) → (match vw S (.lst (pts.map fun x => D.str x.p)) with
      | .lst ds => match strsD ds with
        | some zs => zs.length < 64 ∧ ∀ ys : List Str, ys.Nodup → (∀ y, y ∈ ys ↔ y ∈ zs) → sortedS ys = true → ys.length ≤ zs.length → R (.lst (ys.map D.str)) S
        | none => False
      | _ => False) := by
    intro R r
    have e1 : (pts.map fun x => D.str x.p) = (pts.map (·.p)).map D.str := by rw [List.map_map]; rfl
    simp only [vw_lst, e1, strs_map]
    exact ⟨by rw [List.length_map]; exact hl, r⟩
  have step : ∀ (σ : Sd) (hσ : 1 < σ.length) (T : Sto) (R : List D → Sto → Prop), R (pts.map fun x => D.str x.p) T → dLcL (hName 1) dYes (dOp dIx (dVar 1) (dC (.int 1))) σ R (pts.map ptD) [] T := fun σ hσ T R r => lc_all ptD (fun x => D.str x.p) pts (fun x hx R r => by
    have hget : (σ.set 1 (some (ptD x)))[1]? = some (some (ptD x)) := by rw [List.getElem?_set_self hσ]
    simp only [oneD, z_hName, z_dYes, z_dOp, z_dVar, z_dC, hget, if_true]
    simp [vw_pt, atI, ixN]
    exact r) r
  simp only [d_Works_places, startD, z_dRet, z_dSortSet, z_dLcD, dFld, z_dVar]
  simp only [List.map_cons, List.map_nil, List.length_cons, List.length_nil, List.replicate, List.cons_append, List.nil_append, List.getElem?_cons_zero, h1, lk_points, true_and]
  rcases vw_is_dct h2 with rfl | ⟨p, rfl, hp⟩
  · refine ⟨hz, ?_⟩
    rw [vals_pts]
    exact step _ (hl2 d) S _ (fin _ fun ys a b c _ => fin_now (h ys a b c))
  · simp only [hp]
    refine ⟨hz, ?_⟩
    rw [vals_pts]
    refine step _ (hl2 d) _ _ fun _ => ?_
    rw [put_era hp]
    exact fin _ fun ys a b c _ => fin_now (h ys a b c)
end K48

/-! works made. -/
namespace K48
open PySem PySem.Spec PyProof.Rows L2 VL Nm
variable {K : PySem.W.Frag}
theorem ptOf_isSome {pts : List Pt} {s : Str} : (ptOf pts s).isSome = true ↔ s ∈ pts.map (·.n) := by
  unfold ptOf
  rw [List.find?_isSome, List.mem_map]
  simp
theorem ptOf_none {pts : List Pt} {s : Str} (h : s ∉ pts.map (·.n)) : ptOf pts s = none := by
  cases e : ptOf pts s with
  | none => rfl
  | some x => exact absurd (ptOf_isSome.mp (by rw [e]; rfl)) h
theorem ptOf_mem {pts : List Pt} {s : Str} {x : Pt} (h : ptOf pts s = some x) : x ∈ pts ∧ x.n = s := by
  unfold ptOf at h
  exact ⟨List.mem_of_find?_eq_some h, of_decide_eq_true (List.find?_some (p := fun x : Pt => decide (x.n = s)) h)⟩
theorem ptOf_of {pts : List Pt} (nd : (pts.map (·.n)).Nodup) {x : Pt} (hx : x ∈ pts) : ptOf pts x.n = some x := by
  induction pts with
  | nil => cases hx
  | cons y pts ih =>
    rw [List.map_cons, List.nodup_cons] at nd
    unfold ptOf
    rw [List.find?_cons]
    rcases List.mem_cons.mp hx with rfl | hm
    · simp
    · have : ¬ y.n = x.n := fun e => nd.1 (by rw [e]; exact List.mem_map_of_mem hm)
      simp only [this, decide_false]
      exact ih nd.2 hm
theorem any_getK (kds : List (Key × D)) (k : Key) : (kds.any fun kv => decide (kv.1 = k)) = (getK kds k).isSome := by
  unfold getK
  induction kds with
  | nil => rfl
  | cons a kds ih =>
    rw [List.any_cons, List.find?_cons]
    cases decide (a.1 = k) with
    | true => simp
    | false => simpa using ih
theorem putK_pts {pts : List Pt} {x : Pt} (h : x.n ∉ pts.map (·.n)) : putKD (ptsK pts) (.inr x.n) (ptD x) = ptsK (pts ++ [x]) := by
  unfold putKD
  rw [any_getK, getK_pts, ptOf_none h]
  simp [ptsK]
/-- no list without doubles is longer than one that holds all of it -/
theorem nodup_le {α : Type} [DecidableEq α] : ∀ {ys pl : List α}, ys.Nodup → (∀ y ∈ ys, y ∈ pl) → ys.length ≤ pl.length
  | [], pl, _, _ => Nat.zero_le _
  | y :: ys, pl, nd, h => by
    rw [List.nodup_cons] at nd
    have hy := h y (List.mem_cons_self ..)
    have := nodup_le (ys := ys) (pl := pl.erase y) nd.2 fun z hz => by
      have ne : z ≠ y := fun e => nd.1 (e ▸ hz)
      exact (List.mem_erase_of_ne ne).mpr (h z (List.mem_cons_of_mem _ hz))
    have l := List.length_erase_of_mem hy
    have pos : 0 < pl.length := List.length_pos_of_mem hy
    rw [List.length_cons]
    omega
abbrev endZ (Q : QD) (E : XD) : EndsD := { nx := fun _ S' => fin Q .non S', rt := fin Q, ex := fun _ => finX E }
def lots (d : D) (es : List D) : Prop := d = .lst es ∨ d = .tup es
structure VPts (pts : List Pt) : Prop where
  ok : ∀ x ∈ pts, VPt x
  nd : (pts.map (·.n)).Nodup
  lo : 1 ≤ pts.length
  hi : pts.length ≤ 8
  pl : ∃ pl : List Str, pl.length ≤ 3 ∧ ∀ x ∈ pts, x.p ∈ pl
def sp_take_points (K : PySem.W.Frag) : Spd := fun ds S Q _ => ∃ (x p : Addr) (b c e : D) (f : D) (y : D) (pts : List Pt) (rls : List Rl), ds = [.ref x, y] ∧ lots y (pts.map ptD) ∧ VPts pts ∧ S x = some (.ins (He.ga K "Works") (wF (.ref p) b c e f)) ∧ S p = some (.dct []) ∧ p ≠ x ∧
  (∀ o, vw (put S p (.dct o)) f = .lst (rls.map rlD)) ∧ Q .non (put S p (.dct (ptsK pts)))
theorem pts_loop (x p : Addr) (b c e f : D) (y : D) (Z : EndsD) (S : Sto) (hx : S x = some (.ins (He.ga K "Works") (wF (.ref p) b c e f))) (hp : p ≠ x) :
    ∀ (l acc : List Pt) (o : Option D), ((acc ++ l).map (·.n)).Nodup → (acc ++ l).length ≤ 1000 → (∀ o', Z.nx [some (.ref x), some y, o'] (put S p (.dct (ptsK (acc ++ l))))) →
      dForL (g_Works_take_points_0 K (sp_are_such K) (sp_places K)) (b_Works_take_points_0 K (sp_are_such K) (sp_places K)) Z (l.map ptD) [some (.ref x), some y, o] (put S p (.dct (ptsK acc)))
  | [], acc, o, _, _, h => by
    rw [List.append_nil] at h
    exact h o
  | a :: l, acc, o, nd, hl, h => by
    have h1 : a.n ∉ acc.map (·.n) := by
      rw [List.map_append, List.map_cons, List.nodup_append] at nd
      exact fun m => nd.2.2 _ m _ (List.mem_cons_self ..) rfl
    have hx' : ∀ o, put S p (.dct o) x = some (.ins (He.ga K "Works") (wF (.ref p) b c e f)) := fun o => by rw [put_ne (Ne.symm hp)]; exact hx
    have hz : (ptsK acc).length < sizeLine := by
      unfold ptsK
      rw [List.length_map]
      rw [List.length_append] at hl
      exact szl (by omega)
    rw [List.map_cons, for_cons]
    simp [u_g_Works_take_points_0, u_b_Works_take_points_0, hx', lk_points, vw_pt, atI, ixN, keyD, getK_pts, ptOf_none h1, vw_ref_dct (put_same (S := S) (a := p)), put_same, hz, put_put, putK_pts h1]
    have := pts_loop x p b c e f y Z S hx hp l (acc ++ [a]) (some (ptD a)) (by simpa using nd) (by simpa using hl) (by simpa using h)
    exact this
theorem ok_take_points : BodyOk (d_Works_take_points K (sp_are_such K) (sp_places K)) ["self", "points", "point"] (sp_take_points K) := by
  rintro _ S Q E ⟨x, p, b, c, e, f, y, pts, rls, rfl, hy, vp, hx, hp, ne, hf, h⟩
  have l1 := vp.lo
  have l8 := vp.hi
  have hx' : ∀ o, put S p (.dct o) x = some (.ins (He.ga K "Works") (wF (.ref p) b c e f)) := fun o => by rw [put_ne (Ne.symm ne)]; exact hx
  simp [d_Works_take_points, startD]
  refine ⟨y, pts.map ptD, 1, 8, _, sp_is_point, rfl, hy, by rw [List.length_map]; omega, by rw [List.length_map]; omega, by rw [List.length_map]; omega, .inl ⟨rfl, rfl⟩, fun e he S Q E q => ?_, ?_⟩
  · obtain ⟨z, hz, rfl⟩ := List.mem_map.mp he
    exact ⟨z, rfl, vp.ok z hz, q⟩
  have go : dForL (g_Works_take_points_0 K (sp_are_such K) (sp_places K)) (b_Works_take_points_0 K (sp_are_such K) (sp_places K)) { endZ Q E with nx := (dIf (dTest (dOp dGt (dCB dLen (dCons (dMeth (He.ga K "Works") "places" (sp_places K) [] (dVar 0) dNil) dNil)) (dC (.int 3)))) dNever dNext) (endZ Q E) } (pts.map ptD) [some (.ref x), some y, none] S := by
    have := pts_loop x p b c e f y { endZ Q E with nx := (dIf (dTest (dOp dGt (dCB dLen (dCons (dMeth (He.ga K "Works") "places" (sp_places K) [] (dVar 0) dNil) dNil)) (dC (.int 3)))) dNever dNext) (endZ Q E) } S hx ne pts [] none (by simpa using vp.nd) (by simp; omega) fun o' => by
      simp only [List.nil_append]
      simp [hx', -List.lookup_eq_none_iff, no_places]
      refine ⟨.ref x, pts, rls, rfl, ⟨_, _, _, _, _, insV_at (hx' _), vw_ref_dct put_same, hf _⟩, by omega, fun ys nd hm _ => ?_⟩
      obtain ⟨pl, hpl, hall⟩ := vp.pl
      have hlen := nodup_le nd (pl := pl) fun y hy => by
        obtain ⟨z, hz, rfl⟩ := List.mem_map.mp ((hm y).mp hy)
        exact hall z hz
      have : ¬ (3 : Int) < (ys.length : Int) := by omega
      simp [this]
      exact ⟨by omega, fin_now h⟩
    rw [show ptsK [] = [] from rfl, put_self hp] at this
    exact this
  rcases hy with rfl | rfl
  · simp
    exact go
  · simp
    exact go
end K48

/-! works made: no rules, causes, commands; relations. -/
namespace K48
open PySem PySem.Spec PyProof.Rows L2 VL Nm
variable {K : PySem.W.Frag}
theorem such_none {K : PySem.W.Frag} {f : Addr} {spd : Spd} {hi : Int} {S : Sto} {Q : QD} {E : XD} (h0 : 0 ≤ hi) (ht : tb_are_such_fits K sp_is_point spNo spNo spNo sp_is_relation f spd) (h : Q (.bl true) S) : sp_are_such K [.tup [], .int 0, .int hi, .ref f] S Q E :=
  ⟨.tup [], [], 0, hi, f, spd, rfl, .inr rfl, by simp, by simpa using h0, by simp, ht, fun _ m => (by cases m), h⟩
def sp_take_rules (K : PySem.W.Frag) : Spd := fun ds S Q _ => ∃ x : D, ds = [x, .tup []] ∧ Q .non S
theorem ok_take_rules : BodyOk (d_Works_take_rules K (sp_are_such K)) ["self", "rules", "rule"] (sp_take_rules K) := by
  rintro _ S Q E ⟨x, rfl, h⟩
  simp [d_Works_take_rules, startD]
  refine such_none (by decide) (.inr (.inl ⟨rfl, rfl⟩)) ?_
  simp
  exact fin_now h
theorem ok_take_commands : BodyOk (d_Works_take_commands K (sp_are_such K)) ["self", "commands", "command", "name", "point", "worth", "locks", "place", "lock"] (sp_take_rules K) := by
  rintro _ S Q E ⟨x, rfl, h⟩
  simp [d_Works_take_commands, startD]
  refine such_none (by decide) (.inr (.inr (.inr (.inl ⟨rfl, rfl⟩)))) ?_
  simp
  exact fin_now h
def sp_take_causes (K : PySem.W.Frag) : Spd := fun ds S Q _ => ∃ (x p : Addr) (a c e f : D), ds = [.ref x, .tup []] ∧ S x = some (.ins (He.ga K "Works") (wF a (.ref p) c e f)) ∧ S p = some (.dct []) ∧ Q .non S
theorem ok_take_causes : BodyOk (d_Works_take_causes K (sp_are_such K)) ["self", "causes", "cause", "name"] (sp_take_causes K) := by
  rintro _ S Q E ⟨x, p, a, c, e, f, rfl, hx, hp, h⟩
  simp [d_Works_take_causes, startD]
  refine such_none (by decide) (.inr (.inr (.inl ⟨rfl, rfl⟩))) ?_
  simp [hx, lk_rules, hp]
  intro _
  rw [put_era hp]
  exact fin_now h
/-- a relation of these points -/
structure VRl (pts : List Pt) (r : Rl) : Prop where
  f : FRl r
  nd : r.ns.Nodup
  here : ∀ n ∈ r.ns, n ∈ pts.map (·.n)
  sw : ∀ a b, r = .gate a b → ∃ y, ptOf pts b = some y ∧ y.lv = false
theorem ns_len {r : Rl} (h : FRl r) : 2 ≤ r.ns.length ∧ r.ns.length ≤ 4 := by
  cases r with
  | same a b => exact ⟨by simp [Rl.ns], by simp [Rl.ns]⟩
  | gate a b => exact ⟨by simp [Rl.ns], by simp [Rl.ns]⟩
  | sum a bs => obtain ⟨_, _, h1, h2⟩ := h; simp [Rl.ns]; omega
def sp_take_relations (K : PySem.W.Frag) : Spd := fun ds S Q _ => ∃ (x p : Addr) (a b c e : D) (y : D) (pts : List Pt) (rls : List Rl), ds = [.ref x, y] ∧ lots y (rls.map rlD) ∧ rls.length ≤ 5 ∧ (∀ r ∈ rls, VRl pts r) ∧ S x = some (.ins (He.ga K "Works") (wF a b c e (.ref p))) ∧ S p = some (.lst []) ∧ p ≠ x ∧
  (∀ o, vw (put S p (.lst o)) a = .dct (ptsK pts)) ∧ Q .non (put S p (.lst (rls.map rlD)))
theorem names_loop {x : Addr} {pts : List Pt} {rls : List Rl} (Z : EndsD) (S : Sto) (hw : Wv K S (.ref x) pts rls) (s0 s1 s2 s3 : Option D) (h0 : s0 = some (.ref x)) :
    ∀ (l : List Str) (o o5 : Option D), (∀ n ∈ l, n ∈ pts.map (·.n)) → (∀ o', Z.nx [s0, s1, s2, s3, o', o5] S) →
      dForL (g_Works_take_relations_1 K (sp_are_such K) sp_names_of (sp_point K)) (b_Works_take_relations_1 K (sp_are_such K) sp_names_of (sp_point K)) Z (l.map D.str) [s0, s1, s2, s3, o, o5] S
  | [], o, o5, _, h => h o
  | n :: l, o, o5, hl, h => by
    subst h0
    obtain ⟨a, b, c, e, f, h1, h2, h3⟩ := id hw
    obtain ⟨z, hz⟩ : ∃ z, ptOf pts n = some z := Option.isSome_iff_exists.mp (ptOf_isSome.mpr (hl n (List.mem_cons_self ..)))
    rw [List.map_cons, for_cons]
    simp [-insV_ref, -List.lookup_eq_none_iff, u_g_Works_take_relations_1, u_b_Works_take_relations_1, h1, no_point]
    refine ⟨.ref x, pts, rls, n, z, rfl, hw, hz, ?_⟩
    exact names_loop Z S hw _ s1 s2 s3 rfl l (some (.str n)) o5 (fun m hm => hl m (List.mem_cons_of_mem _ hm)) h
theorem cut_take (ds : List D) (k : Nat) : VL.cutD ds none (some (k : Int)) = ds.take k := by
  unfold VL.cutD
  rw [HT.sIx_none, HT.sIx_nat, List.drop_zero, Nat.sub_zero]
  rcases Nat.le_total k ds.length with h | h
  · rw [Nat.min_eq_left h]
  · rw [Nat.min_eq_right h, List.take_of_length_le (Nat.le_refl _), List.take_of_length_le h]
theorem twice_loop (Z : EndsD) (S : Sto) (s0 s1 s2 : Option D) (ns : List Str) (nd : ns.Nodup) :
    ∀ (l acc : List Str) (o o5 : Option D), acc ++ l = ns → (∀ o' o5', Z.nx [s0, s1, s2, some (.lst (ns.map D.str)), o', o5'] S) →
      dForL (g_Works_take_relations_2 K (sp_are_such K) sp_names_of (sp_point K)) (b_Works_take_relations_2 K (sp_are_such K) sp_names_of (sp_point K)) Z (enumD acc.length (l.map D.str)) [s0, s1, s2, some (.lst (ns.map D.str)), o, o5] S
  | [], acc, o, o5, _, h => h o o5
  | n :: l, acc, o, o5, he, h => by
    have hn : n ∉ acc := by
      rw [← he, List.nodup_append] at nd
      exact fun m => nd.2.2 _ m _ (List.mem_cons_self ..) rfl
    have ht : (ns.map D.str).take acc.length = acc.map D.str := by rw [← he, List.map_append, List.take_left' (by rw [List.length_map])]
    rw [List.map_cons, enumD, for_cons]
    simp only [u_g_Works_take_relations_2, u_b_Works_take_relations_2]
    simp [-List.all_map, cut_take, ht, inD_strs, hn, flat_strs, flatD]
    have := twice_loop Z S s0 s1 s2 ns nd l (acc ++ [n]) (some (.str n)) (some (.int acc.length)) (by simpa using he) h
    simpa using this
theorem rels_loop (x p : Addr) (a b c e : D) (y : D) (pts : List Pt) (Z : EndsD) (S : Sto) (hx : S x = some (.ins (He.ga K "Works") (wF a b c e (.ref p)))) (hp : p ≠ x) (ha : ∀ o, vw (put S p (.lst o)) a = .dct (ptsK pts)) :
    ∀ (l acc : List Rl) (o2 o3 o4 o5 : Option D), (∀ r ∈ l, VRl pts r) → (acc ++ l).length ≤ 1000 → (∀ o2 o3 o4 o5, Z.nx [some (.ref x), some y, o2, o3, o4, o5] (put S p (.lst ((acc ++ l).map rlD)))) →
      dForL (g_Works_take_relations_0 K (sp_are_such K) sp_names_of (sp_point K)) (b_Works_take_relations_0 K (sp_are_such K) sp_names_of (sp_point K)) Z (l.map rlD) [some (.ref x), some y, o2, o3, o4, o5] (put S p (.lst (acc.map rlD)))
  | [], acc, o2, o3, o4, o5, _, _, h => by
    rw [List.append_nil] at h
    exact h o2 o3 o4 o5
  | r :: l, acc, o2, o3, o4, o5, hv, hl, h => by
    have vr := hv r (List.mem_cons_self ..)
    have hx' : ∀ o, put S p (.lst o) x = some (.ins (He.ga K "Works") (wF a b c e (.ref p))) := fun o => by rw [put_ne (Ne.symm hp)]; exact hx
    have hw : Wv K (put S p (.lst (acc.map rlD))) (.ref x) pts acc := ⟨_, _, _, _, _, insV_at (hx' _), ha _, vw_ref_lst put_same⟩
    have hz : acc.length < sizeLine := by
      rw [List.length_append] at hl
      exact szl (by omega)
    have ih := fun o2 o3 o4 o5 => rels_loop x p a b c e y pts Z S hx hp ha l (acc ++ [r]) o2 o3 o4 o5 (fun r' m => hv r' (List.mem_cons_of_mem _ m)) (by simpa using hl) (by simpa using h)
    rw [List.map_append] at ih
    rw [List.map_cons, for_cons]
    simp only [u_g_Works_take_relations_0, u_b_Works_take_relations_0, z_hName, z_dSeq]
    refine ev_asg (.lst (r.ns.map D.str)) (fun Q' q => ?_) ?_
    · simp
      exact ⟨r, rfl, by have := (ns_len vr.f).2; omega, q⟩
    simp only [z_hName, z_dFor, z_nAny, z_dVar, List.set_cons_succ, List.set_cons_zero, List.getElem?_cons_succ, List.getElem?_cons_zero]
    refine names_loop _ _ hw (some (.ref x)) (some y) (some (rlD r)) (some (.lst (r.ns.map D.str))) rfl r.ns o4 o5 vr.here fun o' => ?_
    simp only [z_dSeq, z_dFor, z_nEnum, z_dCons, z_dNil, z_dVar, List.getElem?_cons_succ, List.getElem?_cons_zero]
    refine twice_loop _ _ _ _ _ r.ns vr.nd r.ns [] o' o5 rfl fun o6 o7 => ?_
    simp only [z_dSeq]
    refine ev_if0 (fun Q' q => ?_) ?_
    · cases r with
      | same a b => simp [rlD, atI, ixN]; exact q
      | sum a b => simp [rlD, atI, ixN]; exact q
      | gate u v =>
        obtain ⟨z, hz1, hz2⟩ := vr.sw u v rfl
        simp [-List.lookup_eq_none_iff, rlD, atI, ixN, hx', no_point]
        refine ⟨.ref x, pts, acc, v, z, rfl, hw, hz1, ?_⟩
        have : (decide (kiS z.lv = "switch")) = true := by rw [hz2]; decide
        simp [vw_pt, atI, ixN, hz2]
        exact q
    · simp [hx', lk_relations, put_same, put_put, hz]
      exact ih _ _ _ _
theorem ok_take_relations : BodyOk (d_Works_take_relations K (sp_are_such K) sp_names_of (sp_point K)) ["self", "relations", "relation", "names", "name", "at"] (sp_take_relations K) := by
  rintro _ S Q E ⟨x, p, a, b, c, e, y, pts, rls, rfl, hy, hl, hv, hx, hp, ne, ha, h⟩
  simp [d_Works_take_relations, startD]
  refine ⟨y, rls.map rlD, 0, 5, _, sp_is_relation, rfl, hy, by rw [List.length_map]; omega, by rw [List.length_map]; omega, by rw [List.length_map]; omega, .inr (.inr (.inr (.inr ⟨rfl, rfl⟩))), fun e he S Q E q => ?_, ?_⟩
  · obtain ⟨z, hz, rfl⟩ := List.mem_map.mp he
    exact ⟨z, rfl, (hv z hz).f, q⟩
  have go : dForL (g_Works_take_relations_0 K (sp_are_such K) sp_names_of (sp_point K)) (b_Works_take_relations_0 K (sp_are_such K) sp_names_of (sp_point K)) (endZ Q E) (rls.map rlD) [some (.ref x), some y, none, none, none, none] S := by
    have := rels_loop x p a b c e y pts (endZ Q E) S hx ne ha rls [] none none none none hv (by simp; omega) fun _ _ _ _ => fin_now h
    rw [List.map_nil, put_self hp] at this
    exact this
  rcases hy with rfl | rfl
  · simp
    exact go
  · simp
    exact go
/-- works made in full: what stands then -/
def sp_init (K : PySem.W.Frag) : Spd := fun ds S Q _ => ∃ (x : Addr) (y z : D) (pts : List Pt) (rls : List Rl), ds = [.ref x, y, .tup [], .tup [], .tup [], z] ∧ lots y (pts.map ptD) ∧ lots z (rls.map rlD) ∧ VPts pts ∧ rls.length ≤ 5 ∧ (∀ r ∈ rls, VRl pts r) ∧ S x = some (.ins (He.ga K "Works") []) ∧
  ∀ (S' : Sto) (p1 p2 p3 p4 p5 : Addr), S' x = some (.ins (He.ga K "Works") (wF (.ref p1) (.ref p2) (.ref p3) (.ref p4) (.ref p5))) → S' p1 = some (.dct (ptsK pts)) → S' p2 = some (.dct []) → S' p3 = some (.dct []) → S' p4 = some (.dct []) → S' p5 = some (.lst (rls.map rlD)) →
    S p1 = none → S p2 = none → S p3 = none → S p4 = none → S p5 = none → (∀ u, u ≠ x → u ≠ p1 → u ≠ p2 → u ≠ p3 → u ≠ p4 → u ≠ p5 → S' u = S u) → Q .non S'
end K48

/-! works made in full, and frozen. -/
namespace K48
open PySem PySem.Spec PyProof.Rows L2 VL Nm
variable {K : PySem.W.Frag}
theorem set_dct {C x : Addr} {f : Str} {fs : List (Str × D)} {Z : EndsD} {σ : Sd} {S : Sto} (hσ : σ[0]? = some (some (.ref x))) (hx : S x = some (.ins C fs)) (hf : fs.length < 1000)
    (h : ∀ p S', S p = none → p ≠ x → S' x = some (.ins C (putG f (.ref p) fs)) → S' p = some (.dct []) → (∀ u, u ≠ x → u ≠ p → S' u = S u) → Z.nx σ S') : dSetF C f (dVar 0) dDctM Z σ S := by
  simp only [z_dSetF, z_dDctM, z_dVar, hσ]
  intro p hp
  have ne : p ≠ x := fun e => by rw [e, hx] at hp; cases hp
  have e1 : put S p (.dct []) x = some (.ins C fs) := by rw [put_ne (Ne.symm ne)]; exact hx
  simp only [e1, true_and]
  refine ⟨hf, h p _ hp ne put_same (by rw [put_ne ne, put_same]) fun u h1 h2 => by rw [put_ne h1, put_ne h2]⟩
theorem set_lst {C x : Addr} {f : Str} {fs : List (Str × D)} {Z : EndsD} {σ : Sd} {S : Sto} (hσ : σ[0]? = some (some (.ref x))) (hx : S x = some (.ins C fs)) (hf : fs.length < 1000)
    (h : ∀ p S', S p = none → p ≠ x → S' x = some (.ins C (putG f (.ref p) fs)) → S' p = some (.lst []) → (∀ u, u ≠ x → u ≠ p → S' u = S u) → Z.nx σ S') : dSetF C f (dVar 0) (dLstM dNil) Z σ S := by
  simp only [z_dSetF, z_dLstM, z_dNil, z_dVar, hσ]
  refine ⟨sz0, fun p hp => ?_⟩
  have ne : p ≠ x := fun e => by rw [e, hx] at hp; cases hp
  have e1 : put S p (.lst []) x = some (.ins C fs) := by rw [put_ne (Ne.symm ne)]; exact hx
  simp only [e1, true_and]
  refine ⟨hf, h p _ hp ne put_same (by rw [put_ne ne, put_same]) fun u h1 h2 => by rw [put_ne h1, put_ne h2]⟩
theorem ok_init : BodyOk (d_Works___init__ K (sp_take_points K) (sp_take_rules K) (sp_take_causes K) (sp_take_rules K) (sp_take_relations K)) ["self", "points", "rules", "causes", "commands", "relations"] (sp_init K) := by
  rintro _ S Q E ⟨x, y, z, pts, rls, rfl, hy, hz, vp, hl, hv, hx, h⟩
  simp only [d_Works___init__, startD, z_dSeq]
  refine set_dct rfl hx (by decide) fun p1 S1 n1 e1 x1 d1 k1 => ?_
  refine set_dct rfl x1 (show (1 : Nat) < 1000 by decide) fun p2 S2 n2 e2 x2 d2 k2 => ?_
  refine set_dct rfl x2 (show (2 : Nat) < 1000 by decide) fun p3 S3 n3 e3 x3 d3 k3 => ?_
  refine set_dct rfl x3 (show (3 : Nat) < 1000 by decide) fun p4 S4 n4 e4 x4 d4 k4 => ?_
  refine set_lst rfl x4 (show (4 : Nat) < 1000 by decide) fun p5 S5 n5 e5 x5 d5 k5 => ?_
  replace x5 : S5 x = some (.ins (He.ga K "Works") (wF (.ref p1) (.ref p2) (.ref p3) (.ref p4) (.ref p5))) := x5
  -- all apart
  have q12 : p1 ≠ p2 := mem_ne d1 n2
  have b1_2 : S2 p1 = some (.dct []) := by rw [k2 _ e1 q12]; exact d1
  have q13 : p1 ≠ p3 := mem_ne b1_2 n3
  have b1_3 : S3 p1 = some (.dct []) := by rw [k3 _ e1 q13]; exact b1_2
  have q23 : p2 ≠ p3 := mem_ne d2 n3
  have b2_3 : S3 p2 = some (.dct []) := by rw [k3 _ e2 q23]; exact d2
  have q14 : p1 ≠ p4 := mem_ne b1_3 n4
  have b1_4 : S4 p1 = some (.dct []) := by rw [k4 _ e1 q14]; exact b1_3
  have q24 : p2 ≠ p4 := mem_ne b2_3 n4
  have b2_4 : S4 p2 = some (.dct []) := by rw [k4 _ e2 q24]; exact b2_3
  have q34 : p3 ≠ p4 := mem_ne d3 n4
  have b3_4 : S4 p3 = some (.dct []) := by rw [k4 _ e3 q34]; exact d3
  have q15 : p1 ≠ p5 := mem_ne b1_4 n5
  have b1 : S5 p1 = some (.dct []) := by rw [k5 _ e1 q15]; exact b1_4
  have q25 : p2 ≠ p5 := mem_ne b2_4 n5
  have b2 : S5 p2 = some (.dct []) := by rw [k5 _ e2 q25]; exact b2_4
  have q35 : p3 ≠ p5 := mem_ne b3_4 n5
  have b3 : S5 p3 = some (.dct []) := by rw [k5 _ e3 q35]; exact b3_4
  have q45 : p4 ≠ p5 := mem_ne d4 n5
  have b4 : S5 p4 = some (.dct []) := by rw [k5 _ e4 q45]; exact d4
  have f2 : S p2 = none := by rw [← k1 _ e2 (Ne.symm q12)]; exact n2
  have f3 : S p3 = none := by rw [← k1 _ e3 (Ne.symm q13), ← k2 _ e3 (Ne.symm q23)]; exact n3
  have f4 : S p4 = none := by rw [← k1 _ e4 (Ne.symm q14), ← k2 _ e4 (Ne.symm q24), ← k3 _ e4 (Ne.symm q34)]; exact n4
  have f5 : S p5 = none := by rw [← k1 _ e5 (Ne.symm q15), ← k2 _ e5 (Ne.symm q25), ← k3 _ e5 (Ne.symm q35), ← k4 _ e5 (Ne.symm q45)]; exact n5
  have kk : ∀ u, u ≠ x → u ≠ p1 → u ≠ p2 → u ≠ p3 → u ≠ p4 → u ≠ p5 → S5 u = S u := fun u a b c d e f => by rw [k5 _ a f, k4 _ a e, k3 _ a d, k2 _ a c, k1 _ a b]
  clear k1 k2 k3 k4 k5 x1 x2 x3 x4 n2 n3 n4 n5 b1_2 b1_3 b1_4 b2_3 b2_4 b3_4 d1 d2 d3 d4
  have b5 := d5
  have q1x := e1
  have x6 : put S5 p1 (.dct (ptsK pts)) x = some (.ins (He.ga K "Works") (wF (.ref p1) (.ref p2) (.ref p3) (.ref p4) (.ref p5))) := by rw [put_ne (Ne.symm e1)]; exact x5
  have c2 : put S5 p1 (.dct (ptsK pts)) p2 = some (.dct []) := by rw [put_ne (Ne.symm q12)]; exact b2
  have c3 : put S5 p1 (.dct (ptsK pts)) p3 = some (.dct []) := by rw [put_ne (Ne.symm q13)]; exact b3
  have c4 : put S5 p1 (.dct (ptsK pts)) p4 = some (.dct []) := by rw [put_ne (Ne.symm q14)]; exact b4
  have c5 : put S5 p1 (.dct (ptsK pts)) p5 = some (.lst []) := by rw [put_ne (Ne.symm q15)]; exact b5
  have c1 : put S5 p1 (.dct (ptsK pts)) p1 = some (.dct (ptsK pts)) := put_same
  have ck : ∀ u, u ≠ p1 → put S5 p1 (.dct (ptsK pts)) u = S5 u := fun u hu => put_ne hu
  simp only [z_dSeq]
  simp [-List.lookup_eq_none_iff, x5, no_t1]
  refine ⟨x, p1, _, _, _, _, y, pts, [], rfl, hy, vp, x5, b1, e1, fun o => vw_ref_lst (by rw [put_ne (Ne.symm q15)]; exact b5), ?_⟩
  generalize put S5 p1 (.dct (ptsK pts)) = S6 at x6 c1 c2 c3 c4 c5 ck ⊢
  simp [-List.lookup_eq_none_iff, x6, no_t2]
  refine ⟨_, rfl, ?_⟩
  simp [-List.lookup_eq_none_iff, x6, no_t3]
  refine ⟨x, p2, _, _, _, _, rfl, x6, c2, ?_⟩
  simp [-List.lookup_eq_none_iff, x6, no_t4]
  refine ⟨_, rfl, ?_⟩
  simp [-List.lookup_eq_none_iff, x6, no_t5]
  refine ⟨x, p5, _, _, _, _, z, pts, rls, rfl, hz, hl, hv, x6, c5, e5, fun o => vw_ref_dct (by rw [put_ne q15]; exact c1), ?_⟩
  refine fin_now (h _ p1 p2 p3 p4 p5 ?_ ?_ ?_ ?_ ?_ put_same n1 f2 f3 f4 f5 fun u a b c d e f => ?_)
  · rw [put_ne (Ne.symm e5)]; exact x6
  · rw [put_ne q15]; exact c1
  · rw [put_ne q25]; exact c2
  · rw [put_ne q35]; exact c3
  · rw [put_ne q45]; exact c4
  · rw [put_ne f, ck u b]; exact kk u a b c d e f
/-- works made, and seen from here on as they stand -/
theorem frz_works {S : Sto} {x : Addr} {y z : D} {pts : List Pt} {rls : List Rl} {Q : QD} {E : XD} (hx : S x = none) (hy : lots y (pts.map ptD)) (hz : lots z (rls.map rlD)) (vp : VPts pts) (hl : rls.length ≤ 5) (hv : ∀ r ∈ rls, VRl pts r) (h : Q (wkD K pts rls) S) :
    sp_init K [.ref x, y, .tup [], .tup [], .tup [], z] (put S x (.ins (He.ga K "Works") [])) (fun v S2 => v = .non ∧ frzI Q (.ref x) S2) E := by
  refine ⟨x, y, z, pts, rls, rfl, hy, hz, vp, hl, hv, put_same, fun S' p1 p2 p3 p4 p5 hx' b1 b2 b3 b4 b5 n1 n2 n3 n4 n5 kk => ⟨rfl, frzI_at hx' ?_⟩⟩
  have e1 : (wF (.ref p1) (.ref p2) (.ref p3) (.ref p4) (.ref p5)).map (fun x => (x.1, vwA S' x.2)) = wF (.dct (ptsK pts)) (.dct []) (.dct []) (.dct []) (.lst (rls.map rlD)) := by
    simp [wF, vwA_dct b1, vwA_dct b2, vwA_dct b3, vwA_dct b4, vwA_lst b5]
  have np : ∀ p, put S x (.ins (He.ga K "Works") []) p = none → S p = none := fun p hp => by
    by_cases e : p = x
    · rw [e, put_same] at hp; cases hp
    · rw [put_ne e] at hp; exact hp
  have e2 : eraI S' x (wF (.ref p1) (.ref p2) (.ref p3) (.ref p4) (.ref p5)) = S := by
    funext u
    unfold eraI
    split
    · next c =>
      rcases c with rfl | c
      · exact hx.symm
      · simp [wF] at c
        rcases c with rfl | rfl | rfl | rfl | rfl
        · exact (np _ n1).symm
        · exact (np _ n2).symm
        · exact (np _ n3).symm
        · exact (np _ n4).symm
        · exact (np _ n5).symm
    · next c =>
      simp [wF, not_or] at c
      obtain ⟨c0, c1, c2, c3, c4, c5⟩ := c
      rw [kk u c0 (Ne.symm c1) (Ne.symm c2) (Ne.symm c3) (Ne.symm c4) (Ne.symm c5), put_ne c0]
  rw [e1, e2]
  exact h
end K48

/-! whose works they are. -/
namespace K48
open PySem PySem.Spec PyProof.Rows L2 VL Nm
variable {K : PySem.W.Frag}
theorem wv_ty {S : Sto} {d : D} {pts : List Pt} {rls : List Rl} (h : Wv K S d pts rls) : tyN (vw S d) = none := by
  obtain ⟨a, b, c, e, f, h1, _, _⟩ := h
  cases d with
  | ref p =>
    rw [insV_ref] at h1
    split at h1
    · next C fs es =>
      rcases vw_ref (S := S) (a := p) with ⟨xs, q1, q2⟩ | ⟨xs, q1, q2⟩ | q2
      · rw [es] at q1; cases q1
      · rw [es] at q1; cases q1
      · rw [q2]; rfl
    · cases h1
  | ins C fs => rfl
  | _ => cases h1
def sp_need_works (K : PySem.W.Frag) : Spd := fun ds S Q _ => ∃ (d : D) (pts : List Pt) (rls : List Rl), ds = [d] ∧ Wv K S d pts rls ∧ Q .non S
theorem ok_need_works : BodyOk (d_need_works K) ["thing"] (sp_need_works K) := by
  rintro _ S Q E ⟨d, pts, rls, rfl, hw, h⟩
  have ht := wv_ty hw
  obtain ⟨a, b, c, e, f, h1, h2, h3⟩ := hw
  simp [-insV_ref, d_need_works, startD, ht, h1]
  exact fin_now h
end K48

/-! the law's own defs: cells, boxes, drawing. -/
namespace K48
open PySem PySem.Spec PyProof.Rows L2 VL Nm
variable {K : PySem.W.Frag}
theorem enum_map {α : Type} (g : α → D) : ∀ (l : List α) (n : Nat), enumD n (l.map g) = (l.zipIdx n).map fun x => .tup [.int (x.2 : Int), g x.1]
  | [], n => rfl
  | a :: l, n => by rw [List.map_cons, enumD, enum_map g l (n + 1), List.zipIdx_cons, List.map_cons]
theorem at_zero {α : Type} {g : α → D} {l : List α} {x : α} (h : l.head? = some x) : atI (l.map g) 0 = some (g x) := by
  cases l with
  | nil => cases h
  | cons y l => cases h; unfold atI ixN; simp
abbrev Bx := Int × Int × Int
def bxO (x : Bx) : O := .lst [.int x.1, .int x.2.1, .int x.2.2]
def okB (x : Bx) (n : Nat) : Prop := 0 ≤ x.1 ∧ 0 ≤ x.2.1 ∧ x.2.1 < 2 ^ 31 ∧ 0 ≤ x.2.2 ∧ x.2.2 ≤ n
theorem okB.up {x : Bx} {n m : Nat} (h : okB x n) (le : n ≤ m) : okB x m := ⟨h.1, h.2.1, h.2.2.1, h.2.2.2.1, by have := h.2.2.2.2; omega⟩
def sp__law_cell : Spd := fun ds S Q _ => ∃ (ns : List Int) (k : Int), ds = [.lst (ns.map D.int), .int k] ∧ 0 ≤ k ∧ k ≤ 100 ∧ ∀ c : Int, Q (.int c) S
theorem ok__law_cell : BodyOk (d__law_cell K) ["script", "k"] sp__law_cell := by
  rintro _ S Q E ⟨ns, k, rfl, h1, h2, h⟩
  have cm : CMulW 67867967 k := mulW (by decide) (lt_big (by omega))
  simp [d__law_cell, startD, cm]
  by_cases c : k < (List.length ns : Int)
  · have e : atI (ns.map D.int) k = some (D.int (ns[k.toNat]'(by omega))) := by
      unfold atI ixN
      rw [if_pos h1, if_pos (by simpa using c)]
      simp
    simp [c, e]
    exact fin_now (h _)
  · simp [c]
    exact fin_now (h _)
def sp__law_box : Spd := fun ds S Q _ => ∃ c : Int, ds = [.int c] ∧ ∀ p x, S p = none → okB x 0 → Q (.ref p) (put S p (bxO x))
theorem ok__law_box : BodyOk (d__law_box K) ["cell"] sp__law_box := by
  rintro _ S Q E ⟨c, rfl, h⟩
  have m0 := Int.emod_nonneg c (by decide : (2147483629 : Int) ≠ 0)
  have m1 := Int.emod_lt_of_pos c (by decide : (0 : Int) < 2147483629)
  have cp : CPow 10 18 := ⟨by decide, by decide, by decide⟩
  simp [d__law_box, startD, cp, sz3]
  intro p hp
  refine fin_now (h p (if (1000000000000000000 : Int) < c then c - 1000000000000000000 else 0, c % 2147483629, 0) hp ⟨?_, m0, ?_, Int.le_refl _, Int.le_refl _⟩)
  · dsimp only
    split <;> omega
  · dsimp only
    omega
def sp__law_take : Spd := fun ds S Q _ => ∃ (b : Addr) (x : Bx) (n : Nat) (m : Int), ds = [.ref b, .int m] ∧ S b = some (bxO x) ∧ okB x n ∧ n ≤ 100000 ∧ 0 < m ∧ m ≤ 100000 ∧ ∀ (x' : Bx) (d : Int), okB x' (n + 1) → 0 ≤ d → d < m → Q (.int d) (put S b (bxO x'))
theorem ok__law_take : BodyOk (d__law_take K) ["box", "many", "digit", "number"] sp__law_take := by
  rintro _ S Q E ⟨b, ⟨x, y, z⟩, n, m, rfl, hb, ⟨h1, h2, h3, h4, h5⟩, hn, hm, hm2, h⟩
  simp only at h1 h2 h3 h4 h5
  unfold bxO at hb
  simp only at hb
  have ev : vw S (.ref b) = .lst [.int x, .int y, .int z] := vw_ref_lst hb
  have d1 : CDivW x m := ⟨hm, by
    have : m.natAbs.log2 < 64 := (Nat.log2_lt (by omega)).mpr (by omega)
    omega⟩
  simp [d__law_take, startD, ev, atI, ixN]
  by_cases c : 0 < x
  · have := Int.emod_nonneg x (by omega : m ≠ 0)
    have := Int.emod_lt_of_pos x hm
    simp [c, hm, d1, hb, ixN]
    exact fin_now (h (x / m, y, z) (x % m) ⟨Int.ediv_nonneg h1 (by omega), h2, h3, h4, by dsimp only; omega⟩ (by omega) (by omega))
  · simp [c, hb, ixN]
    have ev2 : vw (put S b (.lst [.int x, .int y, .int (z + 1)])) (.ref b) = .lst [.int x, .int y, .int (z + 1)] := vw_ref_lst put_same
    have cm1 : CMulW 67867967 (z + 1) := mulW (by decide) (lt_big (by omega))
    have cm2 : CMulW 104729 (z + 1) := mulW (by decide) (lt_big (by omega))
    have cp1 : CPow (y + 67867967 * (z + 1) + 53) 5 := ⟨by decide, by decide, by omega⟩
    have t0 := Int.emod_nonneg ((y + 67867967 * (z + 1) + 53) ^ 5) (by decide : (2147483647 : Int) ≠ 0)
    have t1 := Int.emod_lt_of_pos ((y + 67867967 * (z + 1) + 53) ^ 5) (by decide : (0 : Int) < 2147483647)
    have cp2 : CPow ((y + 67867967 * (z + 1) + 53) ^ 5 % 2147483647 + 104729 * (z + 1)) 3 := ⟨by decide, by decide, by omega⟩
    have d2 : CDivW (((y + 67867967 * (z + 1) + 53) ^ 5 % 2147483647 + 104729 * (z + 1)) ^ 3 % 2147483587) 8 := ⟨by decide, by decide⟩
    simp [ev2, atI, ixN, cm1, cm2, cp1, cp2, d2, hm]
    refine fin_now (h (x, y, z + 1) _ ⟨h1, h2, h3, by dsimp only; omega, by dsimp only; omega⟩ (Int.emod_nonneg _ (by omega)) (Int.emod_lt_of_pos _ hm))
/-- a comprehension that draws c times at each item -/
theorem lc_box {gd : TGd} {dt : TTd} {de : TEd} {σ0 : Sd} {Q : List D → Sto → Prop} {b : Addr} {S : Sto} (P : D → Prop) (c N : Nat) : ∀ (ds acc : List D) (x : Bx) (n : Nat), okB x n → n + c * ds.length ≤ N →
    (∀ d ∈ ds, ∀ (x : Bx) (n : Nat), okB x n → n ≤ N → ∀ R : Option D → Sto → Prop, (∀ y x', P y → okB x' (n + c) → R (some y) (put S b (bxO x'))) → oneD gd dt de σ0 d (put S b (bxO x)) R) →
    (∀ ys x', ys.length = ds.length → (∀ y ∈ ys, P y) → okB x' (n + c * ds.length) → Q (acc ++ ys) (put S b (bxO x'))) → dLcL gd dt de σ0 Q ds acc (put S b (bxO x))
  | [], acc, x, n, ok, hN, st, h => by
    have := h [] x rfl (fun _ m => nomatch m) ok
    rw [List.append_nil] at this
    exact this
  | d :: ds, acc, x, n, ok, hN, st, h => by
    rw [List.length_cons, Nat.mul_succ] at hN
    refine st d (List.mem_cons_self ..) x n ok (by omega) (fun o S' => match o with
      | some y => dLcL gd dt de σ0 Q ds (acc ++ [y]) S'
      | none => dLcL gd dt de σ0 Q ds acc S') fun y x' py ok' => ?_
    refine lc_box P c N ds (acc ++ [y]) x' (n + c) ok' (by omega) (fun d hd => st d (List.mem_cons_of_mem _ hd)) fun ys x2 hl hp ok2 => ?_
    have := h (y :: ys) x2 (by rw [List.length_cons, List.length_cons, hl]) (fun z hz => by
      rcases List.mem_cons.mp hz with rfl | m
      · exact py
      · exact hp z m) (ok2.up (by rw [List.length_cons, Nat.mul_succ]; omega))
    rw [List.append_assoc]
    exact this
end K48

/-! things in a drawn order. -/
namespace K48
open PySem PySem.Spec PyProof.Rows L2 VL Nm
variable {K : PySem.W.Frag}
theorem perm_erase {α : Type} : ∀ {l : List α} {i : Nat} {d : α}, l[i]? = some d → (d :: l.eraseIdx i).Perm l
  | [], i, d, h => by simp at h
  | a :: l, 0, d, h => by simp at h; subst h; exact .refl _
  | a :: l, i + 1, d, h => by
    have h' : l[i]? = some d := by simpa using h
    exact (List.Perm.swap a d _).trans ((perm_erase h').cons a)
theorem perm_map_inv {α β : Type} {g : α → β} {ys zs : List β} (h : ys.Perm zs) : ∀ {l : List α}, zs = l.map g → ∃ l' : List α, l'.Perm l ∧ ys = l'.map g := by
  induction h with
  | nil =>
    intro l e
    cases l with
    | nil => exact ⟨[], .refl _, rfl⟩
    | cons a l => cases e
  | cons x h ih =>
    intro l e
    cases l with
    | nil => cases e
    | cons a l =>
      rw [List.map_cons] at e
      injection e with e1 e2
      obtain ⟨l', p, q⟩ := ih e2
      exact ⟨a :: l', p.cons a, by rw [List.map_cons, q, e1]⟩
  | swap x y l =>
    intro k e
    cases k with
    | nil => cases e
    | cons a k =>
      cases k with
      | nil => simp at e
      | cons c k =>
        rw [List.map_cons, List.map_cons] at e
        injection e with e1 e2
        injection e2 with e2 e3
        exact ⟨c :: a :: k, .swap a c k, by rw [List.map_cons, List.map_cons, e1, e2, e3]⟩
  | trans h1 h2 ih1 ih2 =>
    intro l e
    obtain ⟨l2, p2, q2⟩ := ih2 e
    obtain ⟨l1, p1, q1⟩ := ih1 q2
    exact ⟨l1, p1.trans p2, q1⟩
theorem ref_ne {S : Sto} {b p : Addr} {o : O} (hb : S b = some o) (hp : S p = none) : p ≠ b := fun e => by rw [e, hb] at hp; cases hp
theorem put_two {S : Sto} {b p : Addr} {o u v : O} (h : p ≠ b) : put (put (put S b o) p u) b v = put (put S b v) p u := by
  rw [put_comm h, put_put]
theorem sub_put {S : Sto} {p : Addr} {o : O} (h : S p = none) : Sub S (put S p o) := fun a => by
  by_cases e : a = p
  · left; rw [e]; exact h
  · right; exact (put_ne e).symm
theorem fin_put {Q : QD} {d : D} {S : Sto} {p : Addr} {o : O} (h : S p = none) (q : Q d S) : fin Q d (put S p o) := ⟨S, sub_put h, q⟩
theorem mix_loop {S : Sto} {b p : Addr} (hbp : p ≠ b) (some_ : D) {Q : List D → Sto → Prop} : ∀ (ks left acc : List D) (x : Bx) (n : Nat), ks.length = left.length → okB x n → n + ks.length ≤ 100000 → left.length ≤ 100000 →
    (∀ ys x', ys.Perm left → okB x' (n + ks.length) → Q (acc ++ ys) (put (put S b (bxO x')) p (.lst []))) →
    dLcL (hName 3) dYes (dPopAt (dVar 2) (dCons (dCall sp__law_take [] (dCons (dVar 0) (dCons (dCB dLen (dCons (dVar 2) dNil)) dNil))) dNil)) [some (.ref b), some some_, some (.ref p), none] Q ks acc (put (put S b (bxO x)) p (.lst left))
  | [], left, acc, x, n, hl, ok, hn, hm, h => by
    have e : left = [] := List.length_eq_zero_iff.mp hl.symm
    subst e
    have := h [] x (.refl _) ok
    rw [List.append_nil] at this
    exact this
  | k :: ks, left, acc, x, n, hl, ok, hn, hm, h => by
    rw [List.length_cons] at hl hn
    refine lc_step ?_
    have hv : vw (put (put S b (bxO x)) p (.lst left)) (.ref p) = .lst left := vw_ref_lst put_same
    have hb : put (put S b (bxO x)) p (.lst left) b = some (bxO x) := by rw [put_ne (Ne.symm hbp)]; exact put_same
    simp [oneD, put_same, hv]
    refine ⟨b, x, n, (left.length : Int), rfl, hb, ok, by omega, by omega, by omega, fun x' d ok' h0 h1 => ?_⟩
    rw [put_two hbp]
    have hd : d.toNat < left.length := by omega
    have hg : left[d.toNat]? = some left[d.toNat] := List.getElem?_eq_getElem hd
    simp [put_same, put_put, h0, hg, hd]
    refine ⟨by omega, ?_⟩
    refine mix_loop hbp some_ ks (left.eraseIdx d.toNat) (acc ++ [left[d.toNat]]) x' (n + 1) (by rw [List.length_eraseIdx_of_lt hd]; omega) ok' (by omega) (by rw [List.length_eraseIdx_of_lt hd]; omega) fun ys x2 pm ok2 => ?_
    rw [List.append_assoc]
    exact h (left[d.toNat] :: ys) x2 ((pm.cons _).trans (perm_erase hg)) (ok2.up (by rw [List.length_cons]; omega))
def sp__law_mixed : Spd := fun ds S Q _ => ∃ (b : Addr) (x : Bx) (n : Nat) (xs : List D), ds = [.ref b, .lst xs] ∧ S b = some (bxO x) ∧ okB x n ∧ n + xs.length ≤ 10000 ∧
  ∀ ys x', ys.Perm xs → okB x' (n + xs.length) → Q (.lst ys) (put S b (bxO x'))
theorem ok__law_mixed : BodyOk (d__law_mixed K sp__law_take) ["box", "some", "left", "k"] sp__law_mixed := by
  rintro _ S Q E ⟨b, x, n, xs, rfl, hb, ok, hn, h⟩
  simp [d__law_mixed, startD]
  intro p hp
  have ne := ref_ne hb hp
  refine ⟨by omega, by first | exact sz (by simp [rangeD_map]; omega) | exact sz (by omega), ?_⟩
  have hp' : ∀ x', put S b (bxO x') p = none := fun x' => by rw [put_ne ne]; exact hp
  have key := mix_loop (S := S) ne (.lst xs) (Q := fun acc S2 => fin Q (.lst acc) S2) (rangeD 0 xs.length) xs [] x n (by simp [rangeD_map]) ok (by simp [rangeD_map]; omega) (by omega) fun ys x' pm ok' => by
    rw [List.nil_append]
    exact fin_put (hp' x') (h ys x' pm (by simpa [rangeD_map] using ok'))
  rw [put_self hb] at key
  exact key
end K48

/-! names drawn. -/
namespace K48
open PySem PySem.Spec PyProof.Rows L2 VL Nm
variable {K : PySem.W.Frag}
theorem ev_take {b : Addr} {i : Nat} {S : Sto} {x : Bx} {n : Nat} {m : Int} {e : TEd} {σ : Sd} {Q : QD} {E : XD} (hi : σ[i]? = some (some (.ref b))) (ok : okB x n) (hn : n ≤ 100000) (hm : 0 < m) (hm2 : m ≤ 100000)
    (he : ∀ Q' : QD, Q' (.int m) (put S b (bxO x)) → e σ (put S b (bxO x)) Q' E) (h : ∀ x' d, okB x' (n + 1) → 0 ≤ d → d < m → Q (.int d) (put S b (bxO x'))) :
    dCall sp__law_take [] (dCons (dVar i) (dCons e dNil)) σ (put S b (bxO x)) Q E := by
  simp only [z_dCall, z_dCons, z_dVar, z_dNil, hi]
  exact he _ ⟨b, x, n, m, rfl, put_same, ok, hn, hm, hm2, fun x' d o h0 h1 => by
    rw [put_put]
    exact h x' d o h0 h1⟩
theorem asg_take {b : Addr} {j : Nat} {S : Sto} {x : Bx} {n : Nat} {m : Int} {Z : EndsD} {σ : Sd} (hi : σ[0]? = some (some (.ref b))) (ok : okB x n) (hn : n ≤ 100000) (hm : 0 < m) (hm2 : m ≤ 100000)
    (h : ∀ x' d, okB x' (n + 1) → 0 ≤ d → d < m → Z.nx (σ.set j (some (.int d))) (put S b (bxO x'))) : dAsg (dCall sp__law_take [] (dCons (dVar 0) (dCons (dC (.int m)) dNil))) (hName j) Z σ (put S b (bxO x)) := by
  rw [z_dAsg]
  exact ev_take hi ok hn hm hm2 (fun Q' q => q) h
def sp__law_names : Spd := fun ds S Q _ => ∃ (b : Addr) (x : Bx) (n : Nat) (many : Nat), ds = [.ref b, .int many] ∧ S b = some (bxO x) ∧ okB x n ∧ n ≤ 1000 ∧ many ≤ 8 ∧
  ∀ ns x', Names ns many → okB x' (n + 10) → Q (.lst (ns.map D.str)) (put S b (bxO x'))
theorem stem_of (cs : List Nat) (h : cs.length = 7) : ((cs.map fun c => (⟨#[c]⟩ : Str)).map (·.length)).sum ≤ 16777216 := by
  match cs, h with
  | [a, b, c, d, e, f, g], _ => exact (show ([1, 1, 1, 1, 1, 1, 1] : List Nat).sum ≤ 16777216 by decide)
theorem strs_cs (cs : List Nat) : strsD (cs.map fun c => D.str ⟨#[c]⟩) = some (cs.map fun c => (⟨#[c]⟩ : Str)) := by
  have : (cs.map fun c => D.str ⟨#[c]⟩) = (cs.map fun c => (⟨#[c]⟩ : Str)).map D.str := by rw [List.map_map]; rfl
  rw [this, strs_map]
theorem map_strs (f : Nat → Str) (n : Nat) : ((List.range n).map fun i => D.str (f i)) = ((List.range n).map f).map D.str := by rw [List.map_map]; rfl
theorem ok__law_names : BodyOk (d__law_names K sp__law_take) ["box", "many", "letters", "words", "way", "first", "k", "stem", "at", "heads", "head"] sp__law_names := by
  rintro _ S Q E ⟨b, x, n, many, rfl, hb, ok, hn, hm, h⟩
  rw [← put_self hb]
  simp only [d__law_names, startD, z_dSeq, z_dAsg, z_dC, z_hName, List.map_cons, List.map_nil, List.length_cons, List.length_nil, List.replicate, List.cons_append, List.nil_append, List.set_cons_succ, List.set_cons_zero]
  refine (show ∀ R : QD, R (.lst (words.map D.str)) (put S b (bxO x)) → dSplit (dC (.str "here silent gone card piece word saw turn left back born less a")) (dC (.str " ")) _ (put S b (bxO x)) R _ from fun R r => ⟨by decide, sz (by decide), r⟩) _ ?_
  refine ev_take rfl ok (by omega) (by decide) (by decide) (fun Q' q => q) fun x1 way ok1 w0 w1 => ?_
  refine ev_take rfl ok1 (by omega) (by decide) (by decide) (fun Q' q => q) fun x2 first ok2 f0 f1 => ?_
  refine ev_if (decide (way = 0)) (fun Q' q => ?_) ?_
  · simp
    exact q
  by_cases c0 : way = 0
  · simp only [c0, decide_true, if_true]
    have := way0_names first (n := many) (by omega)
    simp [rangeD_map]
    refine ⟨by omega, sz (by omega), ?_⟩
    refine lc_all (fun i : Nat => D.int (i : Int)) (fun i => .str (way0 first i)) (List.range many) (fun i hi R q => ?_) ?_
    · have hi' := List.mem_range.mp hi
      have cm : CMulW 5 (i : Int) := mulW (by decide) (lt_big (by omega))
      have h0 := Int.emod_nonneg (first + 5 * (i : Int)) (by decide : (13 : Int) ≠ 0)
      have ha : atI (words.map D.str) ((first + 5 * (i : Int)) % 13) = some (.str (way0 first i)) := by
        have := at_n (ds := words.map D.str) (k := ((first + 5 * (i : Int)) % 13).toNat) (d := .str (way0 first i)) (by rw [List.getElem?_map, way0_at first i]; rfl)
        rw [Int.toNat_of_nonneg h0] at this
        exact this
      simp [oneD, wipeD, cm, ha]
      exact q
    · rw [map_strs]
      exact fin_now (h _ _ this (ok2.up (by omega)))
  simp only [c0, decide_false, Bool.false_eq_true, if_false, z_dNext, z_dSeq, z_dAsg]
  -- the stem
  have stemE : ∀ R : QD, (∀ (cs : List Nat) x3, cs.length = 7 → (∀ c ∈ cs, Lt c) → okB x3 (n + 2 + 7) → R (.str (Txt.join "" (cs.map fun c => (⟨#[c]⟩ : Str)))) (put S b (bxO x3))) →
      dJoin (dC (.str "")) (dLc (nRng1 (dCons (dC (.int 7)) dNil)) (hName 6) dYes (dOp dIx (dVar 2) (dCall sp__law_take [] (dCons (dVar 0) (dCons (dC (.int 26)) dNil)))) [6]) [some (.ref b), some (.int many), some (.str "abcdefghijklmnopqrstuvwxyz"), some (.lst (words.map D.str)), some (.int way), some (.int first), none, none, none, none, none] (put S b (bxO x2)) R (finX E) := by
    intro R r
    unfold dJoin
    simp [rangeD_map]
    refine ⟨sz (by decide), ?_⟩
    refine lc_box (fun y => ∃ c : Nat, Lt c ∧ y = .str ⟨#[c]⟩) 1 10000 _ [] x2 (n + 2) ok2 (by simp; omega) (fun d hd y m oky hm' R2 r2 => ?_) fun ys x3 hl hy ok3 => ?_
    · simp [oneD, wipeD]
      refine ⟨b, y, m, 26, rfl, put_same, oky, by omega, by decide, by decide, fun y' i ok' i0 i1 => ?_⟩
      rw [put_put]
      have ha := abc_at i0 i1
      have ha' : atI ("abcdefghijklmnopqrstuvwxyz" : Str).cps.toList i = some (97 + i.toNat) := ha
      refine ⟨sz (by decide), ?_⟩
      rw [ha']
      exact r2 _ _ ⟨_, let_lt i0 i1, rfl⟩ ok'
    · obtain ⟨cs, hc, rfl⟩ := pick_list hy
      rw [List.length_map] at hl
      have hl7 : cs.length = 7 := by simpa using hl
      have e0 : (Str.ofString "").length = 0 := by decide +kernel
      have hs := stem_of cs hl7
      simp only [List.nil_append, vw_lst, strs_cs]
      refine ⟨?_, r cs x3 hl7 hc (ok3.up (by simp))⟩
      rw [e0, Nat.mul_zero, Nat.add_zero]
      exact hs
  refine stemE _ fun cs x3 hl hc ok3 => ?_
  try simp only [z_hName, List.set_cons_succ, List.set_cons_zero]
  have lsj := join_cs cs
  have hl' : (ls (Txt.join "" (cs.map fun c => (⟨#[c]⟩ : Str)))).length = 7 := by rw [lsj]; exact hl
  have hc' : ∀ c ∈ ls (Txt.join "" (cs.map fun c => (⟨#[c]⟩ : Str))), Lt c := by rw [lsj]; exact hc
  generalize Txt.join "" (cs.map fun c => (⟨#[c]⟩ : Str)) = stem at hl' hc'
  have hsl : stem.length = 7 := by rw [← ls_len]; exact hl'
  refine ev_if (decide (way = 1) && decide ((many : Int) < 8)) (fun Q' q => ?_) ?_
  · simp
    by_cases c1 : way = 1
    · simp [c1] at q ⊢; exact q
    · simp [c1] at q ⊢; exact q
  cases cc : (decide (way = 1) && decide ((many : Int) < 8)) with
  | true =>
    obtain ⟨c1, c2⟩ := Bool.and_eq_true_iff.mp cc
    have c2' := of_decide_eq_true c2
    have := way1_names hl' hc' first (n := many) (by omega)
    simp [rangeD_map]
    refine ⟨by omega, sz (by omega), ?_⟩
    refine lc_all (fun i : Nat => D.int (i : Int)) (fun i => .str (way1 stem first i)) (List.range many) (fun i hi R q => ?_) ?_
    · have hi' := List.mem_range.mp hi
      have cm : CMulW 3 (i : Int) := mulW (by decide) (lt_big (by omega))
      simp [oneD, wipeD, cm]
      exact ⟨sz (by omega), q⟩
    · rw [map_strs]
      exact fin_now (h _ _ this (ok3.up (by omega)))
  | false =>
    simp only [Bool.false_eq_true, if_false, z_dNext, z_dSeq, z_dAsg]
    refine ev_take rfl ok3 (by omega) (by decide) (by decide) (fun Q' q => q) fun x4 at_ ok4 a0 a1 => ?_
    simp only [z_hName, z_dSeq, z_dAsg, List.set_cons_succ, List.set_cons_zero]
    have nms := way2_names hl' hc' a0 a1 first (n := many) (by omega)
    refine (show ∀ R : QD, R (.lst ((List.range many).map fun i : Nat => D.str (let_ ((first + 7 * (i : Int)) % 26)))) (put S b (bxO x4)) → dLc (nRng1 (dCons (dVar 1) dNil)) (hName 6) dYes (dOp dIx (dVar 2) (dOp dMod (dOp dAdd (dVar 5) (dOp dMulI (dC (.int 7)) (dVar 6))) (dC (.int 26)))) [6] [some (.ref b), some (.int many), some (.str "abcdefghijklmnopqrstuvwxyz"), some (.lst (words.map D.str)), some (.int way), some (.int first), none, some (.str stem), some (.int at_), none, none] (put S b (bxO x4)) R (finX E) from fun R r => ?_) _ ?_
    · simp [rangeD_map]
      refine ⟨by omega, sz (by omega), ?_⟩
      refine lc_all (fun i : Nat => D.int (i : Int)) (fun i : Nat => D.str (let_ ((first + 7 * (i : Int)) % 26))) (List.range many) (fun i hi R q => ?_) r
      have hi' := List.mem_range.mp hi
      have cm : CMulW 7 (i : Int) := mulW (by decide) (lt_big (by omega))
      have h0 := Int.emod_nonneg (first + 7 * (i : Int)) (by decide : (26 : Int) ≠ 0)
      have h1 := Int.emod_lt_of_pos (first + 7 * (i : Int)) (by decide : (0 : Int) < 26)
      have ha := abc_at h0 h1
      have ha' : atI ("abcdefghijklmnopqrstuvwxyz" : Str).cps.toList ((first + 7 * (i : Int)) % 26) = some (97 + ((first + 7 * (i : Int)) % 26).toNat) := ha
      simp [oneD, wipeD, cm]
      refine ⟨sz (by decide), ?_⟩
      rw [ha']
      exact q
    · try simp only [z_hName, z_dRet, List.set_cons_succ, List.set_cons_zero]
      refine (show ∀ R : QD, R (.lst ((List.range many).map fun i => .str (way2 stem at_ first i))) (put S b (bxO x4)) → dLc (nEnum (dCons (dVar 9) dNil)) (hTup 2 (hCons (hName 6) (hCons (hName 10) hNil))) dYes (dOp dAdd (dOp dAdd (dSlice (dVar 7) dNoPart (dPart (dVar 8))) (dVar 10)) (dSlice (dVar 7) (dPart (dVar 8)) (dPart (dOp dSub (dC (.int 6)) (dOp dMod (dVar 6) (dC (.int 3))))))) [6, 10] [some (.ref b), some (.int many), some (.str "abcdefghijklmnopqrstuvwxyz"), some (.lst (words.map D.str)), some (.int way), some (.int first), none, some (.str stem), some (.int at_), some (.lst ((List.range many).map fun i : Nat => D.str (let_ ((first + 7 * (i : Int)) % 26)))), none] (put S b (bxO x4)) R (finX E) from fun R r => ?_) _ ?_
      · simp [enumD_len]
        refine ⟨sz (by omega), ?_⟩
        rw [enum_map]
        have hzip : ((List.range many).zipIdx 0) = (List.range many).map fun i => (i, i) := by
          refine List.ext_getElem (by simp) fun i h1 h2 => ?_
          simp
        rw [hzip, List.map_map]
        refine lc_all _ (fun i => .str (way2 stem at_ first i)) (List.range many) (fun i hi R q => ?_) r
        have e1 : (cutS stem none (some at_)).length ≤ 7 := by have := cutS_length stem none (some at_); omega
        have e2 : (cutS stem (some at_) (some (6 - (i : Int) % 3))).length ≤ 7 := by have := cutS_length stem (some at_) (some (6 - (i : Int) % 3)); omega
        have e3 : (let_ ((first + 7 * (i : Int)) % 26)).length = 1 := rfl
        have e4 : (cutS stem none (some at_) ++ let_ ((first + 7 * (i : Int)) % 26)).length ≤ 8 := by rw [← ls_len, ls_app, List.length_append, ls_len, ls_len]; omega
        simp [oneD, wipeD, hsl]
        exact ⟨sz (by omega), sz (by omega), sz (by omega), sz (by omega), q⟩
      · rw [map_strs]
        exact fin_now (h _ _ nms (ok4.up (by omega)))
end K48

/-! points drawn. -/
namespace K48
open PySem PySem.Spec PyProof.Rows L2 VL Nm
variable {K : PySem.W.Frag}
def pls : List Str := ["pa", "place", "q"]
theorem pls_nm : ∀ s ∈ pls, Nm s := fun s hs => nm_of (List.all_eq_true.mp (show pls.all nmB = true by decide +kernel) s hs)
theorem kind_at {d : Int} (h0 : 0 ≤ d) (h1 : d < 3) : ∃ lv, atI [D.str "level", D.str "level", D.str "switch"] d = some (D.str (kiS lv)) := by
  have : d = 0 ∨ d = 1 ∨ d = 2 := by omega
  rcases this with rfl | rfl | rfl
  · exact ⟨true, rfl⟩
  · exact ⟨true, rfl⟩
  · exact ⟨false, rfl⟩
theorem pts_draw {S : Sto} {b p : Addr} (hbp : p ≠ b) (places : List Str) (h1 : 1 ≤ places.length) (h3 : places.length ≤ 3) (hs : ∀ s ∈ places, s ∈ pls) (nsD : D) (Z : EndsD) :
    ∀ (l : List Str) (acc : List Pt) (x : Bx) (n : Nat) (o5 o6 : Option D), okB x n → n + 2 * l.length ≤ 10000 → acc.length + l.length ≤ 1000 → (∀ q ∈ acc, q.p ∈ pls) →
      (∀ (pts : List Pt) (x' : Bx) (o5 o6 : Option D), pts.map (·.n) = acc.map (·.n) ++ l → (∀ q ∈ pts, q.p ∈ pls) → okB x' (n + 2 * l.length) → Z.nx [some (.ref b), some nsD, some (.int 8), some (.lst (places.map D.str)), some (.ref p), o5, o6, none] (put (put S b (bxO x')) p (.lst (pts.map ptD)))) →
      dForL (g__law_points_0 K sp__law_take) (b__law_points_0 K sp__law_take) Z (l.map D.str) [some (.ref b), some nsD, some (.int 8), some (.lst (places.map D.str)), some (.ref p), o5, o6, none] (put (put S b (bxO x)) p (.lst (acc.map ptD)))
  | [], acc, x, n, o5, o6, ok, hn, hl, ha, h => h acc x o5 o6 (by simp) ha ok
  | s :: l, acc, x, n, o5, o6, ok, hn, hl, ha, h => by
    rw [List.length_cons] at hn hl
    have hb : ∀ x o, put (put S b (bxO x)) p o b = some (bxO x) := fun x o => by rw [put_ne (Ne.symm hbp)]; exact put_same
    have hpp : ∀ x o, put (put S b (bxO x)) p o p = some o := fun x o => put_same
    rw [List.map_cons, for_cons]
    simp only [u_g__law_points_0, u_b__law_points_0, z_hName, z_dSeq, z_dAsg]
    have kindE : ∀ (σ : Sd) (E : XD) (R : QD), σ[0]? = some (some (.ref b)) → (∀ x1 lv, okB x1 (n + 1) → R (.str (kiS lv)) (put (put S b (bxO x1)) p (.lst (acc.map ptD)))) →
        dOp dIx (dLst (dCons (dC (.str "level")) (dCons (dC (.str "level")) (dCons (dC (.str "switch")) dNil)))) (dCall sp__law_take [] (dCons (dVar 0) (dCons (dC (.int 3)) dNil))) σ (put (put S b (bxO x)) p (.lst (acc.map ptD))) R E := by
      intro σ E R hσ r
      simp [sz3, hσ]
      refine ⟨b, x, n, 3, rfl, hb _ _, ok, by omega, by decide, by decide, fun x1 d ok1 d0 d1 => ?_⟩
      rw [put_two hbp]
      obtain ⟨lv, hk⟩ := kind_at d0 d1
      simp only [vw_lst, hk]
      exact r x1 lv ok1
    refine kindE _ _ _ rfl fun x1 lv ok1 => ?_
    try simp only [z_hName, List.set_cons_succ, List.set_cons_zero]
    -- the rest, whatever the kind
    have rest : ∀ lv', (dDrop (dAppend (dVar 4) (dCons (dTup (dCons (dVar 5) (dCons (dOp dIx (dVar 3) (dCall sp__law_take [] (dCons (dVar 0) (dCons (dCB dLen (dCons (dVar 3) dNil)) dNil)))) (dCons (dVar 6) dNil)))) dNil)))
        { Z with nx := dForL (g__law_points_0 K sp__law_take) (b__law_points_0 K sp__law_take) Z (l.map D.str), ct := dForL (g__law_points_0 K sp__law_take) (b__law_points_0 K sp__law_take) Z (l.map D.str), bk := Z.nx }
        [some (.ref b), some nsD, some (.int 8), some (.lst (places.map D.str)), some (.ref p), some (.str s), some (.str (kiS lv')), none] (put (put S b (bxO x1)) p (.lst (acc.map ptD))) := by
      intro lv'
      simp [hpp, sz3]
      refine ⟨b, x1, n + 1, (places.length : Int), rfl, hb _ _, ok1, by omega, by omega, by omega, fun x2 e ok2 e0 e1 => ?_⟩
      rw [put_two hbp]
      obtain ⟨y, hy, hat⟩ := at_map (l := places) (g := D.str) e0 e1
      have ym := hs y (List.mem_of_getElem? hy)
      simp [hat, hpp, put_put]
      refine ⟨szl (by omega), ?_⟩
      have := pts_draw hbp places h1 h3 hs nsD Z l (acc ++ [⟨s, y, lv'⟩]) x2 (n + 2) (some (.str s)) (some (.str (kiS lv'))) ok2 (by omega) (by simp; omega) (fun q hq => by
        rcases List.mem_append.mp hq with m | m
        · exact ha q m
        · rw [List.mem_singleton.mp m]; exact ym) fun pts x' o5 o6 e1 e2 ok' => h pts x' o5 o6 (by simpa using e1) e2 (ok'.up (by rw [List.length_cons]; omega))
      simpa [ptD] using this
    refine ev_if (decide ((8 : Int) ≤ ((acc.filter (·.lv)).length : Int))) (fun Q' q => ?_) ?_
    · simp [hpp]
      refine ⟨sz (by omega), ?_⟩
      refine lcRL_map (hpp _ _) ptD (fun y => if y.lv = true then some (ptD y) else none) acc [] (fun y hy R r => ?_) ?_
      · simp [oneD, wipeD, vw_pt, atI, ixN, ki_level]
        cases c : y.lv <;> rw [c] at r <;> simp <;> exact r
      · rw [List.nil_append, fm_if]
        simp
        simpa using q
    · by_cases c : (8 : Int) ≤ ((acc.filter (·.lv)).length : Int)
      · simp only [c, decide_true, if_true, z_dAsg, z_dC, z_hName, List.set_cons_succ, List.set_cons_zero]
        exact rest false
      · simp only [c, decide_false, Bool.false_eq_true, if_false, z_dNext]
        exact rest lv
def sp__law_points : Spd := fun ds S Q _ => ∃ (b : Addr) (x : Bx) (n : Nat) (ns : List Str), ds = [.ref b, .lst (ns.map D.str), .int 8] ∧ S b = some (bxO x) ∧ okB x n ∧ n ≤ 1000 ∧ ns.length ≤ 8 ∧
  ∀ (pts : List Pt) x', pts.map (·.n) = ns → (∀ q ∈ pts, q.p ∈ pls) → okB x' (n + 17) → Q (.lst (pts.map ptD)) (put S b (bxO x'))
theorem ok__law_points : BodyOk (d__law_points K sp__law_take) ["box", "names", "levels", "places", "found", "name", "kind", "one"] sp__law_points := by
  rintro _ S Q E ⟨b, x, n, ns, rfl, hb, ok, hn, hl, h⟩
  simp only [d__law_points, startD, z_dSeq, z_dAsg]
  simp [sz3]
  refine ⟨b, x, n, 3, rfl, hb, ok, by omega, by decide, by decide, fun x1 d ok1 d0 d1 => ?_⟩
  have hcut : cutD [D.str "pa", D.str "place", D.str "q"] none (some (1 + d)) = (pls.take (1 + d).toNat).map D.str := by
    have : (1 + d) = (((1 + d).toNat : Nat) : Int) := by omega
    rw [this, cut_take, List.map_take]
    rfl
  simp [hcut]
  intro p hp
  have hpb : p ≠ b := fun e => by rw [e, put_same] at hp; cases hp
  have hp0 : S p = none := by rw [put_ne hpb] at hp; exact hp
  have hlen : (pls.take (1 + d).toNat).length = (1 + d).toNat := by
    rw [List.length_take]
    have : pls.length = 3 := rfl
    omega
  have := pts_draw (K := K) (S := S) hpb (pls.take (1 + d).toNat) (by rw [hlen]; omega) (by rw [hlen]; omega) (fun s hs => List.mem_of_mem_take hs) (.lst (ns.map D.str)) { nx := dSee 4 (dRet (dVar 4)) { nx := fun _ S' => fin Q .non S', rt := fin Q, ex := fun _ => finX E }, rt := fin Q, ex := fun _ => finX E } ns [] x1 (n + 1) none none ok1 (by omega) (by simp; omega) (fun _ m => nomatch m) fun pts x' o5 o6 e1 e2 ok' => by
    have hpp : put (put S b (bxO x')) p (.lst (pts.map ptD)) p = some (.lst (pts.map ptD)) := put_same
    have hera : era (put (put S b (bxO x')) p (.lst (pts.map ptD))) p = put S b (bxO x') := by
      funext u
      by_cases c : u = p
      · rw [c, era_at, put_ne hpb]; exact hp0.symm
      · rw [era_ne c, put_ne c]
    simp [hpp, hera]
    exact fin_now (h pts x' (by simpa using e1) e2 (ok'.up (by omega)))
  rw [List.map_nil] at this
  simpa [List.map_take] using this
end K48

/-! signs, histories; the worth at a time. -/
namespace K48
open PySem PySem.Spec PyProof.Rows L2 VL Nm
variable {K : PySem.W.Frag}
structure Sg where
  t : Int
  w : Int
  g : Bool
def mkS (b : Bool) : Str := if b then "good" else "odd"
def sgD (x : Sg) : D := .tup [.int x.t, .int x.w, .str (mkS x.g)]
theorem vw_sg {S : Sto} {x : Sg} : vw S (sgD x) = .tup [.int x.t, .int x.w, .str (mkS x.g)] := rfl
theorem mk_good (b : Bool) : (mkS b = ("good" : Str)) ↔ b = true := by cases b <;> decide
structure VSg (x : Sg) : Prop where
  t0 : 0 ≤ x.t
  t1 : x.t ≤ 9999
  w0 : 0 ≤ x.w
  w1 : x.w ≤ 63
structure VH (rows : List Sg) : Prop where
  ok : ∀ x ∈ rows, VSg x
  up : rows.Pairwise fun x y => x.t < y.t
  hi : rows.length ≤ 100
def sp_is_time : Spd := fun ds S Q _ => ∃ i : Int, ds = [.int i] ∧ Q (.bl (decide (0 ≤ i) && decide (i ≤ 9999))) S
theorem ok_is_time : BodyOk (d_is_time K sp_is_whole) ["thing"] sp_is_time := by
  rintro _ S Q E ⟨i, rfl, h⟩
  simp [d_is_time, startD]
  exact ⟨i, 0, 9999, rfl, fin_now h⟩
def sp_is_mark : Spd := fun ds S Q _ => ∃ b : Bool, ds = [.str (mkS b)] ∧ Q (.bl true) S
theorem ok_is_mark : BodyOk (d_is_mark K) ["thing"] sp_is_mark := by
  rintro _ S Q E ⟨b, rfl, h⟩
  cases b <;> simp [d_is_mark, startD, tyN, isT, kindsB, mkS, flatD, inD, eqF] <;> exact fin_now h
def sp_need_time : Spd := fun ds S Q _ => ∃ i : Int, ds = [.int i] ∧ 0 ≤ i ∧ i ≤ 9999 ∧ Q .non S
theorem ok_need_time : BodyOk (d_need_time K sp_is_time) ["thing"] sp_need_time := by
  rintro _ S Q E ⟨i, rfl, h1, h2, h⟩
  simp [d_need_time, startD]
  refine ⟨i, rfl, ?_⟩
  simp [h1, h2]
  exact fin_now h
def sp_is_sign : Spd := fun ds S Q _ => ∃ x : Sg, ds = [sgD x] ∧ VSg x ∧ Q (.bl true) S
theorem ok_is_sign : BodyOk (d_is_sign K sp_is_mark sp_is_whole sp_is_time) ["thing", "time", "worth", "mark"] sp_is_sign := by
  rintro _ S Q E ⟨x, rfl, ⟨h1, h2, h3, h4⟩, h⟩
  simp [d_is_sign, startD, sgD, tyN, isT, kindsB]
  refine ⟨x.t, rfl, ?_⟩
  simp [h1, h2]
  refine ⟨x.w, 0, 63, rfl, ?_⟩
  simp [h3, h4]
  exact ⟨x.g, rfl, fin_now h⟩
theorem cut1 (ds : List D) : VL.cutD ds (some 1) none = ds.drop 1 := by
  unfold VL.cutD
  rw [show (some (1 : Int)) = some ((1 : Nat) : Int) from rfl, HT.sIx_nat, HT.sIx_none]
  cases ds with
  | nil => rfl
  | cons d ds => simp
theorem zip_sg : ∀ {l : List Sg}, l.Pairwise (fun x y => x.t < y.t) → ∀ d ∈ zipD (l.map sgD) ((l.map sgD).drop 1), ∃ a b : Sg, d = .tup [sgD a, sgD b] ∧ a.t < b.t
  | [], _, d, h => by simp [zipD] at h
  | [a], _, d, h => by simp [zipD] at h
  | a :: b :: r, p, d, h => by
    have h' : d ∈ D.tup [sgD a, sgD b] :: zipD (((b :: r)).map sgD) (((b :: r).map sgD).drop 1) := h
    rcases List.mem_cons.mp h' with e | h'
    · exact ⟨a, b, e, (List.pairwise_cons.mp p).1 b (List.mem_cons_self ..)⟩
    · exact zip_sg (List.pairwise_cons.mp p).2 d h'
theorem sz2 : (2 : Nat) ≤ sizeLine := sz (by decide)
def sp_need_history : Spd := fun ds S Q _ => ∃ d rows, ds = [d] ∧ lots d (rows.map sgD) ∧ VH rows ∧ Q .non S
theorem ok_need_history : BodyOk (d_need_history K sp_is_sign) ["thing", "sign", "one", "other"] sp_need_history := by
  rintro _ S Q E ⟨d, rows, rfl, hd, ⟨v1, v2, v3⟩, h⟩
  rcases hd with rfl | rfl <;>
  · simp [d_need_history, startD, tysD, kindsB, tyN, isT, sz2]
    refine ⟨sz (by omega), ?_⟩
    refine lcL_map sgD (fun _ => some (.bl true)) rows _ (fun x hx R hR => ?_) ?_
    · simp [oneD, wipeD]
      exact ⟨x, rfl, v1 x hx, hR⟩
    rw [List.nil_append, fm_some, bools_true]
    simp
    rw [cut1]
    refine ⟨sz (by rw [zipD_len]; simp; omega), ?_⟩
    refine lcL_of (fun _ => some (.bl true)) _ _ (fun d hd R hR => ?_) ?_
    · obtain ⟨a, b, rfl, hab⟩ := zip_sg v2 d hd
      simp [oneD, wipeD, sgD, atI, ixN, hab]
      exact hR
    rw [List.nil_append, fm_some, bools_true]
    simp
    exact fin_now h
/-! histories of points -/
structure Hr where
  n : Str
  tup : Bool
  rows : List Sg
def seqD (t : Bool) (ds : List D) : D := if t then .tup ds else .lst ds
theorem lots_seq (t : Bool) (ds : List D) : lots (seqD t ds) ds := by cases t <;> simp [seqD, lots]
def hsK (hs : List Hr) : List (Key × D) := hs.map fun h => (.inr h.n, seqD h.tup (h.rows.map sgD))
def VHs (pts : List Pt) (hs : List Hr) : Prop := ∀ h ∈ hs, ∃ y, ptOf pts h.n = some y ∧ VH h.rows ∧ ∀ x ∈ h.rows, x.w ≤ most y
def hOf (hs : List Hr) (s : Str) : Option Hr := hs.find? fun h => decide (h.n = s)
def rowsOf (hs : List Hr) (s : Str) : List Sg := match hOf hs s with
  | some h => h.rows
  | none => []
theorem getK_hs (hs : List Hr) (s : Str) : getK (hsK hs) (.inr s) = (hOf hs s).map fun h => seqD h.tup (h.rows.map sgD) := by
  induction hs with
  | nil => rfl
  | cons x hs ih =>
    unfold getK hsK hOf at *
    rw [List.map_cons, List.find?_cons, List.find?_cons]
    by_cases c : x.n = s
    · have e1 : decide ((Sum.inr x.n : Key) = .inr s) = true := by simp [c]
      have e2 : decide (x.n = s) = true := by simp [c]
      simp only [e1, e2]
      rfl
    · have e1 : decide ((Sum.inr x.n : Key) = .inr s) = false := by simp [c]
      have e2 : decide (x.n = s) = false := by simp [c]
      simp only [e1, e2]
      exact ih
theorem get_rows (hs : List Hr) (s : Str) : lots ((getK (hsK hs) (.inr s)).getD (.lst [])) ((rowsOf hs s).map sgD) := by
  rw [getK_hs]
  unfold rowsOf
  cases hOf hs s with
  | none => exact .inl rfl
  | some h => exact lots_seq _ _
theorem rows_in {hs : List Hr} {s : Str} : rowsOf hs s = [] ∨ ∃ h ∈ hs, h.n = s ∧ rowsOf hs s = h.rows := by
  unfold rowsOf
  cases e : hOf hs s with
  | none => exact .inl rfl
  | some h =>
    have := List.find?_some e
    exact .inr ⟨h, List.mem_of_find?_eq_some e, by simpa using this, rfl⟩
theorem items_hs (hs : List Hr) : Vw.items.ds (hsK hs) = hs.map fun h => .tup [.str h.n, seqD h.tup (h.rows.map sgD)] := by
  show (hsK hs).map _ = _
  unfold hsK
  rw [List.map_map]
  rfl
theorem keys_hs (hs : List Hr) : Vw.keys.ds (hsK hs) = hs.map fun h => .str h.n := by
  show (hsK hs).map _ = _
  unfold hsK
  rw [List.map_map]
  rfl
theorem hs_len (hs : List Hr) : (hsK hs).length = hs.length := by unfold hsK; rw [List.length_map]
/-! the worth at a time -/
def wAt (rows : List Sg) (t : Int) : Option Int := match (rows.filter fun x => decide (x.t ≤ t)).getLast? with
  | some x => if x.g = true then some x.w else none
  | none => none
def optI : Option Int → D
  | some i => .int i
  | none => .non
def wgD (x : Sg) : D := .tup [.int x.w, .str (mkS x.g)]
theorem at_last {α : Type} (g : α → D) {l : List α} {x : α} (h : l.getLast? = some x) : atI (l.map g) (-1) = some (g x) := by
  cases l with
  | nil => cases h
  | cons a l =>
    rw [List.getLast?_eq_getElem?] at h
    unfold atI ixN
    rw [if_neg (by omega), List.length_map, if_pos (by rw [List.length_cons]; omega)]
    have e : (-1 + ((a :: l).length : Int)).toNat = (a :: l).length - 1 := by rw [List.length_cons]; omega
    simp only [Option.bind_some, List.getElem?_map]
    first
      | rw [e, h]; rfl
      | (rw [show (((a :: l).length : Int) + (-1 : Int)).toNat = (a :: l).length - 1 by rw [List.length_cons]; omega, h]; rfl)
theorem at_one {a b : D} : atI [a, b] 1 = some b := rfl
theorem at_zero' {a b : D} : atI [a, b] 0 = some a := rfl
def sp_worth_at : Spd := fun ds S Q _ => ∃ (d : D) (rows : List Sg) (t : Int), ds = [d, .int t] ∧ lots d (rows.map sgD) ∧ VH rows ∧ Q (optI (wAt rows t)) S
theorem tame_wg {x : Sg} (h : VSg x) : ∃ p, Tame (wgD x) p 1 100 := by
  have t1 := tame_int (i := x.w) (by have := h.w0; have := h.w1; omega)
  cases c : x.g with
  | true => exact ⟨_, by unfold wgD; rw [c]; exact tame_tup (b := 40) (tames_cons (t1.up (Nat.le_refl _) (by omega)) (tames_cons ((tame_str (x := "good") (b := 40) (by decide +kernel) (by decide +kernel) (by decide +kernel)).up (Nat.le_refl _) (Nat.le_refl _)) tames_nil)) (by show (2 : Nat) * (40 + 1) ≤ 100; decide)⟩
  | false => exact ⟨_, by unfold wgD; rw [c]; exact tame_tup (b := 40) (tames_cons (t1.up (Nat.le_refl _) (by omega)) (tames_cons ((tame_str (x := "odd") (b := 40) (by decide +kernel) (by decide +kernel) (by decide +kernel)).up (Nat.le_refl _) (Nat.le_refl _)) tames_nil)) (by show (2 : Nat) * (40 + 1) ≤ 100; decide)⟩
theorem ok_worth_at : BodyOk (d_worth_at K) ["history", "time", "found", "at", "worth", "mark"] sp_worth_at := by
  rintro _ S Q E ⟨d, rows, t, rfl, hd, vh, h⟩
  have hl := vh.hi
  have core : ∀ (σ : Sd) (R : List D → Sto → Prop), 5 < σ.length → σ[1]? = some (some (.int t)) → R ((rows.filter fun x => decide (x.t ≤ t)).map wgD) S → dLcL (hTup 3 (hCons (hName 3) (hCons (hName 4) (hCons (hName 5) hNil)))) (dTest (dOp dLe (dVar 3) (dVar 1))) (dTup (dCons (dVar 4) (dCons (dVar 5) dNil))) σ R (rows.map sgD) [] S := by
    intro σ R h5 h1 r
    refine lc_those (fun x => decide (x.t ≤ t)) sgD wgD rows (fun x hx R r => ?_) r
    have g1 : ∀ a b c : Option D, (((σ.set 3 a).set 4 b).set 5 c)[1]? = some (some (.int t)) := fun a b c => by
      rw [List.getElem?_set_ne (by decide), List.getElem?_set_ne (by decide), List.getElem?_set_ne (by decide)]; exact h1
    have g3 : ∀ a b c : Option D, (((σ.set 3 a).set 4 b).set 5 c)[3]? = some a := fun a b c => by
      rw [List.getElem?_set_ne (by decide), List.getElem?_set_ne (by decide), List.getElem?_set_self (by omega)]
    have g4 : ∀ a b c : Option D, (((σ.set 3 a).set 4 b).set 5 c)[4]? = some b := fun a b c => by
      rw [List.getElem?_set_ne (by decide), List.getElem?_set_self (by rw [List.length_set]; omega)]
    have g5 : ∀ a b c : Option D, (((σ.set 3 a).set 4 b).set 5 c)[5]? = some c := fun a b c => by
      rw [List.getElem?_set_self (by rw [List.length_set, List.length_set]; omega)]
    simp only [oneD, z_hTup, vw_sg, z_hCons, z_hNil0, z_hName, z_dTest, z_dOp, z_dVar, g1, g3, g4, g5, z_iCmp, vw_int, z_dTup, z_dCons, z_dNil]
    refine ⟨rfl, ?_⟩
    by_cases c : x.t ≤ t
    · simp only [c, decide_true, if_true] at r ⊢
      exact ⟨sz2, r⟩
    · simp only [c, decide_false, Bool.false_eq_true, if_false] at r ⊢
      exact r
  obtain ⟨ps, hp⟩ := tames_map (f := wgD) (k := 1) (b := 100) (l := rows.filter fun x => decide (x.t ≤ t)) fun x hx => tame_wg (vh.ok x (List.mem_filter.mp hx).1)
  have fl : (rows.filter fun x => decide (x.t ≤ t)).length ≤ 100 := Nat.le_trans (List.length_filter_le _ _) hl
  have tm : Tame (.lst ((rows.filter fun x => decide (x.t ≤ t)).map wgD)) (.list ps) 2 100000 := tame_lst hp (by rw [List.length_map]; omega)
  simp only [d_worth_at, startD, z_dSeq, z_dAsg, z_dLc, z_nAny, z_dVar, List.map_cons, List.map_nil, List.length_cons, List.length_nil, List.replicate, List.cons_append, List.nil_append, List.getElem?_cons_zero]
  have go : (rows.map sgD).length ≤ sizeLine := by rw [List.length_map]; exact sz (by omega)
  have l5 : ∀ y : D, 5 < (wipeD [some y, some (.int t), none, none, none, none] [3, 4, 5]).length := fun y => by show (5 : Nat) < 6; decide
  rcases hd with rfl | rfl
  all_goals
    refine ⟨go, core _ _ (l5 _) rfl ?_⟩
    simp only [z_hName, List.set_cons_succ, List.set_cons_zero, z_dRet, z_dIfE, z_dAndT, z_dTest, z_dOp, z_dVar, z_dLst, z_dNil, List.getElem?_cons_succ, List.getElem?_cons_zero]
    refine ⟨sz0, ?_⟩
    refine eqG_nil tm (by decide) ?_
    unfold wAt at h
    cases e : (rows.filter fun x => decide (x.t ≤ t)).getLast? with
    | none =>
      rw [e] at h
      have e2 := List.getLast?_eq_none_iff.mp e
      simp only [e2, List.map_nil, decide_true, Bool.not_true, Bool.false_eq_true, if_false, z_dC]
      exact fin_now h
    | some x =>
      rw [e] at h
      have ne : (rows.filter fun x => decide (x.t ≤ t)) ≠ [] := fun z => by rw [z] at e; cases e
      have al := at_last wgD e
      simp only [List.map_eq_nil_iff, ne, decide_false, Bool.not_false, if_true]
      cases c : x.g with
      | true =>
        simp only [c, if_true, Bool.false_eq_true, if_false] at h
        simp [al]
        simp [al, wgD, c, at_one, at_zero', mkS]
        exact fin_now h
      | false =>
        simp only [c, if_true, Bool.false_eq_true, if_false] at h
        simp [al]
        simp [al, wgD, c, at_one, at_zero', mkS]
        exact fin_now h
end K48

/-! histories looked at; the picture at a time. -/
namespace K48
open PySem PySem.Spec PyProof.Rows L2 VL Nm
variable {K : PySem.W.Frag}
abbrev HG (K : PySem.W.Frag) := g_need_histories_0 K (sp_need_works K) sp_need_history (sp_has_point K) (sp_is_worth K)
abbrev HB (K : PySem.W.Frag) := b_need_histories_0 K (sp_need_works K) sp_need_history (sp_has_point K) (sp_is_worth K)
theorem hist_loop {S : Sto} {d : D} {pts : List Pt} {rls : List Rl} (hw : Wv K S d pts rls) {o1 : Option D} {Z : EndsD} : ∀ (hs : List Hr) (o2 o3 o4 : Option D), VHs pts hs → (∀ o2 o3 o4 : Option D, Z.nx [some d, o1, o2, o3, o4] S) →
    dForL (HG K) (HB K) Z (hs.map fun h => .tup [.str h.n, seqD h.tup (h.rows.map sgD)]) [some d, o1, o2, o3, o4] S
  | [], o2, o3, o4, _, h => h o2 o3 o4
  | ⟨n, tp, rows⟩ :: hs, o2, o3, o4, v, h => by
    obtain ⟨y, hy, vh, vm⟩ := v _ (List.mem_cons_self ..)
    obtain ⟨a, b, c, e, f, h1, h2, h3⟩ := id hw
    have hl : rows.length ≤ 100 := vh.hi
    rw [List.map_cons, for_cons]
    simp only [HG, HB, u_g_need_histories_0, u_b_need_histories_0, z_hTup, vw_tup, z_hCons, z_hNil0, z_hName, z_dSeq, z_dThru, z_dDrop, z_dCall, z_dCons, z_dNil, z_dVar, List.set_cons_succ, List.set_cons_zero, List.getElem?_cons_succ, List.getElem?_cons_zero]
    refine ⟨rfl, _, rows, rfl, lots_seq _ _, vh, ?_⟩
    have ih := hist_loop hw (o1 := o1) (Z := Z) hs (some (.str n)) (some (seqD tp (rows.map sgD))) o4 (fun x hx => v x (List.mem_cons_of_mem _ hx)) h
    refine ev_if0 (fun Q' q => ?_) ih
    have one : ∀ σ : Sd, σ[0]? = some (some d) → σ[2]? = some (some (.str n)) → 4 < σ.length → ∀ x ∈ rows, ∀ R : Option D → Sto → Prop, R (some (.bl true)) S → oneD (hName 4) dYes (dMeth (He.ga K "Works") "is_worth" (sp_is_worth K) [] (dVar 0) (dCons (dVar 2) (dCons (dOp dIx (dVar 4) (dC (.int 1))) dNil))) σ (sgD x) S R := by
      intro σ g0 g2 g4 x hx R r
      have e0 : ∀ o, (σ.set 4 o)[0]? = some (some d) := fun o => by rw [List.getElem?_set_ne (by decide)]; exact g0
      have e2 : ∀ o, (σ.set 4 o)[2]? = some (some (.str n)) := fun o => by rw [List.getElem?_set_ne (by decide)]; exact g2
      have e4 : ∀ o, (σ.set 4 o)[4]? = some o := fun o => by rw [List.getElem?_set_self g4]
      simp [-insV_ref, -List.lookup_eq_none_iff, oneD, e0, e2, e4, h1, no_is_worth, vw_sg, atI, ixN]
      refine ⟨d, pts, rls, n, y, x.w, rfl, hw, hy, ?_⟩
      have := vm x hx
      simp [this, (vh.ok x hx).w0]
      exact r
    cases tp with
    | false =>
      simp only [seqD, Bool.false_eq_true, if_false, z_dOrT, z_dTest, z_dNotT, z_dOp, z_dCB, z_dCons, z_dNil, z_dVar, z_dC, z_dLc, z_nAny, List.getElem?_cons_succ, List.getElem?_cons_zero, vw_lst, z_dLen]
      have c1 : ¬ ((rows.map sgD).length : Int) > 100 := by rw [List.length_map]; omega
      simp only [z_iCmp, vw_int, c1, decide_false, Bool.false_eq_true, if_false]
      refine ⟨by rw [List.length_map]; exact sz (by omega), ?_⟩
      refine lc_all sgD (fun _ => .bl true) rows (one _ rfl rfl (by show (4 : Nat) < 5; decide)) ?_
      simp only [z_dAll, vw_lst, bools_true, all_true, Bool.not_true]
      exact q
    | true =>
      simp only [seqD, if_true, z_dOrT, z_dTest, z_dNotT, z_dOp, z_dCB, z_dCons, z_dNil, z_dVar, z_dC, z_dLc, z_nAny, List.getElem?_cons_succ, List.getElem?_cons_zero, vw_tup, z_dLen]
      have c1 : ¬ ((rows.map sgD).length : Int) > 100 := by rw [List.length_map]; omega
      simp only [z_iCmp, vw_int, c1, decide_false, Bool.false_eq_true, if_false]
      refine ⟨by rw [List.length_map]; exact sz (by omega), ?_⟩
      refine lc_all sgD (fun _ => .bl true) rows (one _ rfl rfl (by show (4 : Nat) < 5; decide)) ?_
      simp only [z_dAll, vw_lst, bools_true, all_true, Bool.not_true]
      exact q
def sp_need_histories (K : PySem.W.Frag) : Spd := fun ds S Q _ => ∃ (d : D) (pts : List Pt) (rls : List Rl) (hs : List Hr), ds = [d, .dct (hsK hs)] ∧ Wv K S d pts rls ∧ VHs pts hs ∧ hs.length ≤ 100 ∧ Q .non S
theorem ok_need_histories : BodyOk (d_need_histories K (sp_need_works K) sp_need_history (sp_has_point K) (sp_is_worth K)) ["works", "thing", "point", "history", "sign"] (sp_need_histories K) := by
  rintro _ S Q E ⟨d, pts, rls, hs, rfl, hw, v, hl, h⟩
  obtain ⟨a, b, c, e, f, h1, h2, h3⟩ := id hw
  have hz : (hsK hs).length ≤ sizeLine := by rw [hs_len]; exact sz (by omega)
  simp only [d_need_histories, startD, z_dSeq, z_dDrop, z_dCall, z_dCons, z_dNil, z_dVar, List.map_cons, List.map_nil, List.length_cons, List.length_nil, List.replicate, List.cons_append, List.nil_append, List.getElem?_cons_zero]
  refine ⟨d, pts, rls, rfl, hw, ?_⟩
  refine ev_if0 (fun Q' q => ?_) ?_
  · simp [-insV_ref, -List.lookup_eq_none_iff, tyN, isT, kindsB, hz, keys_hs]
    refine lc_all (fun x : Hr => D.str x.n) (fun _ => .bl true) hs (fun x hx R r => ?_) ?_
    · obtain ⟨y, hy, _⟩ := v x hx
      simp [-insV_ref, -List.lookup_eq_none_iff, oneD, wipeD, h1, no_has_point]
      refine ⟨d, pts, rls, x.n, rfl, hw, ?_⟩
      rw [hy]
      exact r
    · simp only [vw_lst, bools_true, all_true]
      exact q
  rw [z_dNext]
  dsimp only
  rw [z_dForD]
  simp only [z_dVar, List.getElem?_cons_succ, List.getElem?_cons_zero, items_hs]
  exact hist_loop hw hs none none none v fun o2 o3 o4 => fin_now h
abbrev Pic := List (Str × Int)
def picK (p : Pic) : List (Key × D) := p.map fun x => (.inr x.1, .int x.2)
def picAt (pts : List Pt) (hs : List Hr) (t : Int) : Pic := pts.filterMap fun y => (wAt (rowsOf hs y.n) t).map fun w => (y.n, w)
def sp_picture_at (K : PySem.W.Frag) : Spd := fun ds S Q _ => ∃ (d : D) (pts : List Pt) (rls : List Rl) (hs : List Hr) (t : Int), ds = [d, .dct (hsK hs), .int t] ∧ Wv K S d pts rls ∧ VPts pts ∧ VHs pts hs ∧ hs.length ≤ 100 ∧ 0 ≤ t ∧ t ≤ 9999 ∧
  ∀ q, S q = none → Q (.ref q) (put S q (.dct (picK (picAt pts hs t))))
def wsK (pts : List Pt) (hs : List Hr) (t : Int) : List (Key × D) := pts.map fun y => (.inr y.n, optI (wAt (rowsOf hs y.n) t))
theorem items_ws (pts : List Pt) (hs : List Hr) (t : Int) : Vw.items.ds (wsK pts hs t) = pts.map fun y => .tup [.str y.n, optI (wAt (rowsOf hs y.n) t)] := by
  show (wsK pts hs t).map _ = _
  unfold wsK
  rw [List.map_map]
  rfl
theorem vh_rows {pts : List Pt} {hs : List Hr} (v : VHs pts hs) (s : Str) : VH (rowsOf hs s) := by
  rcases rows_in (hs := hs) (s := s) with e | ⟨h, m, _, e⟩
  · rw [e]; exact ⟨fun _ z => (List.not_mem_nil z).elim, .nil, Nat.zero_le _⟩
  · rw [e]
    obtain ⟨y, _, vh, _⟩ := v h m
    exact vh
theorem pic_eq (pts : List Pt) (hs : List Hr) (t : Int) : picK (picAt pts hs t) = pts.filterMap fun y => (wAt (rowsOf hs y.n) t).map fun w => ((.inr y.n : Key), D.int w) := by
  unfold picK picAt
  rw [List.map_filterMap]
  congr 1
  funext y
  cases wAt (rowsOf hs y.n) t <;> rfl
theorem nd_keys {pts : List Pt} (nd : (pts.map (·.n)).Nodup) (o : Pt → Option Int) : ((pts.filterMap fun y => (o y).map fun w => ((.inr y.n : Key), D.int w)).map (·.1)).Nodup := by
  induction pts with
  | nil => exact .nil
  | cons y pts ih =>
    rw [List.map_cons, List.nodup_cons] at nd
    rw [List.filterMap_cons]
    cases e : o y with
    | none => exact ih nd.2
    | some w =>
      simp only [Option.map_some, List.map_cons, List.nodup_cons]
      refine ⟨fun m => ?_, ih nd.2⟩
      obtain ⟨kv, m1, e1⟩ := List.mem_map.mp m
      obtain ⟨z, mz, ez⟩ := List.mem_filterMap.mp m1
      cases q : o z with
      | none => rw [q] at ez; cases ez
      | some v =>
        rw [q] at ez
        cases ez
        injection e1 with e1
        exact nd.1 (List.mem_map.mpr ⟨z, mz, e1⟩)
theorem nd_all {pts : List Pt} (nd : (pts.map (·.n)).Nodup) (o : Pt → D) : ((pts.filterMap fun y => some ((.inr y.n : Key), o y)).map (·.1)).Nodup := by
  rw [fm_some, List.map_map]
  have e : pts.map ((·.1) ∘ fun y => ((.inr y.n : Key), o y)) = (pts.map (·.n)).map (fun s => (.inr s : Key)) := by rw [List.map_map]; rfl
  rw [e]
  exact List.Pairwise.map _ (fun a b z h => z (by injection h)) nd
theorem ev_points {S : Sto} {d : D} {pts : List Pt} {rls : List Rl} (hw : Wv K S d pts rls) (hl : pts.length ≤ 1000) {σ : Sd} (hσ : σ[0]? = some (some d)) {R : QD} {E : XD} (r : R (.lst (pts.map ptD)) S) : dMeth (He.ga K "Works") "points" (sp_points K) [] (dVar 0) dNil σ S R E := by
  obtain ⟨a, b, c, e, f, h1, h2, h3⟩ := id hw
  simp [-insV_ref, -List.lookup_eq_none_iff, hσ, h1, no_points]
  exact ⟨d, pts, rls, rfl, hw, hl, r⟩
theorem ok_picture_at : BodyOk (d_picture_at K (sp_need_histories K) sp_need_time sp_worth_at (sp_points K)) ["works", "histories", "time", "worths", "point", "worth"] (sp_picture_at K) := by
  rintro _ S Q E ⟨d, pts, rls, hs, t, rfl, hw, vs, v, hl, t0, t1, h⟩
  have l8 := vs.hi
  obtain ⟨a, b, c, e, f, h1, h2, h3⟩ := id hw
  simp only [d_picture_at, startD, z_dSeq, z_dDrop, z_dCall, z_dCons, z_dNil, z_dVar, List.map_cons, List.map_nil, List.length_cons, List.length_nil, List.replicate, List.cons_append, List.nil_append, List.getElem?_cons_zero, List.getElem?_cons_succ]
  refine ⟨d, pts, rls, hs, rfl, hw, v, hl, ?_⟩
  refine ⟨t, rfl, t0, t1, ?_⟩
  dsimp only
  rw [z_dAsg, z_dDcM, z_nAny]
  refine ev_points hw (by omega) rfl ?_
  simp only [vw_lst]
  refine ⟨by rw [List.length_map]; exact sz (by omega), ?_⟩
  refine dc_new ptD (fun y => some (.inr y.n, optI (wAt (rowsOf hs y.n) t))) pts (nd_all vs.nd _) (fun y hy R r => ?_) fun p hp => ?_
  · have g1 : (getK (hsK hs) (.inr y.n)).getD (.lst []) = (getK (hsK hs) (.inr y.n)).getD (.lst []) := rfl
    simp [oneC, wipeD, vw_pt, atI, ixN, keyD, sz0]
    exact ⟨_, rowsOf hs y.n, t, rfl, get_rows hs y.n, vh_rows v y.n, r⟩
  rw [fm_some]
  have hp' := hp
  simp only [z_hName, List.set_cons_succ, List.set_cons_zero, z_dRet, z_dDcD, z_dVar, List.getElem?_cons_succ, List.getElem?_cons_zero, put_same]
  refine ⟨by rw [List.length_map]; exact sz (by omega), ?_⟩
  have er : era (put S p (.dct (wsK pts hs t))) p = S := by
    funext u
    by_cases c : u = p
    · rw [c, era_at]; exact hp.symm
    · rw [era_ne c, put_ne c]
  have ei := items_ws pts hs t
  unfold wsK at er ei
  rw [er, ei]
  have nk := nd_keys vs.nd fun y => wAt (rowsOf hs y.n) t
  refine dc_new (fun y : Pt => D.tup [.str y.n, optI (wAt (rowsOf hs y.n) t)]) (fun y => (wAt (rowsOf hs y.n) t).map fun w => ((.inr y.n : Key), D.int w)) pts nk (fun y hy R r => ?_) fun _ q hq => ?_
  · cases c : wAt (rowsOf hs y.n) t with
    | none =>
      rw [c] at r
      simp [oneC, wipeD, optI]
      exact r
    | some w =>
      rw [c] at r
      simp [oneC, wipeD, optI, keyD]
      exact r
  have nq : q ≠ p := fun z => by rw [z, put_same] at hq; cases hq
  have hq' : S q = none := by rw [put_ne nq] at hq; exact hq
  rw [← pic_eq]
  refine ⟨put S q (.dct (picK (picAt pts hs t))), fun u => ?_, h q hq'⟩
  by_cases c : u = q
  · right; rw [c, put_same, put_same]
  · rw [put_ne c, put_ne c]
    by_cases c2 : u = p
    · left; rw [c2]; exact hp
    · right; rw [put_ne c2]
end K48

/-! the law's own picture; dicts shown. -/
namespace K48
open PySem PySem.Spec PyProof.Rows L2 VL Nm
variable {K : PySem.W.Frag}
abbrev VG0 (K : PySem.W.Frag) := g__law_picture_at_0 K
abbrev VB0 (K : PySem.W.Frag) := b__law_picture_at_0 K
theorem tame_sg {x : Sg} (h : VSg x) : ∃ p, Tame (sgD x) p 1 200 := by
  have t1 := tame_int (i := x.t) (by have := h.t0; have := h.t1; omega)
  have t2 := tame_int (i := x.w) (by have := h.w0; have := h.w1; omega)
  have t3 : ∃ p, Tame (.str (mkS x.g)) p 0 40 := by
    cases x.g
    · exact ⟨_, tame_str (x := "odd") (b := 40) (by decide +kernel) (by decide +kernel) (by decide +kernel)⟩
    · exact ⟨_, tame_str (x := "good") (b := 40) (by decide +kernel) (by decide +kernel) (by decide +kernel)⟩
  obtain ⟨p, t3⟩ := t3
  exact ⟨_, tame_tup (b := 40) (tames_cons (t1.up (Nat.le_refl _) (by omega)) (tames_cons (t2.up (Nat.le_refl _) (by omega)) (tames_cons t3 tames_nil))) (by show (3 : Nat) * (40 + 1) ≤ 200; decide)⟩
theorem tame_sgs {l : List Sg} (h : ∀ x ∈ l, VSg x) (hl : l.length ≤ 100) : ∃ ps, Tames (l.map sgD) ps 1 200 := tames_map fun x hx => tame_sg (h x hx)
theorem at2 {a b c : D} : atI [a, b, c] 2 = some c := rfl
theorem at1 {a b c : D} : atI [a, b, c] 1 = some b := rfl
theorem at0 {a b c : D} : atI [a, b, c] 0 = some a := rfl
def pic1 (hs : List Hr) (t : Int) (y : Pt) : Pic := match wAt (rowsOf hs y.n) t with
  | some w => [(y.n, w)]
  | none => []
theorem picAt_cons (y : Pt) (l : List Pt) (hs : List Hr) (t : Int) : picAt (y :: l) hs t = pic1 hs t y ++ picAt l hs t := by
  unfold picAt pic1
  rw [List.filterMap_cons]
  cases wAt (rowsOf hs y.n) t <;> rfl
theorem lp_loop {S : Sto} {p : Addr} {pts : List Pt} {hs : List Hr} {t : Int} (v : VHs pts hs) {d0 : D} {Z : EndsD} : ∀ (l : List Pt) (acc : Pic) (o4 o5 o6 o7 o8 : Option D), (∀ y ∈ l, y.n ∉ acc.map (·.1)) → (l.map (·.n)).Nodup → acc.length + l.length ≤ 1000 →
    (∀ o4 o5 o6 o7 o8 : Option D, Z.nx [some d0, some (.dct (hsK hs)), some (.int t), some (.ref p), o4, o5, o6, o7, o8] (put S p (.dct (picK (acc ++ picAt l hs t))))) →
    dForL (VG0 K) (VB0 K) Z (l.map ptD) [some d0, some (.dct (hsK hs)), some (.int t), some (.ref p), o4, o5, o6, o7, o8] (put S p (.dct (picK acc)))
  | [], acc, o4, o5, o6, o7, o8, _, _, _, h => by
    have := h o4 o5 o6 o7 o8
    rw [show picAt [] hs t = [] from rfl, List.append_nil] at this
    exact this
  | y :: l, acc, o4, o5, o6, o7, o8, hn, nd, hl, h => by
    rw [List.map_cons, List.nodup_cons] at nd
    rw [List.length_cons] at hl
    have vh := vh_rows v y.n
    have hl' := vh.hi
    obtain ⟨ps, hp⟩ := tame_sgs (l := (rowsOf hs y.n).filter fun x => decide (x.t ≤ t)) (fun x hx => vh.ok x (List.mem_filter.mp hx).1) (Nat.le_trans (List.length_filter_le _ _) hl')
    have fl : ((rowsOf hs y.n).filter fun x => decide (x.t ≤ t)).length ≤ 100 := Nat.le_trans (List.length_filter_le _ _) hl'
    have tm : Tame (.lst (((rowsOf hs y.n).filter fun x => decide (x.t ≤ t)).map sgD)) (.list ps) 2 100000 := tame_lst hp (by rw [List.length_map]; omega)
    have ih := fun (acc' : Pic) (o7 o8 : Option D) (e : acc' = acc ++ pic1 hs t y) => lp_loop v (S := S) (p := p) (d0 := d0) (Z := Z) l acc' (some (.str y.n)) (some (.str y.p)) (some (.str (kiS y.lv))) o7 o8 (fun z hz m => by
      rw [e, List.map_append, List.mem_append] at m
      rcases m with m | m
      · exact hn z (List.mem_cons_of_mem _ hz) m
      · unfold pic1 at m
        split at m
        · simp at m
          exact nd.1 (by rw [← m]; exact List.mem_map_of_mem hz)
        · simp at m) nd.2 (by
        rw [e, List.length_append]
        have : (pic1 hs t y).length ≤ 1 := by unfold pic1; split <;> simp
        omega) (fun a b c d f => by
        have := h a b c d f
        rw [picAt_cons, ← List.append_assoc, ← e] at this
        exact this)
    rw [List.map_cons, for_cons]
    simp only [VG0, VB0, u_g__law_picture_at_0, u_b__law_picture_at_0, z_hTup, vw_pt, z_hCons, z_hNil0, z_hName, z_dSeq, List.set_cons_succ, List.set_cons_zero]
    refine ⟨rfl, ?_⟩
    refine ev_asg (.lst (((rowsOf hs y.n).filter fun x => decide (x.t ≤ t)).map sgD)) (fun Q' q => ?_) ?_
    · have core : ∀ (σ : Sd) (R : List D → Sto → Prop), 8 < σ.length → σ[2]? = some (some (.int t)) → R (((rowsOf hs y.n).filter fun x => decide (x.t ≤ t)).map sgD) (put S p (.dct (picK acc))) → dLcL (hName 8) (dTest (dOp dLe (dOp dIx (dVar 8) (dC (.int 0))) (dVar 2))) (dVar 8) σ R ((rowsOf hs y.n).map sgD) [] (put S p (.dct (picK acc))) := by
        intro σ R h8 h2 r
        refine lc_those (fun x => decide (x.t ≤ t)) sgD sgD (rowsOf hs y.n) (fun x hx R r => ?_) r
        have g2 : ∀ a : Option D, (σ.set 8 a)[2]? = some (some (.int t)) := fun a => by rw [List.getElem?_set_ne (by decide)]; exact h2
        have g8 : ∀ a : Option D, (σ.set 8 a)[8]? = some a := fun a => by rw [List.getElem?_set_self h8]
        simp only [oneD, z_hName, z_dTest, z_dOp, z_dVar, g2, g8, z_dC, z_dIx, vw_sg, at0, z_iCmp, vw_int]
        by_cases c : x.t ≤ t
        · simp only [c, decide_true, if_true] at r ⊢
          exact r
        · simp only [c, decide_false, Bool.false_eq_true, if_false] at r ⊢
          exact r
      have gl : ((rowsOf hs y.n).map sgD).length ≤ sizeLine := by rw [List.length_map]; exact sz (by omega)
      simp only [z_dLc, z_nAny, z_dGet2, z_dVar, z_dLst, z_dNil, List.getElem?_cons_succ, List.getElem?_cons_zero, vw_dct, keyD]
      refine ⟨⟨_, rfl⟩, sz0, ?_⟩
      rcases get_rows hs y.n with e | e
      · rw [e]; simp only [vw_lst]; exact ⟨gl, core _ _ (by show (8 : Nat) < 9; decide) rfl q⟩
      · rw [e]; simp only [vw_tup]; exact ⟨gl, core _ _ (by show (8 : Nat) < 9; decide) rfl q⟩
    simp only [z_hName, List.set_cons_succ, List.set_cons_zero]
    have wv : wAt (rowsOf hs y.n) t = match ((rowsOf hs y.n).filter fun x => decide (x.t ≤ t)).getLast? with
      | some x => if x.g = true then some x.w else none
      | none => none := rfl
    cases e : ((rowsOf hs y.n).filter fun x => decide (x.t ≤ t)).getLast? with
    | none =>
      rw [e] at wv
      have e2 := List.getLast?_eq_none_iff.mp e
      have p1 : pic1 hs t y = [] := by unfold pic1; rw [wv]
      refine ev_if0 (fun Q' q => ?_) ?_
      · simp only [z_dAndT, z_dTest, z_dOp, z_dVar, z_dLst, z_dNil, List.getElem?_cons_succ, List.getElem?_cons_zero]
        refine ⟨sz0, ?_⟩
        refine eqG_nil tm (by decide) ?_
        simp only [e2, List.map_nil, decide_true, Bool.not_true, Bool.false_eq_true, if_false]
        exact q
      rw [z_dNext]
      exact ih acc _ _ (by rw [p1, List.append_nil])
    | some x =>
      rw [e] at wv
      simp only at wv
      have ne : ((rowsOf hs y.n).filter fun x => decide (x.t ≤ t)) ≠ [] := fun z => by rw [z] at e; cases e
      have al := at_last sgD e
      refine ev_if x.g (fun Q' q => ?_) ?_
      · simp only [z_dAndT, z_dTest, z_dOp, z_dVar, z_dLst, z_dNil, List.getElem?_cons_succ, List.getElem?_cons_zero]
        refine ⟨sz0, ?_⟩
        refine eqG_nil tm (by decide) ?_
        simp only [List.map_eq_nil_iff, ne, decide_false, Bool.not_false, if_true]
        simp [al]
        simp only [vw_sg, at2]
        cases c : x.g with
        | true => rw [c] at q; simp [mkS]; exact q
        | false => rw [c] at q; simp [mkS]; exact q
      cases c : x.g with
      | true =>
        rw [c] at wv
        simp only [if_true] at wv
        have p1 : pic1 hs t y = [(y.n, x.w)] := by unfold pic1; rw [wv]
        have nk : (.inr y.n : Key) ∉ (picK acc).map (·.1) := fun m => by
          unfold picK at m
          rw [List.map_map] at m
          obtain ⟨z, mz, ez⟩ := List.mem_map.mp m
          injection ez with ez
          exact hn y (List.mem_cons_self ..) (by rw [← ez]; exact List.mem_map_of_mem mz)
        simp only [if_true]
        simp [al]
        simp only [vw_sg, at1, put_same, keyD]
        rw [putKD_new nk, put_put]
        refine ⟨by unfold picK; rw [List.length_map]; exact szl (by omega), ?_⟩
        have := ih (acc ++ [(y.n, x.w)]) (some (.lst (((rowsOf hs y.n).filter fun x => decide (x.t ≤ t)).map sgD))) o8 (by rw [p1])
        simpa [picK] using this
      | false =>
        rw [c] at wv
        simp only [Bool.false_eq_true, if_false] at wv
        have p1 : pic1 hs t y = [] := by unfold pic1; rw [wv]
        simp only [Bool.false_eq_true, if_false, z_dNext]
        exact ih acc _ _ (by rw [p1, List.append_nil])
def sp__law_picture_at : Spd := fun ds S Q _ => ∃ (pts : List Pt) (hs : List Hr) (t : Int), ds = [.lst (pts.map ptD), .dct (hsK hs), .int t] ∧ VPts pts ∧ VHs pts hs ∧ Q (.dct (picK (picAt pts hs t))) S
theorem ok__law_picture_at : BodyOk (d__law_picture_at K) ["points", "histories", "time", "found", "name", "place", "kind", "signs", "sign"] sp__law_picture_at := by
  rintro _ S Q E ⟨pts, hs, t, rfl, vs, v, h⟩
  have l8 := vs.hi
  simp only [d__law_picture_at, startD, z_dSeq, z_dAsg, z_dDctM, z_hName]
  intro p hp
  simp only [List.map_cons, List.map_nil, List.length_cons, List.length_nil, List.replicate, List.cons_append, List.nil_append, List.set_cons_succ, List.set_cons_zero, z_dFor, z_nAny, z_dVar, List.getElem?_cons_succ, List.getElem?_cons_zero, vw_lst]
  refine lp_loop v pts [] none none none none none (fun _ _ m => nomatch m) vs.nd (by simp; omega) fun o4 o5 o6 o7 o8 => ?_
  have er : era (put S p (.dct (picK ([] ++ picAt pts hs t)))) p = S := by
    funext u
    by_cases c : u = p
    · rw [c, era_at]; exact hp.symm
    · rw [era_ne c, put_ne c]
  simp only [z_dSee, List.getElem?_cons_succ, List.getElem?_cons_zero, put_same, er, z_dRet, z_dVar, List.set_cons_succ, List.set_cons_zero]
  exact fin_now h
end K48

/-! a history drawn. -/
namespace K48
open PySem PySem.Spec PyProof.Rows L2 VL Nm
variable {K : PySem.W.Frag}
abbrev T2 (S : Sto) (b p : Addr) (x : Bx) (l : List D) : Sto := put (put S b (bxO x)) p (.lst l)
theorem five_at {a b c d e i : Int} (P : Int → Prop) (ha : P a) (hb : P b) (hc : P c) (hd : P d) (he : P e) (h0 : 0 ≤ i) (h1 : i < 5) : ∃ v, atI [D.int a, D.int b, D.int c, D.int d, D.int e] i = some (.int v) ∧ P v := by
  have : i = 0 ∨ i = 1 ∨ i = 2 ∨ i = 3 ∨ i = 4 := by omega
  rcases this with rfl | rfl | rfl | rfl | rfl
  · exact ⟨a, rfl, ha⟩
  · exact ⟨b, rfl, hb⟩
  · exact ⟨c, rfl, hc⟩
  · exact ⟨d, rfl, hd⟩
  · exact ⟨e, rfl, he⟩
theorem four_at {a b c d i : Int} (P : Int → Prop) (ha : P a) (hb : P b) (hc : P c) (hd : P d) (h0 : 0 ≤ i) (h1 : i < 4) : ∃ v, atI [D.int a, D.int b, D.int c, D.int d] i = some (.int v) ∧ P v := by
  have : i = 0 ∨ i = 1 ∨ i = 2 ∨ i = 3 := by omega
  rcases this with rfl | rfl | rfl | rfl
  · exact ⟨a, rfl, ha⟩
  · exact ⟨b, rfl, hb⟩
  · exact ⟨c, rfl, hc⟩
  · exact ⟨d, rfl, hd⟩
theorem mark_at {i : Int} (h0 : 0 ≤ i) (h1 : i < 4) : ∃ g, atI [D.str "good", D.str "good", D.str "good", D.str "odd"] i = some (.str (mkS g)) := by
  have : i = 0 ∨ i = 1 ∨ i = 2 ∨ i = 3 := by omega
  rcases this with rfl | rfl | rfl | rfl
  · exact ⟨true, rfl⟩
  · exact ⟨true, rfl⟩
  · exact ⟨true, rfl⟩
  · exact ⟨false, rfl⟩
theorem sz4 : (4 : Nat) ≤ sizeLine := sz (by decide)
theorem sz5 : (5 : Nat) ≤ sizeLine := sz (by decide)
abbrev YG (K : PySem.W.Frag) := g__law_history_0 K sp__law_take
abbrev YB (K : PySem.W.Frag) := b__law_history_0 K sp__law_take
theorem range_cons (k0 m : Nat) : rangeD (k0 : Int) (m + 1) = .int (k0 : Int) :: rangeD ((k0 + 1 : Nat) : Int) m := by
  rw [rangeD_map, rangeD_map, List.range_succ_eq_map, List.map_cons, List.map_map]
  refine congr (congrArg List.cons (by simp)) (List.map_congr_left fun i hi => ?_)
  show D.int (k0 + ((i + 1 : Nat) : Int)) = D.int (((k0 + 1 : Nat) : Int) + i)
  congr 1
  omega
theorem hist_draw {S : Sto} {b p : Addr} (hbp : p ≠ b) {high ticks : Int} (hh : high = 63 ∨ high = 1) (t0 : 0 ≤ ticks) (t1 : ticks ≤ 9970) {o7 o8 o9 : Option D} {Z : EndsD} : ∀ (m k0 : Nat) (acc : List Sg) (time : Int) (x : Bx) (n : Nat) (o5 o6 : Option D), okB x n → n + 5 * m ≤ 20000 → k0 + m ≤ 20 → acc.length = k0 → 0 ≤ time → (∀ r ∈ acc, VSg r ∧ r.w ≤ high) →
    (∀ (acc' : List Sg) (time' : Int) (x' : Bx) (o5 o6 : Option D), acc'.length ≤ 20 → (∀ r ∈ acc', VSg r ∧ r.w ≤ high) → okB x' (n + 5 * m) → Z.nx [some (.ref b), some (.int high), some (.int ticks), some (.ref p), some (.int time'), o5, o6, o7, o8, o9] (T2 S b p x' (acc'.map sgD))) →
    dForL (YG K) (YB K) Z (rangeD (k0 : Int) m) [some (.ref b), some (.int high), some (.int ticks), some (.ref p), some (.int time), o5, o6, o7, o8, o9] (T2 S b p x (acc.map sgD))
  | 0, k0, acc, time, x, n, o5, o6, ok, hn, hk, hl, ht, ha, h => h acc time x o5 o6 (by omega) ha ok
  | m + 1, k0, acc, time, x, n, o5, o6, ok, hn, hk, hl, ht, ha, h => by
    have hb : ∀ x o, T2 S b p x o b = some (bxO x) := fun x o => by unfold T2; rw [put_ne (Ne.symm hbp)]; exact put_same
    have hpp : ∀ x o, T2 S b p x o p = some (.lst o) := fun x o => put_same
    have tw : ∀ x o x', put (T2 S b p x o) b (bxO x') = T2 S b p x' o := fun x o x' => put_two hbp
    rw [range_cons, for_cons]
    simp only [YG, YB, u_g__law_history_0, u_b__law_history_0, z_hName, z_dSeq, z_dAsg, List.set_cons_succ, List.set_cons_zero]
    refine (show ∀ R : QD, (∀ x1 v, okB x1 (n + 2) → 0 ≤ v → R (.int v) (T2 S b p x1 (acc.map sgD))) → dOp dAdd (dOp dAdd (dVar 4) (dOp dIx (dLst (dCons (dC (.int 0)) (dCons (dC (.int 1)) (dCons (dC (.int 1)) (dCons (dC (.int 2)) (dCons (dCall sp__law_take [] (dCons (dVar 0) (dCons (dC (.int 30)) dNil))) dNil)))))) (dCall sp__law_take [] (dCons (dVar 0) (dCons (dC (.int 5)) dNil))))) (dCB dInt (dCons (dOp dGt (dVar 5) (dC (.int 0))) dNil)) _ (T2 S b p x (acc.map sgD)) R _ from fun R r => by
      simp [sz5]
      refine ⟨b, x, n, 30, rfl, hb _ _, ok, by omega, by decide, by decide, fun x2 e ok2 e0 e1 => ?_⟩
      rw [tw]
      refine ⟨b, x2, n + 1, 5, rfl, hb _ _, ok2, by omega, by decide, by decide, fun x3 f ok3 f0 f1 => ?_⟩
      rw [tw]
      obtain ⟨v, hv, v0⟩ := five_at (a := 0) (b := 1) (c := 1) (d := 2) (e := e) (fun v => 0 ≤ v) (by decide) (by decide) (by decide) (by decide) e0 f0 f1
      simp only [hv]
      by_cases c : 0 < k0
      · simp [c]
        exact r x3 _ ok3 (by omega)
      · simp [c]
        exact r x3 _ ok3 (by omega)) _ fun x1 time' ok1 ht' => ?_
    try simp only [z_hName, List.set_cons_succ, List.set_cons_zero]
    refine (show ∀ R : QD, (∀ x2 v, okB x2 (n + 4) → 0 ≤ v → v ≤ high → R (.int v) (T2 S b p x2 (acc.map sgD))) → dOp dIx (dLst (dCons (dC (.int 0)) (dCons (dC (.int 1)) (dCons (dVar 1) (dCons (dCB (dMM fun i j => if j < i then j else i) (dCons (dVar 1) (dCons (dCall sp__law_take [] (dCons (dVar 0) (dCons (dC (.int 4)) dNil))) dNil))) dNil))))) (dCall sp__law_take [] (dCons (dVar 0) (dCons (dC (.int 4)) dNil))) _ (T2 S b p x1 (acc.map sgD)) R _ from fun R r => by
      simp [sz4]
      refine ⟨b, x1, n + 2, 4, rfl, hb _ _, ok1, by omega, by decide, by decide, fun x2 e ok2 e0 e1 => ?_⟩
      rw [tw]
      refine ⟨b, x2, n + 3, 4, rfl, hb _ _, ok2, by omega, by decide, by decide, fun x3 f ok3 f0 f1 => ?_⟩
      rw [tw]
      obtain ⟨v, hv, v0, v1⟩ := four_at (a := 0) (b := 1) (c := high) (d := if e < high then e else high) (fun v => 0 ≤ v ∧ v ≤ high) (by omega) (by omega) (by omega) (by split <;> omega) f0 f1
      simp only [hv]
      exact r x3 v ok3 v0 v1) _ fun x2 w ok2 w0 w1 => ?_
    try simp only [z_hName, List.set_cons_succ, List.set_cons_zero]
    simp [hpp, sz4, sz3]
    refine ⟨b, x2, n + 4, 4, rfl, hb _ _, ok2, by omega, by decide, by decide, fun x3 f ok3 f0 f1 => ?_⟩
    rw [tw]
    obtain ⟨g, hg⟩ := mark_at f0 f1
    simp [hg, hpp, sz3]
    refine ⟨szl (by omega), ?_⟩
    have e0 : ((k0 : Int) + 1) = ((k0 + 1 : Nat) : Int) := by omega
    rw [e0]
    unfold T2
    rw [put_put]
    have tm0 : 0 ≤ (if ticks + (k0 : Int) < time' then ticks + (k0 : Int) else time') := by split <;> omega
    have tm1 : (if ticks + (k0 : Int) < time' then ticks + (k0 : Int) else time') ≤ 9999 := by split <;> omega
    have := hist_draw hbp (S := S) hh t0 t1 (o7 := o7) (o8 := o8) (o9 := o9) (Z := Z) m (k0 + 1) (acc ++ [⟨if ticks + (k0 : Int) < time' then ticks + (k0 : Int) else time', w, g⟩]) time' x3 (n + 5) (some (.int (k0 : Int))) (some (.int w)) ok3 (by omega) (by omega) (by rw [List.length_append, List.length_singleton, hl]) ht' (fun r hr => by
      rcases List.mem_append.mp hr with m | m
      · exact ha r m
      · rw [List.mem_singleton.mp m]
        exact ⟨⟨tm0, tm1, w0, by show w ≤ 63; omega⟩, w1⟩) fun acc' time2 x' o5 o6 hl' ha' ok' => h acc' time2 x' o5 o6 hl' ha' (ok'.up (by omega))
    rw [List.map_append] at this
    exact this
/-! those that lie behind all ahead of them -/
def riseB (l : List Sg) (x : Sg × Nat) : Bool := decide (x.2 = 0) || (l.take x.2).all fun y => decide (y.t < x.1.t)
theorem zip_lt {α : Type} : ∀ (l : List α) (k : Nat), (l.zipIdx k).Pairwise fun x y => x.2 < y.2
  | [], k => .nil
  | a :: l, k => by
    rw [List.zipIdx_cons]
    refine .cons (fun y hy => ?_) (zip_lt l (k + 1))
    have := List.le_snd_of_mem_zipIdx hy
    show k < y.2
    omega
theorem rise_up (l : List Sg) : ((l.zipIdx 0).filter (riseB l)).Pairwise fun x y => x.1.t < y.1.t := by
  refine ((zip_lt l 0).filter _).imp_of_mem fun {x y} hx hy h => ?_
  obtain ⟨mx, _⟩ := List.mem_filter.mp hx
  obtain ⟨_, ry⟩ := List.mem_filter.mp hy
  have ex : l[x.2]? = some x.1 := List.mem_zipIdx_iff_getElem?.mp mx
  have ne : y.2 ≠ 0 := by omega
  unfold riseB at ry
  rw [decide_eq_false ne, Bool.false_or, List.all_eq_true] at ry
  have := ry x.1 (by
    have : (l.take y.2)[x.2]? = some x.1 := by rw [List.getElem?_take_of_lt h]; exact ex
    exact List.mem_of_getElem? this)
  simpa using this
theorem rise_vh {l : List Sg} {high : Int} (h : ∀ r ∈ l, VSg r ∧ r.w ≤ high) (hl : l.length ≤ 20) : VH (((l.zipIdx 0).filter (riseB l)).map (·.1)) ∧ ∀ r ∈ ((l.zipIdx 0).filter (riseB l)).map (·.1), r.w ≤ high := by
  have mm : ∀ r ∈ ((l.zipIdx 0).filter (riseB l)).map (·.1), r ∈ l := fun r hr => by
    obtain ⟨x, hx, rfl⟩ := List.mem_map.mp hr
    exact List.fst_mem_of_mem_zipIdx (List.mem_filter.mp hx).1
  refine ⟨⟨fun x hx => (h x (mm x hx)).1, ?_, ?_⟩, fun r hr => (h r (mm r hr)).2⟩
  · rw [List.pairwise_map]; exact rise_up l
  · rw [List.length_map]
    have := List.length_filter_le (riseB l) (l.zipIdx 0)
    rw [List.length_zipIdx] at this
    omega
theorem era_put {S : Sto} {b p : Addr} {o u : O} (hpb : p ≠ b) (hp : S p = none) : era (put (put S b o) p u) p = put S b o := by
  funext v
  by_cases c : v = p
  · rw [c, era_at, put_ne hpb]; exact hp.symm
  · rw [era_ne c, put_ne c]
theorem range_at {i : Int} (h0 : 0 ≤ i) (h1 : i < 5) : ∃ m : Nat, m ≤ 20 ∧ atI [D.int 0, D.int 1, D.int 3, D.int 8, D.int 20] i = some (.int (m : Int)) := by
  have : i = 0 ∨ i = 1 ∨ i = 2 ∨ i = 3 ∨ i = 4 := by omega
  rcases this with rfl | rfl | rfl | rfl | rfl
  · exact ⟨0, by decide, rfl⟩
  · exact ⟨1, by decide, rfl⟩
  · exact ⟨3, by decide, rfl⟩
  · exact ⟨8, by decide, rfl⟩
  · exact ⟨20, by decide, rfl⟩
def sp__law_history : Spd := fun ds S Q _ => ∃ (b : Addr) (x : Bx) (n : Nat) (high ticks : Int), ds = [.ref b, .int high, .int ticks] ∧ S b = some (bxO x) ∧ okB x n ∧ n ≤ 10000 ∧ (high = 63 ∨ high = 1) ∧ 0 ≤ ticks ∧ ticks ≤ 9970 ∧
  ∀ (rows : List Sg) x', VH rows → (∀ r ∈ rows, r.w ≤ high) → okB x' (n + 101) → Q (.lst (rows.map sgD)) (put S b (bxO x'))
theorem ok__law_history : BodyOk (d__law_history K sp__law_take) ["box", "high", "ticks", "found", "time", "lap", "worth", "at", "sign", "one"] sp__law_history := by
  rintro _ S Q E ⟨b, x, n, high, ticks, rfl, hb, ok, hn, hh, t0, t1, h⟩
  simp only [d__law_history, startD, z_dSeq, z_dAsg]
  rw [z_dTup, z_dCons, z_dLstM, z_dNil]
  refine ⟨sz0, fun p hp => ?_⟩
  have hpb := ref_ne hb hp
  have hb' : ∀ o, put S p o b = some (bxO x) := fun o => by rw [put_ne (Ne.symm hpb)]; exact hb
  simp only [z_dCons, z_dNil, z_dC, List.map_cons, List.map_nil, List.length_cons, List.length_nil, List.replicate, List.cons_append, List.nil_append]
  refine ⟨sz2, ?_⟩
  simp only [z_hTup, vw_tup, z_hCons, z_hNil0, z_hName, List.length_cons, List.length_nil, List.set_cons_succ, List.set_cons_zero]
  refine ⟨trivial, ?_⟩
  simp only [z_dSeq, z_dFor, z_nRng1, z_dCons, z_dNil]
  refine (show ∀ R : QD, (∀ x2 (m : Nat), m ≤ 20 → okB x2 (n + 1) → R (.int (m : Int)) (T2 S b p x2 [])) → dOp dIx (dLst (dCons (dC (.int 0)) (dCons (dC (.int 1)) (dCons (dC (.int 3)) (dCons (dC (.int 8)) (dCons (dC (.int 20)) dNil)))))) (dCall sp__law_take [] (dCons (dVar 0) (dCons (dC (.int 5)) dNil))) _ (put S p (.lst [])) R _ from fun R r => by
    simp [sz5]
    refine ⟨b, x, n, 5, rfl, hb' _, ok, by omega, by decide, by decide, fun x2 d ok2 d0 d1 => ?_⟩
    obtain ⟨m, hm, e⟩ := range_at d0 d1
    rw [put_comm hpb]
    simp only [e]
    exact r x2 m hm ok2) _ fun x2 m hm ok2 => ?_
  refine ⟨⟨by omega, by omega⟩, ?_⟩
  rw [Int.toNat_natCast]
  refine hist_draw hpb hh t0 t1 m 0 [] 0 x2 (n + 1) none none ok2 (by omega) (by omega) rfl (Int.le_refl _) (fun _ z => nomatch z) fun acc time' x' o5 o6 hl ha ok' => ?_
  have hpp : T2 S b p x' (acc.map sgD) p = some (.lst (acc.map sgD)) := put_same
  simp only [z_dSee, List.getElem?_cons_succ, List.getElem?_cons_zero, hpp]
  unfold T2
  rw [era_put hpb hp]
  simp only [List.set_cons_succ, List.set_cons_zero, z_dRet, z_dLc, z_nEnum, z_dCons, z_dNil, z_dVar, List.getElem?_cons_succ, List.getElem?_cons_zero, enumD_len]
  refine ⟨by rw [List.length_map]; exact sz (by omega), ?_⟩
  rw [enum_map]
  obtain ⟨vh, vm⟩ := rise_vh ha hl
  refine lc_those (riseB acc) (fun x : Sg × Nat => .tup [.int (x.2 : Int), sgD x.1]) (fun x => sgD x.1) _ (fun y hy R r => ?_) ?_
  · have y2 : y.2 < acc.length := by
      have := List.snd_lt_of_mem_zipIdx hy
      omega
    have hc := cut_take (acc.map sgD) y.2
    simp [oneD, wipeD, -z_dOrT]
    unfold riseB at r
    by_cases c : y.2 = 0
    · rw [decide_eq_true c, Bool.true_or, if_pos rfl] at r
      simp [c]
      exact r
    · rw [decide_eq_false c, Bool.false_or] at r
      simp [c]
      rw [hc, ← List.map_take]
      refine ⟨by rw [List.length_map, List.length_take]; exact sz (by omega), ?_⟩
      refine lc_all sgD (fun z => .int z.t) (acc.take y.2) (fun z hz R r => ?_) ?_
      · simp [oneD, wipeD, vw_sg, at0]
        exact r
      have ei : (acc.take y.2).map (fun z => D.int z.t) = ((acc.take y.2).map (·.t)).map D.int := by rw [List.map_map]; rfl
      simp only [vw_sg, at0, vw_lst, ei, VL.ints_map]
      refine ⟨by rw [List.length_map, List.length_take]; omega, fun m mm mx => ?_⟩
      have eq : (acc.take y.2).all (fun z => decide (z.t < y.1.t)) = decide (y.1.t > m) := by
        rw [Bool.eq_iff_iff, List.all_eq_true, decide_eq_true_eq]
        constructor
        · intro a
          obtain ⟨z, hz, e⟩ := List.mem_map.mp mm
          have := a z hz
          rw [decide_eq_true_eq] at this
          rw [← e]; exact this
        · intro a z hz
          have := mx z.t (List.mem_map_of_mem hz)
          rw [decide_eq_true_eq]
          omega
      rw [eq] at r
      simp only [vw_int]
      by_cases g : m < y.1.t
      · rw [if_pos g]; rw [decide_eq_true (show y.1.t > m from g), if_pos rfl] at r; exact r
      · rw [if_neg g]; rw [decide_eq_false (show ¬ y.1.t > m from g)] at r; simpa using r
  · have := h _ x' vh vm (ok'.up (by omega))
    rw [List.map_map] at this
    exact fin_now this
end K48

/-! histories drawn. -/
namespace K48
open PySem PySem.Spec PyProof.Rows L2 VL Nm
variable {K : PySem.W.Frag}
abbrev XG (K : PySem.W.Frag) := g__law_histories_0 K sp__law_mixed sp__law_take sp__law_history
abbrev XB (K : PySem.W.Frag) := b__law_histories_0 K sp__law_mixed sp__law_take sp__law_history
abbrev T4 (S : Sto) (b p : Addr) (x : Bx) (hs : List Hr) : Sto := put (put S b (bxO x)) p (.dct (hsK hs))
structure VHl (pts : List Pt) (hs : List Hr) : Prop where
  v : VHs pts hs
  l : ∀ h ∈ hs, h.tup = false
  nd : (hs.map (·.n)).Nodup
theorem vhl_add {pts : List Pt} {hs : List Hr} (v : VHl pts hs) {y : Pt} {rows : List Sg} (hy : ptOf pts y.n = some y) (hn : y.n ∉ hs.map (·.n)) (vh : VH rows) (vm : ∀ r ∈ rows, r.w ≤ most y) : VHl pts (hs ++ [⟨y.n, false, rows⟩]) ∧ putKD (hsK hs) (.inr y.n) (.lst (rows.map sgD)) = hsK (hs ++ [⟨y.n, false, rows⟩]) := by
  refine ⟨⟨fun h hh => ?_, fun h hh => ?_, ?_⟩, ?_⟩
  · rcases List.mem_append.mp hh with m | m
    · exact v.v h m
    · rw [List.mem_singleton.mp m]; exact ⟨y, hy, vh, vm⟩
  · rcases List.mem_append.mp hh with m | m
    · exact v.l h m
    · rw [List.mem_singleton.mp m]
  · rw [List.map_append, List.map_cons, List.map_nil]
    refine List.nodup_append.mpr ⟨v.nd, by simp, fun a ha b hb => ?_⟩
    rw [List.mem_singleton.mp hb]
    intro e
    have e' : a = y.n := e
    exact hn (by rw [← e']; exact ha)
  · rw [putKD_new (fun m => by
      unfold hsK at m
      rw [List.map_map] at m
      obtain ⟨z, mz, ez⟩ := List.mem_map.mp m
      injection ez with ez
      exact hn (by rw [← ez]; exact List.mem_map_of_mem mz))]
    unfold hsK
    rw [List.map_append]
    rfl
theorem most_of (y : Pt) : most y = 63 ∨ most y = 1 := by
  unfold most
  cases y.lv
  · exact .inr rfl
  · exact .inl rfl
theorem hists_draw {S : Sto} {b p : Addr} (hbp : p ≠ b) {pts : List Pt} {d1 : D} {ticks : Int} (t0 : 0 ≤ ticks) (t1 : ticks ≤ 9970) {Z : EndsD} : ∀ (l : List Pt) (hs : List Hr) (x : Bx) (n : Nat) (o4 o5 o6 : Option D), (∀ y ∈ l, ptOf pts y.n = some y) → (l.map (·.n)).Nodup → (∀ y ∈ l, y.n ∉ hs.map (·.n)) → VHl pts hs → hs.length + l.length ≤ 100 → okB x n → n + 102 * l.length ≤ 9000 →
    (∀ (hs' : List Hr) (x' : Bx) (o4 o5 o6 : Option D), VHl pts hs' → hs'.length ≤ hs.length + l.length → okB x' (n + 102 * l.length) → Z.nx [some (.ref b), some d1, some (.int ticks), some (.ref p), o4, o5, o6] (T4 S b p x' hs')) →
    dForL (XG K) (XB K) Z (l.map ptD) [some (.ref b), some d1, some (.int ticks), some (.ref p), o4, o5, o6] (T4 S b p x hs)
  | [], hs, x, n, o4, o5, o6, hy, nd, hn, v, hl, ok, hb_, h => h hs x o4 o5 o6 v (by simp) ok
  | y :: l, hs, x, n, o4, o5, o6, hy, nd, hn, v, hl, ok, hb_, h => by
    rw [List.length_cons] at hl hb_
    rw [List.map_cons, List.nodup_cons] at nd
    have hb : ∀ x o, T4 S b p x o b = some (bxO x) := fun x o => by unfold T4; rw [put_ne (Ne.symm hbp)]; exact put_same
    have hpp : ∀ x o, T4 S b p x o p = some (.dct (hsK o)) := fun x o => put_same
    have tw : ∀ x o x', put (T4 S b p x o) b (bxO x') = T4 S b p x' o := fun x o x' => put_two hbp
    have yy := hy y (List.mem_cons_self ..)
    have yn := hn y (List.mem_cons_self ..)
    have ih := fun (hs' : List Hr) (x' : Bx) (v' : VHl pts hs') (e : hs' = hs ∨ ∃ rows, hs' = hs ++ [⟨y.n, false, rows⟩]) (ok' : okB x' (n + 102)) => hists_draw hbp (S := S) (d1 := d1) t0 t1 (Z := Z) l hs' x' (n + 102) (some (.str y.n)) (some (.str y.p)) (some (.str (kiS y.lv))) (fun z hz => hy z (List.mem_cons_of_mem _ hz)) nd.2 (fun z hz m => by
      rcases e with e | ⟨rows, e⟩
      · rw [e] at m; exact hn z (List.mem_cons_of_mem _ hz) m
      · rw [e, List.map_append, List.mem_append] at m
        rcases m with m | m
        · exact hn z (List.mem_cons_of_mem _ hz) m
        · simp at m
          exact nd.1 (by rw [← m]; exact List.mem_map_of_mem hz)) v' (by
      rcases e with e | ⟨rows, e⟩
      · rw [e]; omega
      · rw [e, List.length_append, List.length_singleton]; omega) ok' (by omega) fun p2 x2 a b c v2 h2 ok2 => h p2 x2 a b c v2 (by
      rw [List.length_cons]
      rcases e with e | ⟨rows, e⟩
      · rw [e] at h2; omega
      · rw [e, List.length_append, List.length_singleton] at h2; omega) (ok2.up (by rw [List.length_cons]; omega))
    rw [List.map_cons, for_cons]
    simp only [XG, XB, u_g__law_histories_0, u_b__law_histories_0, z_hTup, vw_pt, z_hCons, z_hNil0, z_hName, List.set_cons_succ, List.set_cons_zero]
    refine ⟨rfl, ?_⟩
    simp only [z_dIf, z_dTest, z_dOp]
    refine (show ∀ R : QD, (∀ x1 d, okB x1 (n + 1) → R (.int d) (T4 S b p x1 hs)) → dCall sp__law_take [] (dCons (dVar 0) (dCons (dC (.int 5)) dNil)) _ (T4 S b p x hs) R _ from fun R r => by
      simp
      refine ⟨b, x, n, 5, rfl, hb _ _, ok, by omega, by decide, by decide, fun x1 d ok1 _ _ => ?_⟩
      rw [tw]
      exact r x1 d ok1) _ fun x1 d ok1 => ?_
    simp only [z_dC, z_iCmp, vw_int]
    by_cases c : d > 0
    · simp only [c, decide_true, if_true]
      simp only [z_dSetI]
      refine (show ∀ R : QD, (∀ x2 rows, okB x2 (n + 102) → VH rows → (∀ r ∈ rows, r.w ≤ most y) → R (.lst (rows.map sgD)) (T4 S b p x2 hs)) → dCall sp__law_history [] (dCons (dVar 0) (dCons (dIfE (dTest (dOp dEq (dVar 6) (dC (.str "level")))) (dC (.int 63)) (dC (.int 1))) (dCons (dVar 2) dNil))) _ (T4 S b p x1 hs) R _ from fun R r => by
        have me : most y = if y.lv = true then 63 else 1 := rfl
        have fin : ∀ high : Int, high = most y → sp__law_history [.ref b, .int high, .int ticks] (T4 S b p x1 hs) R XF := fun high e => ⟨b, x1, n + 1, high, ticks, rfl, hb _ _, ok1, by omega, by rw [e]; exact most_of y, t0, t1, fun rows x2 vh vm ok2 => by
          rw [tw]
          exact r x2 rows (ok2.up (by omega)) vh (by rw [← e]; exact vm)⟩
        cases e : y.lv with
        | true =>
          rw [e] at me
          simp [kiS]
          exact fin 63 (by rw [me]; rfl)
        | false =>
          rw [e] at me
          simp [kiS]
          exact fin 1 (by rw [me]; rfl)) _ fun x2 rows ok2 vh vm => ?_
      obtain ⟨v', e'⟩ := vhl_add v yy yn vh vm
      simp only [z_dVar, List.getElem?_cons_succ, List.getElem?_cons_zero, hpp, keyD, e']
      refine ⟨by rw [hs_len]; exact szl (by omega), ?_⟩
      have := ih _ x2 v' (.inr ⟨rows, rfl⟩) ok2
      unfold T4
      rw [put_put]
      exact this
    · simp only [c, decide_false, Bool.false_eq_true, if_false, z_dNext]
      exact ih hs x1 v (.inl rfl) (ok1.up (by omega))
def sp__law_histories : Spd := fun ds S Q _ => ∃ (b : Addr) (x : Bx) (n : Nat) (pts : List Pt) (ticks : Int), ds = [.ref b, .lst (pts.map ptD), .int ticks] ∧ VPts pts ∧ S b = some (bxO x) ∧ okB x n ∧ n ≤ 1000 ∧ 0 ≤ ticks ∧ ticks ≤ 9970 ∧
  ∀ (hs : List Hr) x', VHl pts hs → hs.length ≤ 8 → okB x' (n + 824) → Q (.dct (hsK hs)) (put S b (bxO x'))
theorem ok__law_histories : BodyOk (d__law_histories K sp__law_mixed sp__law_take sp__law_history) ["box", "points", "ticks", "found", "name", "place", "kind"] sp__law_histories := by
  rintro _ S Q E ⟨b, x, n, pts, ticks, rfl, vs, hb, ok, hn, t0, t1, h⟩
  have l8 := vs.hi
  simp only [d__law_histories, startD, z_dSeq, z_dAsg, z_dDctM, z_hName]
  intro p hp
  have hpb := ref_ne hb hp
  have hb' : ∀ o, put S p o b = some (bxO x) := fun o => by rw [put_ne (Ne.symm hpb)]; exact hb
  simp only [List.map_cons, List.map_nil, List.length_cons, List.length_nil, List.replicate, List.cons_append, List.nil_append, List.set_cons_succ, List.set_cons_zero, z_dFor, z_nAny, z_dCall, z_dCons, z_dNil, z_dVar, List.getElem?_cons_succ, List.getElem?_cons_zero]
  refine ⟨b, x, n, pts.map ptD, rfl, hb' _, ok, by rw [List.length_map]; omega, fun ys x1 pm ok1 => ?_⟩
  obtain ⟨l, pl, rfl⟩ := perm_map_inv pm rfl
  rw [List.length_map] at ok1
  have ll := pl.length_eq
  rw [put_comm hpb]
  simp only [vw_lst]
  refine hists_draw hpb (pts := pts) t0 t1 l [] x1 (n + 8) none none none (fun y hy => ptOf_of vs.nd (pl.mem_iff.mp hy)) ((pl.map _).nodup_iff.mpr vs.nd) (fun _ _ m => nomatch m) ⟨(fun _ m => nomatch m), (fun _ m => nomatch m), List.Pairwise.nil⟩ (by simp; omega) (ok1.up (by omega)) (by omega) fun hs x2 o4 o5 o6 v h1 ok2 => ?_
  have hpp : T4 S b p x2 hs p = some (.dct (hsK hs)) := put_same
  simp only [z_dSee, List.getElem?_cons_succ, List.getElem?_cons_zero, hpp]
  unfold T4
  rw [era_put hpb hp]
  simp only [z_dRet, z_dVar, List.set_cons_succ, List.set_cons_zero, List.getElem?_cons_succ, List.getElem?_cons_zero]
  simp at h1
  exact fin_now (h hs x2 v (by omega) (ok2.up (by omega)))
end K48

/-! dicts shown; histories handed as lists or tuples. -/
namespace K48
open PySem PySem.Spec PyProof.Rows L2 VL Nm
variable {K : PySem.W.Frag}
theorem tame_nm {s : Str} (h : Nm s) : Tame (.str s) (.str s) 0 8 := by
  have hb : ∀ c ∈ s.cps.toList, c < 128 := fun c hc => by have := h.all c hc; unfold Lt at this; omega
  refine tame_str ?_ ?_ h.hi
  · show PyData.strOk s = true
    unfold PyData.strOk
    rw [Array.all_eq_true_iff_forall_mem]
    intro c hc
    have := hb c (Array.mem_toList_iff.mpr hc)
    simp
    omega
  · rw [PyData.leavesShort, List.all_eq_true]
    intro c hc
    have := hb c hc
    simp
    omega
structure TameK (kds : List (Key × D)) (ps : List (PyData × PyData)) (k b : Nat) : Prop where
  is : toPk kds = some ps
  show_ : PyData.showableKv ps = true
  deep : PyData.depthKv ps ≤ k
  leaf : PyData.leavesShortKv 13 ps = true
  bulk : PyData.bulkKv ps ≤ kds.length * (b + 50)
theorem tameK_nil {k b : Nat} : TameK [] [] k b := ⟨rfl, rfl, Nat.zero_le _, rfl, Nat.zero_le _⟩
theorem tameK_cons {s : Str} {d : D} {p : PyData} {kds : List (Key × D)} {ps : List (PyData × PyData)} {k b : Nat} (hn : Nm s) (h : Tame d p k b) (r : TameK kds ps k b) : TameK ((.inr s, d) :: kds) ((.str s, p) :: ps) k b := by
  have t1 := tame_nm hn
  refine ⟨?_, ?_, ?_, ?_, ?_⟩
  · rw [toPk, h.is, r.is]; rfl
  · rw [PyData.showableKv, t1.show_, h.show_, r.show_]; rfl
  · rw [PyData.depthKv]
    have := t1.deep
    have := h.deep
    have := r.deep
    omega
  · rw [PyData.leavesShortKv, t1.leaf, h.leaf, r.leaf]; rfl
  · rw [PyData.bulkKv, List.length_cons, Nat.add_mul, Nat.one_mul]
    have := t1.bulk
    have := h.bulk
    have := r.bulk
    omega
theorem reprL_of {x : D} {kds : List (Key × D)} {ps : List (PyData × PyData)} {k b : Nat} {S : Sto} {Q : QD} (hx : vw S x = .dct kds) (h : TameK kds ps k b) (hk : k ≤ 60) (hb : kds.length * (b + 50) ≤ 1000000) (q : Q (.str (PyData.dict ps).shown) S) : dReprL [x] S Q := by
  unfold dReprL
  simp only [hx, h.is]
  refine ⟨by rw [PyData.showable]; exact h.show_, ?_, ?_, q⟩
  · rw [PyData.depth]
    have := h.deep
    omega
  · have s1 := PyData.shown_le_bulk 13 (by decide) (.dict ps) (by rw [PyData.leavesShort]; exact h.leaf)
    have s2 : (PyData.dict ps).bulk = PyData.bulkKv ps := by rw [PyData.bulk]
    have := h.bulk
    rw [sizeLine_eq]
    omega
theorem tameK_pic {pts : List Pt} {hs : List Hr} {t : Int} (vs : VPts pts) (v : VHs pts hs) : ∃ ps, TameK (picK (picAt pts hs t)) ps 0 100 := by
  have ok := vs.ok
  have go : ∀ l : List Pt, (∀ y ∈ l, Nm y.n) → ∃ ps, TameK (picK (picAt l hs t)) ps 0 100 := by
    intro l
    induction l with
    | nil => intro _; exact ⟨[], tameK_nil⟩
    | cons y l ih =>
      intro hl
      obtain ⟨ps, hp⟩ := ih fun z hz => hl z (List.mem_cons_of_mem _ hz)
      rw [picAt_cons]
      cases e : wAt (rowsOf hs y.n) t with
      | none =>
        have : pic1 hs t y = [] := by unfold pic1; rw [e]
        rw [this]
        exact ⟨ps, hp⟩
      | some w =>
        have e1 : pic1 hs t y = [(y.n, w)] := by unfold pic1; rw [e]
        rw [e1]
        have wb : 0 ≤ w ∧ w ≤ 63 := by
          unfold wAt at e
          split at e
          · next x ex =>
            have mx := List.mem_of_getLast? ex
            have vx := (vh_rows v y.n).ok x (List.mem_filter.mp mx).1
            split at e
            · cases e; exact ⟨vx.w0, vx.w1⟩
            · cases e
          · cases e
        exact ⟨_, tameK_cons (hl y (List.mem_cons_self ..)) ((tame_int (i := w) (by omega)).up (Nat.le_refl _) (Nat.zero_le _)) hp⟩
  exact go pts fun y hy => (ok y hy).1
theorem tameK_hs {pts : List Pt} (vs : VPts pts) : ∀ {hs : List Hr}, VHs pts hs → ∃ ps, TameK (hsK hs) ps 2 50000
  | [], _ => ⟨[], tameK_nil⟩
  | h :: hs, v => by
    obtain ⟨ps, hp⟩ := tameK_hs vs (hs := hs) fun z hz => v z (List.mem_cons_of_mem _ hz)
    obtain ⟨y, hy, vh, _⟩ := v h (List.mem_cons_self ..)
    obtain ⟨m1, m2⟩ := ptOf_mem hy
    have nm := (vs.ok y m1).1
    rw [m2] at nm
    have hl := vh.hi
    obtain ⟨qs, hq⟩ := tame_sgs vh.ok vh.hi
    have : ∃ p, Tame (seqD h.tup (h.rows.map sgD)) p 2 50000 := by
      cases e : h.tup
      · exact ⟨_, tame_lst hq (by rw [List.length_map]; omega)⟩
      · exact ⟨_, tame_tup hq (by rw [List.length_map]; omega)⟩
    obtain ⟨p, tp⟩ := this
    exact ⟨_, tameK_cons nm tp hp⟩
/-! handed -/
def itD (h : Hr) : D := .tup [.str h.n, seqD h.tup (h.rows.map sgD)]
def core_ (h : Hr) : Str × List Sg := (h.n, h.rows)
theorem hand_loop {S : Sto} {b : Addr} {Q : List D → Sto → Prop} {σ : Sd} (s2 : σ[2]? = some (some (.ref b))) (sl : 9 < σ.length) : ∀ (l : List Hr) (acc : List D) (x : Bx) (n : Nat), okB x n → n + l.length ≤ 20000 → (∀ h ∈ l, h.tup = false) →
    (∀ (ts : List Hr) (x' : Bx), ts.map core_ = l.map core_ → okB x' (n + l.length) → Q (acc ++ ts.map itD) (put S b (bxO x'))) →
    dLcL (hTup 2 (hCons (hName 8) (hCons (hName 9) hNil))) dYes (dTup (dCons (dVar 8) (dCons (dIfE (dTest (dOp dEq (dCall sp__law_take [] (dCons (dVar 2) (dCons (dC (.int 2)) dNil))) (dC (.int 0)))) (dCB dTupOf (dCons (dVar 9) dNil)) (dVar 9)) dNil))) σ Q (l.map itD) acc (put S b (bxO x))
  | [], acc, x, n, ok, hn, hf, h => by
    have := h [] x rfl ok
    rw [List.map_nil, List.append_nil] at this
    exact this
  | y :: l, acc, x, n, ok, hn, hf, h => by
    rw [List.length_cons] at hn
    have yf := hf y (List.mem_cons_self ..)
    refine lc_step ?_
    have g2 : ∀ a c : Option D, ((σ.set 8 a).set 9 c)[2]? = some (some (.ref b)) := fun a c => by
      rw [List.getElem?_set_ne (by decide), List.getElem?_set_ne (by decide)]; exact s2
    have g8 : ∀ a c : Option D, ((σ.set 8 a).set 9 c)[8]? = some a := fun a c => by
      rw [List.getElem?_set_ne (by decide), List.getElem?_set_self (by omega)]
    have g9 : ∀ a c : Option D, ((σ.set 8 a).set 9 c)[9]? = some c := fun a c => by
      rw [List.getElem?_set_self (by rw [List.length_set]; omega)]
    have ev : itD y = .tup [.str y.n, .lst (y.rows.map sgD)] := by unfold itD; rw [yf]; rfl
    rw [ev]
    have ih := fun (tp : Bool) (x' : Bx) (ok' : okB x' (n + 1)) => hand_loop s2 sl l (acc ++ [itD ⟨y.n, tp, y.rows⟩]) x' (n + 1) ok' (by omega) (fun z hz => hf z (List.mem_cons_of_mem _ hz)) fun ts x2 e ok2 => by
      have := h (⟨y.n, tp, y.rows⟩ :: ts) x2 (by rw [List.map_cons, List.map_cons, e]; rfl) (ok2.up (by rw [List.length_cons]; omega))
      rw [List.map_cons] at this
      rw [List.append_assoc]
      exact this
    simp [oneD, g2, g8, g9]
    refine ⟨b, x, n, 2, rfl, put_same, ok, by omega, by decide, by decide, fun x1 d ok1 d0 d1 => ?_⟩
    rw [put_put]
    by_cases c : d = 0
    · simp [c, sz2]
      exact ih true x1 ok1
    · simp [c, sz2]
      exact ih false x1 ok1
theorem pairs_it (ts : List Hr) : pairsD (ts.map itD) = some (hsK ts) := by
  induction ts with
  | nil => rfl
  | cons t ts ih =>
    rw [List.map_cons]
    show (match keyD (.str t.n), pairsD (ts.map itD) with
      | some k, some r => some ((k, seqD t.tup (t.rows.map sgD)) :: r)
      | _, _ => none) = _
    rw [ih]
    rfl
theorem hs_keys (ts : List Hr) : (hsK ts).map (·.1) = (ts.map (·.n)).map (fun s => (.inr s : Key)) := by
  unfold hsK
  rw [List.map_map, List.map_map]
  rfl
theorem nd_hsK {ts : List Hr} (nd : (ts.map (·.n)).Nodup) : ((hsK ts).map (·.1)).Nodup := by
  rw [hs_keys]
  exact List.Pairwise.map _ (fun a b z h => z (by injection h)) nd
theorem core_names {ts hs : List Hr} (e : ts.map core_ = hs.map core_) : ts.map (·.n) = hs.map (·.n) := by
  have : (ts.map core_).map (·.1) = (hs.map core_).map (·.1) := by rw [e]
  rw [List.map_map, List.map_map] at this
  exact this
theorem core_len {ts hs : List Hr} (e : ts.map core_ = hs.map core_) : ts.length = hs.length := by
  have := congrArg List.length e
  rwa [List.length_map, List.length_map] at this
theorem core_vhs {pts : List Pt} {ts hs : List Hr} (e : ts.map core_ = hs.map core_) (v : VHs pts hs) : VHs pts ts := fun h hh => by
  have m : core_ h ∈ hs.map core_ := by rw [← e]; exact List.mem_map_of_mem hh
  obtain ⟨z, mz, ez⟩ := List.mem_map.mp m
  obtain ⟨y, hy, a, b⟩ := v z mz
  have e1 : z.n = h.n := congrArg (·.1) ez
  have e2 : z.rows = h.rows := congrArg (·.2) ez
  rw [e1] at hy
  rw [e2] at a b
  exact ⟨y, hy, a, b⟩
theorem core_rows : ∀ {ts hs : List Hr}, ts.map core_ = hs.map core_ → ∀ s, rowsOf ts s = rowsOf hs s
  | [], [], _, s => rfl
  | [], _ :: _, e, s => by cases e
  | _ :: _, [], e, s => by cases e
  | t :: ts, h :: hs, e, s => by
    rw [List.map_cons, List.map_cons] at e
    injection e with e1 e2
    have n1 : t.n = h.n := congrArg (·.1) e1
    have r1 : t.rows = h.rows := congrArg (·.2) e1
    have ih := core_rows e2 s
    unfold rowsOf hOf at ih ⊢
    rw [List.find?_cons, List.find?_cons, n1]
    by_cases c : h.n = s
    · simp only [c, decide_true]; exact r1
    · simp only [c, decide_false]; exact ih
theorem pic_same {ts hs : List Hr} (e : ts.map core_ = hs.map core_) (pts : List Pt) (t : Int) : picAt pts ts t = picAt pts hs t := by
  unfold picAt
  congr 1
  funext y
  rw [core_rows e]
end K48

/-! the law: times, laps, turns. -/
namespace K48
open PySem PySem.Spec PyProof.Rows L2 VL Nm
variable {K : PySem.W.Frag}
theorem sub_new {S0 S : Sto} {p : Addr} (h : Sub S0 S) (hp : S p = none) : S0 p = none := by
  rcases h p with e | e
  · exact e
  · rw [e]; exact hp
theorem sub_at {S0 S : Sto} {p : Addr} {o : O} (h : Sub S0 S) (hp : S0 p = none) : Sub S0 (put S p o) := fun a => by
  by_cases e : a = p
  · left; rw [e]; exact hp
  · rw [put_ne e]; exact h a
structure St (S0 S : Sto) (b m : Addr) (x : Bx) (ts : List Int) : Prop where
  sb : Sub S0 S
  hb : S b = some (bxO x)
  hm : S m = some (.lst (ts.map D.int))
  b0 : S0 b = none
  m0 : S0 m = none
  ne : m ≠ b
section
variable {S0 S : Sto} {b m : Addr} {x : Bx} {ts : List Int}
theorem St.box (h : St S0 S b m x ts) (x' : Bx) : St S0 (put S b (bxO x')) b m x' ts := ⟨sub_at h.sb h.b0, put_same, by rw [put_ne h.ne]; exact h.hm, h.b0, h.m0, h.ne⟩
theorem St.new (h : St S0 S b m x ts) {q : Addr} {o : O} (hq : S q = none) : St S0 (put S q o) b m x ts :=
  ⟨sub_at h.sb (sub_new h.sb hq), by rw [put_ne (fun e => by rw [← e, h.hb] at hq; cases hq)]; exact h.hb, by rw [put_ne (fun e => by rw [← e, h.hm] at hq; cases hq)]; exact h.hm, h.b0, h.m0, h.ne⟩
theorem St.lst (h : St S0 S b m x ts) (us : List Int) : St S0 (put S m (.lst (us.map D.int))) b m x us := ⟨sub_at h.sb h.m0, by rw [put_ne (Ne.symm h.ne)]; exact h.hb, put_same, h.b0, h.m0, h.ne⟩
end
abbrev LG0 (K : PySem.W.Frag) := g_law_0 K sp__law_box sp__law_cell sp__law_points sp__law_names sp__law_take sp__law_histories (sp_picture_at K) sp__law_picture_at (sp_init K)
abbrev LB0 (K : PySem.W.Frag) := b_law_0 K sp__law_box sp__law_cell sp__law_points sp__law_names sp__law_take sp__law_histories (sp_picture_at K) sp__law_picture_at (sp_init K)
abbrev LG1 (K : PySem.W.Frag) := g_law_1 K sp__law_box sp__law_cell sp__law_points sp__law_names sp__law_take sp__law_histories (sp_picture_at K) sp__law_picture_at (sp_init K)
abbrev LB1 (K : PySem.W.Frag) := b_law_1 K sp__law_box sp__law_cell sp__law_points sp__law_names sp__law_take sp__law_histories (sp_picture_at K) sp__law_picture_at (sp_init K)
abbrev LG2 (K : PySem.W.Frag) := g_law_2 K sp__law_box sp__law_cell sp__law_points sp__law_names sp__law_take sp__law_histories (sp_picture_at K) sp__law_picture_at (sp_init K)
abbrev LB2 (K : PySem.W.Frag) := b_law_2 K sp__law_box sp__law_cell sp__law_points sp__law_names sp__law_take sp__law_histories (sp_picture_at K) sp__law_picture_at (sp_init K)
abbrev LG3 (K : PySem.W.Frag) := g_law_3 K sp__law_box sp__law_cell sp__law_points sp__law_names sp__law_take sp__law_histories (sp_picture_at K) sp__law_picture_at (sp_init K)
abbrev LB3 (K : PySem.W.Frag) := b_law_3 K sp__law_box sp__law_cell sp__law_points sp__law_names sp__law_take sp__law_histories (sp_picture_at K) sp__law_picture_at (sp_init K)
theorem times_loop {S0 : Sto} {b m : Addr} {x : Bx} {Z : EndsD} {o0 o1 o2 o3 o4 o5 o6 o7 o8 o10 o13 o14 o15 o16 : Option D} : ∀ (l : List Hr) {S : Sto} {ts : List Int} {o9 o12 : Option D}, St S0 S b m x ts → (∀ h ∈ l, h.tup = false ∧ h.rows.length ≤ 100) → ts.length + 100 * l.length ≤ 10000 → 1 ≤ ts.length →
    (∀ S' ts' o9 o12, St S0 S' b m x ts' → 1 ≤ ts'.length → ts'.length ≤ 10000 → Z.nx [o0, o1, o2, o3, o4, o5, o6, o7, o8, o9, o10, some (.ref m), o12, o13, o14, o15, o16] S') →
    dForL (LG1 K) (LB1 K) Z (l.map fun h => seqD h.tup (h.rows.map sgD)) [o0, o1, o2, o3, o4, o5, o6, o7, o8, o9, o10, some (.ref m), o12, o13, o14, o15, o16] S
  | [], S, ts, o9, o12, st, hl, hn, h1, h => h S ts o9 o12 st h1 (by simpa using hn)
  | y :: l, S, ts, o9, o12, st, hl, hn, h1, h => by
    rw [List.length_cons] at hn
    obtain ⟨yt, yl⟩ := hl y (List.mem_cons_self ..)
    rw [List.map_cons, for_cons, yt]
    simp only [LG1, LB1, u_g_law_1, u_b_law_1, z_hName, List.set_cons_succ, List.set_cons_zero, z_dDrop, z_dExtend, z_dCons, z_dNil, z_dVar, z_dLcM, z_nAny, List.getElem?_cons_succ, List.getElem?_cons_zero]
    refine ⟨⟨_, st.hm⟩, ?_⟩
    have es : seqD false (y.rows.map sgD) = .lst (y.rows.map sgD) := rfl
    simp only [es, vw_lst]
    refine ⟨by rw [List.length_map]; exact sz (by omega), ?_⟩
    refine lc_all sgD (fun z => .int z.t) y.rows (fun z hz R r => ?_) fun q hq => ?_
    · simp [oneD, wipeD, vw_sg, at0]
      exact r
    have st2 := st.new (o := .lst (y.rows.map fun z => .int z.t)) hq
    simp only [st2.hm, put_same]
    refine ⟨by rw [List.length_map, List.length_map]; exact sz (by omega), ?_⟩
    have e1 : ts.map D.int ++ (y.rows.map fun z => D.int z.t) = (ts ++ y.rows.map (·.t)).map D.int := by rw [List.map_append, List.map_map]; rfl
    rw [e1]
    exact times_loop l (st2.lst _) (fun z hz => hl z (List.mem_cons_of_mem _ hz)) (by rw [List.length_append, List.length_map]; omega) (by rw [List.length_append]; omega) h
section
variable {S0 : Sto} {b m : Addr} {ts : List Int} {pts : List Pt} {hs hd : List Hr} {Z : EndsD} {o0 o1 o5 o8 o9 o10 o12 o13 : Option D}
theorem lap_ok {S : Sto} {x : Bx} {t : Int} {o15 o16 : Option D} (vs : VPts pts) (v : VHs pts hs) (e : hd.map core_ = hs.map core_) (l8 : hd.length ≤ 8) (t0 : 0 ≤ t) (t1 : t ≤ 9999) (st : St S0 S b m x ts)
    (h : ∀ S' o16, St S0 S' b m x ts → Z.nx [o0, o1, some (.ref b), some (.lst (pts.map ptD)), some (wkD K pts []), o5, some (.dct (hsK hs)), some (.dct (hsK hd)), o8, o9, o10, some (.ref m), o12, o13, some (.int t), o15, o16] S') :
    LB3 K Z [o0, o1, some (.ref b), some (.lst (pts.map ptD)), some (wkD K pts []), o5, some (.dct (hsK hs)), some (.dct (hsK hd)), o8, o9, o10, some (.ref m), o12, o13, some (.int t), o15, o16] S := by
  have vd := core_vhs e v
  simp only [LB3, u_b_law_3, z_dSeq, z_dAsg, z_dCall, z_dCons, z_dNil, z_dVar, List.getElem?_cons_succ, List.getElem?_cons_zero]
  refine ⟨_, pts, [], hd, t, rfl, wv_wk, vs, vd, by omega, t0, t1, fun q hq => ?_⟩
  rw [pic_same e]
  have st2 := st.new (o := .dct (picK (picAt pts hs t))) hq
  obtain ⟨ps, tk⟩ := tameK_pic (t := t) vs v
  have pl : (picK (picAt pts hs t)).length ≤ 8 := by
    unfold picK picAt
    rw [List.length_map]
    exact Nat.le_trans (List.length_filterMap_le _ _) vs.hi
  simp only [z_hName, List.set_cons_succ, List.set_cons_zero, z_dSeq, z_dIf, z_dTest, z_dOp, z_dCB, z_dCons, z_dNil, z_dVar, z_dCall, List.getElem?_cons_succ, List.getElem?_cons_zero]
  refine reprL_of (vw_ref_dct put_same) tk (by decide) (by omega) ?_
  refine ⟨pts, hs, t, rfl, vs, v, ?_⟩
  refine reprL_of rfl tk (by decide) (by omega) ?_
  simp only [z_eqS, decide_true, Bool.not_true, Bool.false_eq_true, if_false, z_dNext, z_dSetI, z_dC, z_dVar, List.getElem?_cons_succ, List.getElem?_cons_zero, put_same, keyD]
  refine ⟨szl (by omega), h _ _ ?_⟩
  rw [put_put]
  exact st.new hq
theorem laps_ok {x : Bx} {t : Int} (vs : VPts pts) (v : VHs pts hs) (e : hd.map core_ = hs.map core_) (l8 : hd.length ≤ 8) (t0 : 0 ≤ t) (t1 : t ≤ 9999) : ∀ (ks : List D) {S : Sto} {o15 o16 : Option D}, St S0 S b m x ts →
    (∀ S' o15 o16, St S0 S' b m x ts → Z.nx [o0, o1, some (.ref b), some (.lst (pts.map ptD)), some (wkD K pts []), o5, some (.dct (hsK hs)), some (.dct (hsK hd)), o8, o9, o10, some (.ref m), o12, o13, some (.int t), o15, o16] S') →
    dForL (LG3 K) (LB3 K) Z ks [o0, o1, some (.ref b), some (.lst (pts.map ptD)), some (wkD K pts []), o5, some (.dct (hsK hs)), some (.dct (hsK hd)), o8, o9, o10, some (.ref m), o12, o13, some (.int t), o15, o16] S
  | [], S, o15, o16, st, h => h S o15 o16 st
  | k :: ks, S, o15, o16, st, h => by
    rw [for_cons]
    simp only [LG3, u_g_law_3, z_hName, List.set_cons_succ, List.set_cons_zero]
    refine lap_ok vs v e l8 t0 t1 st fun S' o16 s' => ?_
    exact laps_ok vs v e l8 t0 t1 ks s' h
theorem turns_ok (vs : VPts pts) (v : VHs pts hs) (e : hd.map core_ = hs.map core_) (l8 : hd.length ≤ 8) (h1 : 1 ≤ ts.length) (h2 : ts.length ≤ 10000) : ∀ (ks : List D) {S : Sto} {x : Bx} {n : Nat} {o13 o14 o15 o16 : Option D}, okB x n → n + 2 * ks.length ≤ 20000 → St S0 S b m x ts →
    (∀ S' x' o13 o14 o15 o16, St S0 S' b m x' ts → Z.nx [o0, o1, some (.ref b), some (.lst (pts.map ptD)), some (wkD K pts []), o5, some (.dct (hsK hs)), some (.dct (hsK hd)), o8, o9, o10, some (.ref m), o12, o13, o14, o15, o16] S') →
    dForL (LG2 K) (LB2 K) Z ks [o0, o1, some (.ref b), some (.lst (pts.map ptD)), some (wkD K pts []), o5, some (.dct (hsK hs)), some (.dct (hsK hd)), o8, o9, o10, some (.ref m), o12, o13, o14, o15, o16] S
  | [], S, x, n, o13, o14, o15, o16, ok, hn, st, h => h S x o13 o14 o15 o16 st
  | k :: ks, S, x, n, o13, o14, o15, o16, ok, hn, st, h => by
    rw [List.length_cons] at hn
    rw [for_cons]
    simp only [LG2, LB2, u_g_law_2, u_b_law_2, z_hName, List.set_cons_succ, List.set_cons_zero, z_dSeq, z_dAsg]
    refine (show ∀ R : QD, (∀ x1 v, okB x1 (n + 2) → R (.int v) (put S b (bxO x1))) → dOp dSub (dOp dAdd (dOp dIx (dVar 11) (dCall sp__law_take [] (dCons (dVar 2) (dCons (dCB dLen (dCons (dVar 11) dNil)) dNil)))) (dCall sp__law_take [] (dCons (dVar 2) (dCons (dC (.int 3)) dNil)))) (dC (.int 1)) _ S R _ from fun R r => by
      simp only [z_dOp, z_dVar, z_dCall, z_dCB, z_dCons, z_dNil, z_dLen, List.getElem?_cons_succ, List.getElem?_cons_zero, vw_ref_lst st.hm]
      refine ⟨b, x, n, ((ts.map D.int).length : Int), rfl, st.hb, ok, by omega, by rw [List.length_map]; omega, by rw [List.length_map]; omega, fun x1 d ok1 d0 d1 => ?_⟩
      rw [List.length_map] at d1
      obtain ⟨y, _, hat⟩ := at_map (l := ts) (g := D.int) d0 d1
      have s1 := st.box x1
      simp only [z_dIx, vw_ref_lst s1.hm, hat, z_dC]
      refine ⟨b, x1, n + 1, 3, rfl, put_same, ok1, by omega, by decide, by decide, fun x2 f ok2 f0 f1 => ?_⟩
      rw [put_put]
      simp only [z_dAdd, vw_int, z_iOp]
      exact ⟨trivial, r x2 _ ok2⟩) _ fun x1 v1 ok1 => ?_
    have s1 := st.box x1
    try simp only [z_hName, List.set_cons_succ, List.set_cons_zero, z_dSeq, z_dAsg]
    refine (show ∀ R : QD, (∀ t, 0 ≤ t → t ≤ 9999 → R (.int t) (put S b (bxO x1))) → dCB (dMM fun i j => if j > i then j else i) (dCons (dC (.int 0)) (dCons (dCB (dMM fun i j => if j < i then j else i) (dCons (dC (.int 9999)) (dCons (dVar 14) dNil))) dNil)) _ (put S b (bxO x1)) R _ from fun R r => by
      simp
      refine r _ ?_ ?_
      · split <;> omega
      · repeat' split
        all_goals omega) _ fun t t0 t1 => ?_
    try simp only [z_hName, List.set_cons_succ, List.set_cons_zero, z_dFor, z_nRng1, z_dCons, z_dNil, z_dC]
    refine ⟨by decide, ?_⟩
    refine laps_ok vs v e l8 t0 t1 _ s1 fun S' o15 o16 s' => ?_
    exact turns_ok vs v e l8 h1 h2 ks ok1 (by omega) s' h
end
end K48

/-! the law: each cell, and all. -/
namespace K48
open PySem PySem.Spec PyProof.Rows L2 VL Nm
variable {K : PySem.W.Frag}
theorem vpts_of {pts : List Pt} {ns : List Str} {n : Nat} (h : Names ns n) (e : pts.map (·.n) = ns) (hp : ∀ q ∈ pts, q.p ∈ pls) (h1 : 1 ≤ n) (h8 : n ≤ 8) : VPts pts := by
  have hl : pts.length = n := by rw [← h.len, ← e, List.length_map]
  refine ⟨fun x hx => ⟨h.nm _ (by rw [← e]; exact List.mem_map_of_mem hx), pls_nm _ (hp x hx)⟩, by rw [e]; exact h.nd, by omega, by omega, pls, by decide, hp⟩
theorem three_at {i : Int} (h0 : 0 ≤ i) (h1 : i < 3) : ∃ v, atI [D.int 9999, D.int 40, D.int 3] i = some (.int v) ∧ 3 ≤ v := by
  have : i = 0 ∨ i = 1 ∨ i = 2 := by omega
  rcases this with rfl | rfl | rfl
  · exact ⟨_, rfl, by decide⟩
  · exact ⟨_, rfl, by decide⟩
  · exact ⟨_, rfl, by decide⟩
theorem vals_hs (hs : List Hr) : Vw.vals.ds (hsK hs) = hs.map fun h => seqD h.tup (h.rows.map sgD) := by
  show (hsK hs).map (·.2) = _
  unfold hsK
  rw [List.map_map]
  rfl
theorem ev_hand {S : Sto} {b : Addr} {x : Bx} {n : Nat} {hs : List Hr} {pts : List Pt} (v : VHl pts hs) (l8 : hs.length ≤ 8) (hb : S b = some (bxO x)) (ok : okB x n) (hn : n ≤ 1000) {σ : Sd} (s2 : σ[2]? = some (some (.ref b))) (s6 : σ[6]? = some (some (.dct (hsK hs)))) (sw2 : (wipeD σ [8, 9])[2]? = some (some (.ref b))) (swl : 9 < (wipeD σ [8, 9]).length) {R : QD} {E : XD}
    (r : ∀ (hd : List Hr) (x' : Bx), hd.map core_ = hs.map core_ → okB x' (n + 8) → R (.dct (hsK hd)) (put S b (bxO x'))) :
    dCB dDictOf (dCons (dLcD .items (dVar 6) (hTup 2 (hCons (hName 8) (hCons (hName 9) hNil))) dYes (dTup (dCons (dVar 8) (dCons (dIfE (dTest (dOp dEq (dCall sp__law_take [] (dCons (dVar 2) (dCons (dC (.int 2)) dNil))) (dC (.int 0)))) (dCB dTupOf (dCons (dVar 9) dNil)) (dVar 9)) dNil))) [8, 9]) dNil) σ S R E := by
  simp only [z_dCB, z_dCons, z_dNil, z_dLcD, z_dVar, s6]
  refine ⟨by rw [hs_len]; exact sz (by omega), ?_⟩
  have := hand_loop (S := S) (b := b) (σ := wipeD σ [8, 9]) (Q := fun acc S2 => dDictOf [.lst acc] S2 R) sw2 swl hs [] x n ok (by omega) v.l fun ts x' e ok' => by
    have nd : (ts.map (·.n)).Nodup := by rw [core_names e]; exact v.nd
    simp only [List.nil_append, z_dDictOf, dictV, vw_lst, pairs_it, Option.map_some]
    have em : mergeKD [] (hsK ts) = hsK ts := putAll_new (hsK ts) [] (by simpa using nd_hsK nd)
    rw [em]
    exact r ts x' e (ok'.up (by omega))
  rw [put_self hb] at this
  rw [items_hs]
  exact this
section
variable {S0 : Sto} {Z : EndsD}
theorem cell_ok {sc : List Int} {k : Int} {S : Sto} {o2 o3 o4 o5 o6 o7 o8 o9 o10 o11 o12 o13 o14 o15 o16 : Option D} (k0 : 0 ≤ k) (k1 : k ≤ 100) (sb : Sub S0 S)
    (h : ∀ S' o2 o3 o4 o5 o6 o7 o8 o9 o10 o11 o12 o13 o14 o15 o16, Sub S0 S' → Z.nx [some (.lst (sc.map D.int)), some (.int k), o2, o3, o4, o5, o6, o7, o8, o9, o10, o11, o12, o13, o14, o15, o16] S') :
    LB0 K Z [some (.lst (sc.map D.int)), some (.int k), o2, o3, o4, o5, o6, o7, o8, o9, o10, o11, o12, o13, o14, o15, o16] S := by
  simp only [LB0, u_b_law_0, z_dSeq, z_dAsg, z_dCall, z_dCons, z_dNil, z_dVar, List.getElem?_cons_succ, List.getElem?_cons_zero]
  refine ⟨sc, k, rfl, k0, k1, fun c => ⟨c, rfl, fun b x hb ok => ?_⟩⟩
  have hb0 := sub_new sb hb
  try simp only [z_hName, List.set_cons_succ, List.set_cons_zero, z_dOp, z_dC, z_dCall, z_dCons, z_dNil, z_dVar, List.getElem?_cons_succ, List.getElem?_cons_zero]
  refine ⟨b, x, 0, 8, rfl, put_same, ok, by omega, by decide, by decide, fun x1 d ok1 d0 d1 => ?_⟩
  rw [put_put]
  simp only [z_dAdd, vw_int]
  refine ⟨b, x1, 1, (1 + d).toNat, by rw [Int.toNat_of_nonneg (by omega)]; rfl, put_same, ok1, by omega, by omega, fun ns x2 hns ok2 => ?_⟩
  rw [put_put]
  refine ⟨b, x2, 11, ns, rfl, put_same, ok2, by omega, by rw [hns.len]; omega, fun pts x3 e1 e2 ok3 => ?_⟩
  rw [put_put]
  have vs := vpts_of hns e1 e2 (by omega) (by omega)
  try simp only [z_hName, List.set_cons_succ, List.set_cons_zero, z_dSeq, z_dPar, z_dCons, z_dNil, z_dFrzI, z_dMakeK, z_dVar, List.getElem?_cons_succ, List.getElem?_cons_zero]
  refine ⟨rfl, rfl, fun w hw => ?_⟩
  refine frz_works (pts := pts) (rls := []) hw (.inl rfl) (.inr rfl) vs (by simp) (fun _ m => by cases m) ?_
  refine (show ∀ R : QD, (∀ x4 tk, okB x4 29 → 3 ≤ tk → R (.int tk) (put S b (bxO x4))) → dOp dIx (dLst (dCons (dC (.int 9999)) (dCons (dC (.int 40)) (dCons (dC (.int 3)) dNil)))) (dCall sp__law_take [] (dCons (dVar 2) (dCons (dC (.int 3)) dNil))) _ (put S b (bxO x3)) R _ from fun R r => by
    simp [sz3]
    refine ⟨b, x3, 28, 3, rfl, put_same, ok3, by omega, by decide, by decide, fun x4 e ok4 f0 f1 => ?_⟩
    rw [put_put]
    obtain ⟨tk, et, t3⟩ := three_at f0 f1
    simp only [et]
    exact r x4 tk ok4 t3) _ fun x4 tk ok4 t3 => ?_
  try simp only [List.set_cons_succ, List.set_cons_zero, z_dSeq, z_dAsg, z_dCall, z_dCB, z_dMM, z_dCons, z_dNil, z_dVar, z_dC, List.getElem?_cons_succ, List.getElem?_cons_zero]
  refine ⟨b, x4, 29, pts, _, rfl, vs, put_same, ok4, by omega, by split <;> omega, by split <;> omega, fun hs x5 v l8 ok5 => ?_⟩
  rw [put_put]
  simp only [z_hName, List.set_cons_succ, List.set_cons_zero]
  rw [z_dSeq, z_dAsg]
  refine ev_hand v l8 put_same ok5 (by omega) rfl rfl rfl (by show (9 : Nat) < 17; decide) fun hd x6 e6 ok6 => ?_
  rw [put_put]
  have lh := core_len e6
  have vd := core_vhs e6 v.v
  obtain ⟨ps, tk_⟩ := tameK_hs vs vd
  have bl : (hsK hd).length * (50000 + 50) ≤ 1000000 := by rw [hs_len]; omega
  simp only [z_hName, List.set_cons_succ, List.set_cons_zero, z_dSeq, z_dAsg, z_dCB, z_dCons, z_dNil, z_dVar, List.getElem?_cons_succ, List.getElem?_cons_zero]
  refine reprL_of rfl tk_ (by decide) bl ?_
  simp only [z_hName, List.set_cons_succ, List.set_cons_zero, z_dSeq, z_dAsg, z_dLstM, z_dCons, z_dNil, z_dC]
  refine ⟨sz2, fun m hm => ?_⟩
  have mb : m ≠ b := fun z => by rw [z, put_same] at hm; cases hm
  have hm' : S m = none := by rw [put_ne mb] at hm; exact hm
  have st : St S0 (put (put S b (bxO x6)) m (.lst [.int 0, .int 9999])) b m x6 [0, 9999] := ⟨sub_at (sub_at sb hb0) (sub_new sb hm'), by rw [put_ne (Ne.symm mb)]; exact put_same, put_same, hb0, sub_new sb hm', mb⟩
  simp only [z_hName, List.set_cons_succ, List.set_cons_zero, z_dForD, z_dVar, List.getElem?_cons_succ, List.getElem?_cons_zero, vals_hs]
  refine times_loop hs st (fun h hh => ⟨v.l h hh, (by
    obtain ⟨_, _, a, _⟩ := v.v h hh
    exact a.hi)⟩) (by show 2 + 100 * hs.length ≤ 10000; omega) (by decide) fun S2 ts o9 o12 st2 h1 h2 => ?_
  simp only [z_dSeq, z_dFor, z_nRng1, z_dCons, z_dNil, z_dC]
  refine ⟨by decide, ?_⟩
  refine turns_ok (hs := hs) (hd := hd) vs v.v e6 (by omega) h1 h2 _ ok6 (by show 29 + 824 + 8 + 2 * 6 ≤ 20000; decide) st2 fun S3 x7 o13 o14 o15 o16 st3 => ?_
  simp only [z_dIf, z_dTest, z_dOp, z_dCB, z_dCons, z_dNil, z_dVar, List.getElem?_cons_succ, List.getElem?_cons_zero]
  refine reprL_of rfl tk_ (by decide) bl ?_
  simp only [z_eqS, decide_true, Bool.not_true, Bool.false_eq_true, if_false, z_dNext]
  exact h S3 _ _ _ _ _ _ _ _ _ _ _ _ _ _ _ st3.sb
theorem cells_loop {sc : List Int} : ∀ (ks : List D) {S : Sto} {o1 o2 o3 o4 o5 o6 o7 o8 o9 o10 o11 o12 o13 o14 o15 o16 : Option D}, (∀ k ∈ ks, ∃ i : Int, k = .int i ∧ 0 ≤ i ∧ i ≤ 100) → Sub S0 S →
    (∀ S' o1 o2 o3 o4 o5 o6 o7 o8 o9 o10 o11 o12 o13 o14 o15 o16, Sub S0 S' → Z.nx [some (.lst (sc.map D.int)), o1, o2, o3, o4, o5, o6, o7, o8, o9, o10, o11, o12, o13, o14, o15, o16] S') →
    dForL (LG0 K) (LB0 K) Z ks [some (.lst (sc.map D.int)), o1, o2, o3, o4, o5, o6, o7, o8, o9, o10, o11, o12, o13, o14, o15, o16] S
  | [], S, o1, o2, o3, o4, o5, o6, o7, o8, o9, o10, o11, o12, o13, o14, o15, o16, hk, sb, h => h S _ _ _ _ _ _ _ _ _ _ _ _ _ _ _ _ sb
  | k :: ks, S, o1, o2, o3, o4, o5, o6, o7, o8, o9, o10, o11, o12, o13, o14, o15, o16, hk, sb, h => by
    obtain ⟨i, rfl, i0, i1⟩ := hk k (List.mem_cons_self ..)
    rw [for_cons]
    simp only [LG0, u_g_law_0, z_hName, List.set_cons_succ, List.set_cons_zero]
    refine cell_ok i0 i1 sb fun S' a2 a3 a4 a5 a6 a7 a8 a9 a10 a11 a12 a13 a14 a15 a16 s' => ?_
    exact cells_loop ks (fun k hk' => hk k (List.mem_cons_of_mem _ hk')) s' h
end
theorem ok_law : BodyOk (d_law K sp__law_box sp__law_cell sp__law_points sp__law_names sp__law_take sp__law_histories (sp_picture_at K) sp__law_picture_at (sp_init K)) ["script", "k", "box", "points", "works", "ticks", "histories", "handed", "name", "row", "kept", "times", "sign", "turn", "time", "lap", "found"] (spdLaw 63) := by
  rintro _ S Q E ⟨sc, rfl, hl, h⟩
  have key : ∀ m : Int, m ≤ 6 → dForL (LG0 K) (LB0 K) { nx := dRet (dC (.bl true)) { nx := fun _ S' => fin Q .non S', rt := fin Q, ex := fun _ => finX E }, rt := fin Q, ex := fun _ => finX E } (rangeD 0 m.toNat) [some (.lst (sc.map D.int)), none, none, none, none, none, none, none, none, none, none, none, none, none, none, none, none] S := by
    intro m hm
    refine cells_loop (S0 := S) (sc := sc) (rangeD 0 m.toNat) (fun k hk => ?_) (Sub.refl S) fun S' a1 a2 a3 a4 a5 a6 a7 a8 a9 a10 a11 a12 a13 a14 a15 a16 s' => ?_
    · rw [rangeD_map] at hk
      obtain ⟨i, hi, rfl⟩ := List.mem_map.mp hk
      have := List.mem_range.mp hi
      exact ⟨_, rfl, by omega, by omega⟩
    · simp only [z_dRet, z_dC]
      exact ⟨S, s', h⟩
  simp only [d_law, startD, List.map_cons, List.map_nil, List.length_cons, List.length_nil, List.replicate, List.cons_append, List.nil_append, z_dSeq, z_dFor, z_nRng1, z_dCB, z_dCons, z_dNil, z_dVar, z_dC, List.getElem?_cons_zero, z_dLen, vw_lst, z_dMM]
  refine ⟨?_, key _ ?_⟩
  · rw [List.length_map]
    split <;> split <;> omega
  · rw [List.length_map]
    split <;> split <;> omega
end K48

namespace K48
open PySem PySem.Spec PyProof.Rows L2 VL
variable {K : PySem.W.Frag} {mg : Str → Option Value} {h : Heap}
/-- all together -/
theorem joined {P : Program} {w : World} {fa : Addr} (X : K.In h) (G : h.Ns mainGlobals mg) (hfa : mg "law" = some (.ref fa)) (c : SaysV fn ex K) : ∃ fd : FuncData, (∀ (s : Shared) (u : Value), BindsTo s fd ⟨[u], []⟩ [("script", u)]) ∧ ∀ base : Heap, K.In base → base.Ns mainGlobals mg → FnG P w K mg base 8 fa fd ["script"] (lift K (spdLaw 63)) := by
  have cm := c.more
  have T := txt_ok X G cm
  obtain ⟨fd_Works_has_point, F_Works_has_point⟩ := c.fund 0 (d := df0) rfl
  obtain ⟨fd_Works_places, F_Works_places⟩ := c.fund 1 (d := df1) rfl
  obtain ⟨fd_Works_points, F_Works_points⟩ := c.fund 2 (d := df2) rfl
  obtain ⟨fd__law_box, F__law_box⟩ := c.fund 3 (d := df3) rfl
  obtain ⟨fd__law_cell, F__law_cell⟩ := c.fund 4 (d := df4) rfl
  obtain ⟨fd__law_picture_at, F__law_picture_at⟩ := c.fund 5 (d := df5) rfl
  obtain ⟨fd__law_take, F__law_take⟩ := c.fund 6 (d := df6) rfl
  obtain ⟨fd_is_mark, F_is_mark⟩ := c.fund 7 (d := df7) rfl
  obtain ⟨fd_is_name, F_is_name⟩ := c.fund 8 (d := df8) rfl
  obtain ⟨fd_is_whole, F_is_whole⟩ := c.fund 9 (d := df9) rfl
  obtain ⟨fd_is_word, F_is_word⟩ := c.fund 10 (d := df10) rfl
  obtain ⟨fd_names_of, F_names_of⟩ := c.fund 11 (d := df11) rfl
  obtain ⟨fd_need_works, F_need_works⟩ := c.fund 12 (d := df12) rfl
  obtain ⟨fd_worth_at, F_worth_at⟩ := c.fund 13 (d := df13) rfl
  obtain ⟨fd_Works_point, F_Works_point⟩ := c.fund 14 (d := df14) rfl
  obtain ⟨fd__law_history, F__law_history⟩ := c.fund 15 (d := df15) rfl
  obtain ⟨fd__law_mixed, F__law_mixed⟩ := c.fund 16 (d := df16) rfl
  obtain ⟨fd__law_names, F__law_names⟩ := c.fund 17 (d := df17) rfl
  obtain ⟨fd__law_points, F__law_points⟩ := c.fund 18 (d := df18) rfl
  obtain ⟨fd_is_cause, F_is_cause⟩ := c.fund 19 (d := df19) rfl
  obtain ⟨fd_is_lock, F_is_lock⟩ := c.fund 20 (d := df20) rfl
  obtain ⟨fd_is_point, F_is_point⟩ := c.fund 21 (d := df21) rfl
  obtain ⟨fd_is_relation, F_is_relation⟩ := c.fund 22 (d := df22) rfl
  obtain ⟨fd_is_rule, F_is_rule⟩ := c.fund 23 (d := df23) rfl
  obtain ⟨fd_is_time, F_is_time⟩ := c.fund 24 (d := df24) rfl
  obtain ⟨fd_Works_is_worth, F_Works_is_worth⟩ := c.fund 25 (d := df25) rfl
  obtain ⟨fd__law_histories, F__law_histories⟩ := c.fund 26 (d := df26) rfl
  obtain ⟨fd_is_command, F_is_command⟩ := c.fund 27 (d := df27) rfl
  obtain ⟨fd_is_sign, F_is_sign⟩ := c.fund 28 (d := df28) rfl
  obtain ⟨fd_need_time, F_need_time⟩ := c.fund 29 (d := df29) rfl
  obtain ⟨fd_are_such, F_are_such⟩ := c.fund 30 (d := df30) rfl
  obtain ⟨fd_need_history, F_need_history⟩ := c.fund 31 (d := df31) rfl
  obtain ⟨fd_Works_take_causes, F_Works_take_causes⟩ := c.fund 32 (d := df32) rfl
  obtain ⟨fd_Works_take_commands, F_Works_take_commands⟩ := c.fund 33 (d := df33) rfl
  obtain ⟨fd_Works_take_points, F_Works_take_points⟩ := c.fund 34 (d := df34) rfl
  obtain ⟨fd_Works_take_relations, F_Works_take_relations⟩ := c.fund 35 (d := df35) rfl
  obtain ⟨fd_Works_take_rules, F_Works_take_rules⟩ := c.fund 36 (d := df36) rfl
  obtain ⟨fd_need_histories, F_need_histories⟩ := c.fund 37 (d := df37) rfl
  obtain ⟨fd_Works___init__, F_Works___init__⟩ := c.fund 38 (d := df38) rfl
  obtain ⟨fd_picture_at, F_picture_at⟩ := c.fund 39 (d := df39) rfl
  obtain ⟨fd_law, F_law⟩ := c.fund 40 (d := df40) rfl
  have e := hfa.symm.trans (He.glo_ok X G (ex_at cm 40))
  cases e
  refine ⟨fd_law, fun s u => FunD.bindsA (ps := ["script"]) F_law (fun _ _ _ _ _ _ us hl => match us, hl with | [_], _ => rfl) s [u] rfl, fun base _ _ => ?_⟩
  have R_Works_has_point := rdym_of (g_Works_has_point (k := 0) (P := P) (w := w) (mg := mg) (base := base) (s_ := (sp_has_point K)) T F_Works_has_point  (fun _ _ _ _ ⟨_, _, _, _, e, _⟩ => by rw [e]; rfl) ok_has_point) (He.meth_ok (ex_at cm 0)) (b_Works_has_point F_Works_has_point)
  have R_Works_places := rdym_of (g_Works_places (k := 0) (P := P) (w := w) (mg := mg) (base := base) (s_ := (sp_places K)) T F_Works_places  (fun _ _ _ _ ⟨_, _, _, e, _⟩ => by rw [e]; rfl) ok_places) (He.meth_ok (ex_at cm 1)) (b_Works_places F_Works_places)
  have R_Works_points := rdym_of (g_Works_points (k := 0) (P := P) (w := w) (mg := mg) (base := base) (s_ := (sp_points K)) T F_Works_points  (fun _ _ _ _ ⟨_, _, _, e, _⟩ => by rw [e]; rfl) ok_points) (He.meth_ok (ex_at cm 2)) (b_Works_points F_Works_points)
  have R__law_box := r__law_box (k := 0) (P := P) (w := w) (base := base) (s_ := sp__law_box) T (He.glo_ok X G (ex_at cm 3)) F__law_box  (fun _ _ _ _ ⟨_, e, _⟩ => by rw [e]; rfl) ok__law_box
  have R__law_cell := r__law_cell (k := 0) (P := P) (w := w) (base := base) (s_ := sp__law_cell) T (He.glo_ok X G (ex_at cm 4)) F__law_cell  (fun _ _ _ _ ⟨_, _, e, _⟩ => by rw [e]; rfl) ok__law_cell
  have R__law_picture_at := r__law_picture_at (k := 0) (P := P) (w := w) (base := base) (s_ := sp__law_picture_at) T (He.glo_ok X G (ex_at cm 5)) F__law_picture_at  (fun _ _ _ _ ⟨_, _, _, e, _⟩ => by rw [e]; rfl) ok__law_picture_at
  have R__law_take := r__law_take (k := 0) (P := P) (w := w) (base := base) (s_ := sp__law_take) T (He.glo_ok X G (ex_at cm 6)) F__law_take  (fun _ _ _ _ ⟨_, _, _, _, e, _⟩ => by rw [e]; rfl) ok__law_take
  have R_is_mark := r_is_mark (k := 0) (P := P) (w := w) (base := base) (s_ := sp_is_mark) T (He.glo_ok X G (ex_at cm 7)) F_is_mark  (fun _ _ _ _ ⟨_, e, _⟩ => by rw [e]; rfl) ok_is_mark
  have R_is_name := r_is_name (k := 0) (P := P) (w := w) (base := base) (s_ := sp_is_name) T (He.glo_ok X G (ex_at cm 8)) F_is_name  (fun _ _ _ _ ⟨_, e, _⟩ => by rw [e]; rfl) ok_is_name
  have R_is_whole := r_is_whole (k := 0) (P := P) (w := w) (base := base) (s_ := sp_is_whole) T (He.glo_ok X G (ex_at cm 9)) F_is_whole  (fun _ _ _ _ ⟨_, _, _, e, _⟩ => by rw [e]; rfl) ok_is_whole
  have R_is_word := r_is_word (k := 0) (P := P) (w := w) (base := base) (s_ := sp_is_word) T (He.glo_ok X G (ex_at cm 10)) F_is_word  (fun _ _ _ _ ⟨_, _, e, _⟩ => by rw [e]; rfl) ok_is_word
  have R_names_of := r_names_of (k := 0) (P := P) (w := w) (base := base) (s_ := sp_names_of) T (He.glo_ok X G (ex_at cm 11)) F_names_of  (fun _ _ _ _ ⟨_, e, _⟩ => by rw [e]; rfl) ok_names_of
  have R_need_works := r_need_works (k := 0) (P := P) (w := w) (base := base) (s_ := (sp_need_works K)) T (He.glo_ok X G (ex_at cm 12)) F_need_works  (fun _ _ _ _ ⟨_, _, _, e, _⟩ => by rw [e]; rfl) ok_need_works
  have R_worth_at := r_worth_at (k := 0) (P := P) (w := w) (base := base) (s_ := sp_worth_at) T (He.glo_ok X G (ex_at cm 13)) F_worth_at  (fun _ _ _ _ ⟨_, _, _, e, _⟩ => by rw [e]; rfl) ok_worth_at
  have R_Works_point := rdym_of (g_Works_point (k := 1) (P := P) (w := w) (mg := mg) (base := base) (s_ := (sp_point K)) T F_Works_point (R_Works_has_point.mono (by decide)) (fun _ _ _ _ ⟨_, _, _, _, _, e, _⟩ => by rw [e]; rfl) ok_point) (He.meth_ok (ex_at cm 14)) (b_Works_point F_Works_point)
  have R__law_history := r__law_history (k := 1) (P := P) (w := w) (base := base) (s_ := sp__law_history) T (He.glo_ok X G (ex_at cm 15)) F__law_history (R__law_take.mono (by decide)) (fun _ _ _ _ ⟨_, _, _, _, _, e, _⟩ => by rw [e]; rfl) ok__law_history
  have R__law_mixed := r__law_mixed (k := 1) (P := P) (w := w) (base := base) (s_ := sp__law_mixed) T (He.glo_ok X G (ex_at cm 16)) F__law_mixed (R__law_take.mono (by decide)) (fun _ _ _ _ ⟨_, _, _, _, e, _⟩ => by rw [e]; rfl) ok__law_mixed
  have R__law_names := r__law_names (k := 1) (P := P) (w := w) (base := base) (s_ := sp__law_names) T (He.glo_ok X G (ex_at cm 17)) F__law_names (R__law_take.mono (by decide)) (fun _ _ _ _ ⟨_, _, _, _, e, _⟩ => by rw [e]; rfl) ok__law_names
  have R__law_points := r__law_points (k := 1) (P := P) (w := w) (base := base) (s_ := sp__law_points) T (He.glo_ok X G (ex_at cm 18)) F__law_points (R__law_take.mono (by decide)) (fun _ _ _ _ ⟨_, _, _, _, e, _⟩ => by rw [e]; rfl) ok__law_points
  have R_is_cause := r_is_cause (k := 1) (P := P) (w := w) (base := base) (s_ := spNo) T (He.glo_ok X G (ex_at cm 19)) F_is_cause (R_is_whole.mono (by decide)) (R_is_name.mono (by decide)) (fun _ _ _ _ h => h.elim) ok_no
  have R_is_lock := r_is_lock (k := 1) (P := P) (w := w) (base := base) (s_ := spNo) T (He.glo_ok X G (ex_at cm 20)) F_is_lock (R_is_whole.mono (by decide)) (R_is_word.mono (by decide)) (R_is_name.mono (by decide)) (fun _ _ _ _ h => h.elim) ok_no
  have R_is_point := r_is_point (k := 1) (P := P) (w := w) (base := base) (s_ := sp_is_point) T (He.glo_ok X G (ex_at cm 21)) F_is_point (R_is_word.mono (by decide)) (R_is_name.mono (by decide)) (fun _ _ _ _ ⟨_, e, _⟩ => by rw [e]; rfl) ok_is_point
  have R_is_relation := r_is_relation (k := 1) (P := P) (w := w) (base := base) (s_ := sp_is_relation) T (He.glo_ok X G (ex_at cm 22)) F_is_relation (R_is_name.mono (by decide)) (R_is_word.mono (by decide)) (fun _ _ _ _ ⟨_, e, _⟩ => by rw [e]; rfl) ok_is_relation
  have R_is_rule := r_is_rule (k := 1) (P := P) (w := w) (base := base) (s_ := spNo) T (He.glo_ok X G (ex_at cm 23)) F_is_rule (R_is_word.mono (by decide)) (R_is_name.mono (by decide)) (R_is_whole.mono (by decide)) (fun _ _ _ _ h => h.elim) ok_no
  have R_is_time := r_is_time (k := 1) (P := P) (w := w) (base := base) (s_ := sp_is_time) T (He.glo_ok X G (ex_at cm 24)) F_is_time (R_is_whole.mono (by decide)) (fun _ _ _ _ ⟨_, e, _⟩ => by rw [e]; rfl) ok_is_time
  have R_Works_is_worth := rdym_of (g_Works_is_worth (k := 2) (P := P) (w := w) (mg := mg) (base := base) (s_ := (sp_is_worth K)) T F_Works_is_worth (R_is_whole.mono (by decide)) (R_Works_point.mono (by decide)) (fun _ _ _ _ ⟨_, _, _, _, _, _, e, _⟩ => by rw [e]; rfl) ok_is_worth) (He.meth_ok (ex_at cm 25)) (b_Works_is_worth F_Works_is_worth)
  have R__law_histories := r__law_histories (k := 2) (P := P) (w := w) (base := base) (s_ := sp__law_histories) T (He.glo_ok X G (ex_at cm 26)) F__law_histories (R__law_mixed.mono (by decide)) (R__law_take.mono (by decide)) (R__law_history.mono (by decide)) (fun _ _ _ _ ⟨_, _, _, _, _, e, _⟩ => by rw [e]; rfl) ok__law_histories
  have R_is_command := r_is_command (k := 2) (P := P) (w := w) (base := base) (s_ := spNo) T (He.glo_ok X G (ex_at cm 27)) F_is_command (R_is_whole.mono (by decide)) (R_is_name.mono (by decide)) (R_is_lock.mono (by decide)) (fun _ _ _ _ h => h.elim) ok_no
  have R_is_sign := r_is_sign (k := 2) (P := P) (w := w) (base := base) (s_ := sp_is_sign) T (He.glo_ok X G (ex_at cm 28)) F_is_sign (R_is_mark.mono (by decide)) (R_is_whole.mono (by decide)) (R_is_time.mono (by decide)) (fun _ _ _ _ ⟨_, e, _⟩ => by rw [e]; rfl) ok_is_sign
  have R_need_time := r_need_time (k := 2) (P := P) (w := w) (base := base) (s_ := sp_need_time) T (He.glo_ok X G (ex_at cm 29)) F_need_time (R_is_time.mono (by decide)) (fun _ _ _ _ ⟨_, e, _⟩ => by rw [e]; rfl) ok_need_time
  have R_are_such := r_are_such (k := 3) (P := P) (w := w) (base := base) (s_ := (sp_are_such K)) T (He.glo_ok X G (ex_at cm 30)) F_are_such (vb_are_such_fits (k := 3) T (R_is_point.mono (by decide)) (R_is_rule.mono (by decide)) (R_is_cause.mono (by decide)) (R_is_command.mono (by decide)) (R_is_relation.mono (by decide))) (fun _ _ _ _ ⟨_, _, _, _, _, _, e, _⟩ => by rw [e]; rfl) ok_are_such
  have R_need_history := r_need_history (k := 3) (P := P) (w := w) (base := base) (s_ := sp_need_history) T (He.glo_ok X G (ex_at cm 31)) F_need_history (R_is_sign.mono (by decide)) (fun _ _ _ _ ⟨_, _, e, _⟩ => by rw [e]; rfl) ok_need_history
  have R_Works_take_causes := rdym_of (g_Works_take_causes (k := 4) (P := P) (w := w) (mg := mg) (base := base) (s_ := (sp_take_causes K)) T F_Works_take_causes (R_are_such.mono (by decide)) (fun _ _ _ _ ⟨_, _, _, _, _, _, e, _⟩ => by rw [e]; rfl) ok_take_causes) (He.meth_ok (ex_at cm 32)) (b_Works_take_causes F_Works_take_causes)
  have R_Works_take_commands := rdym_of (g_Works_take_commands (k := 4) (P := P) (w := w) (mg := mg) (base := base) (s_ := (sp_take_rules K)) T F_Works_take_commands (R_are_such.mono (by decide)) (fun _ _ _ _ ⟨_, e, _⟩ => by rw [e]; rfl) ok_take_commands) (He.meth_ok (ex_at cm 33)) (b_Works_take_commands F_Works_take_commands)
  have R_Works_take_points := rdym_of (g_Works_take_points (k := 4) (P := P) (w := w) (mg := mg) (base := base) (s_ := (sp_take_points K)) T F_Works_take_points (R_are_such.mono (by decide)) (R_Works_places.mono (by decide)) (fun _ _ _ _ ⟨_, _, _, _, _, _, _, _, _, e, _⟩ => by rw [e]; rfl) ok_take_points) (He.meth_ok (ex_at cm 34)) (b_Works_take_points F_Works_take_points)
  have R_Works_take_relations := rdym_of (g_Works_take_relations (k := 4) (P := P) (w := w) (mg := mg) (base := base) (s_ := (sp_take_relations K)) T F_Works_take_relations (R_are_such.mono (by decide)) (R_names_of.mono (by decide)) (R_Works_point.mono (by decide)) (fun _ _ _ _ ⟨_, _, _, _, _, _, _, _, _, e, _⟩ => by rw [e]; rfl) ok_take_relations) (He.meth_ok (ex_at cm 35)) (b_Works_take_relations F_Works_take_relations)
  have R_Works_take_rules := rdym_of (g_Works_take_rules (k := 4) (P := P) (w := w) (mg := mg) (base := base) (s_ := (sp_take_rules K)) T F_Works_take_rules (R_are_such.mono (by decide)) (fun _ _ _ _ ⟨_, e, _⟩ => by rw [e]; rfl) ok_take_rules) (He.meth_ok (ex_at cm 36)) (b_Works_take_rules F_Works_take_rules)
  have R_need_histories := r_need_histories (k := 4) (P := P) (w := w) (base := base) (s_ := (sp_need_histories K)) T (He.glo_ok X G (ex_at cm 37)) F_need_histories (R_need_works.mono (by decide)) (R_need_history.mono (by decide)) (R_Works_has_point.mono (by decide)) (R_Works_is_worth.mono (by decide)) (fun _ _ _ _ ⟨_, _, _, _, e, _⟩ => by rw [e]; rfl) ok_need_histories
  have M_Works_0 := rck_Works_0 F_Works___init__ (g_Works___init__ (k := 5) (P := P) (w := w) (mg := mg) (base := base) (s_ := (sp_init K)) T F_Works___init__ (R_Works_take_points.mono (by decide)) (R_Works_take_rules.mono (by decide)) (R_Works_take_causes.mono (by decide)) (R_Works_take_commands.mono (by decide)) (R_Works_take_relations.mono (by decide)) (fun _ _ _ _ ⟨_, _, _, _, _, e, _⟩ => by rw [e]; rfl) ok_init) (He.mkr_ok (ex_at cm 38)) (He.glo_ok X G (ex_at cm 42)) (fun M => (.cons (tup0_ok (ex_at cm 49) M) (.cons (tup0_ok (ex_at cm 50) M) (.cons (tup0_ok (ex_at cm 51) M) (.cons (tup0_ok (ex_at cm 52) M) .nil)))))
  have R_picture_at := r_picture_at (k := 5) (P := P) (w := w) (base := base) (s_ := (sp_picture_at K)) T (He.glo_ok X G (ex_at cm 39)) F_picture_at (R_need_histories.mono (by decide)) (R_need_time.mono (by decide)) (R_worth_at.mono (by decide)) (R_Works_points.mono (by decide)) (fun _ _ _ _ ⟨_, _, _, _, _, e, _⟩ => by rw [e]; rfl) ok_picture_at
  exact g_law (k := 6) T F_law (R__law_box.mono (by decide)) (R__law_cell.mono (by decide)) (R__law_points.mono (by decide)) (R__law_names.mono (by decide)) (R__law_take.mono (by decide)) (R__law_histories.mono (by decide)) (R_picture_at.mono (by decide)) (R__law_picture_at.mono (by decide)) (M_Works_0.mono (by decide)) (fun _ _ _ _ ⟨_, e, _⟩ => by rw [e]; rfl) ok_law
end K48
open PySem PySem.W PySem.Calls PyProof.Rows
theorem PySem.Challenge.cw_panelwatch_k48_pictures_by_histories_holds : PySem.Challenge.rw_panelwatch_k48_pictures_by_histories.Holds := by
  w_on; o_law
  refine HandSHeadRun.head_any (r := OpenLaw.row PySem.Challenge.rw_panelwatch_k48_pictures_by_histories) (q := view (OpenLaw.row PySem.Challenge.rw_panelwatch_k48_pictures_by_histories).prog [74]) (H := K48.hk) (ob := K48.ob) (M := 12000) (loose := K48.loose) (d := HandSHeadRun.topDef (OpenLaw.row PySem.Challenge.rw_panelwatch_k48_pictures_by_histories).prog 74) (kwd := []) K48.ob_eq
    (by kernel_rfl) (fun s => by kernel_rfl) K48.run (by kernel_rfl) (by kernel_rfl) (by kernel_rfl) (by rfl) (by first | assumption | decide +kernel) (by decide +kernel) ⟨rfl, rfl, rfl, rfl, rfl, by decide +kernel⟩ ?hw ?hc
  case hw => w_witness2
  case hc =>
    refine VL.walkE (l := PySem.Challenge.rw_panelwatch_k48_pictures_by_histories) (n := 63) (k := 8) (x := "script") rfl (by decide) (by kernel_rfl) ⟨rfl, by decide, by decide⟩ ?F
    intro w mg fa h Y G hmg0
    obtain ⟨K, KX, c⟩ := Y
    have hmg : mg ("law" : PySem.Str) = some (.ref fa) := by
      have e : (HandSHeadRun.topDef (OpenLaw.row PySem.Challenge.rw_panelwatch_k48_pictures_by_histories).prog 74).name = ("law" : PySem.Str) := by kernel_rfl
      rw [← e]; exact hmg0
    obtain ⟨fd, hb, hF⟩ := K48.joined (P := (PySem.Challenge.rw_panelwatch_k48_pictures_by_histories).prog) (w := w) KX G hmg c
    exact ⟨K, fd, KX, hb, hF⟩

