import PyProof.Rows.All
import Wide.All
import OpenK.AllK
import Wide.FinOn
import PySem.Challenge.RW_on0170_01
set_option Elab.async false
set_option maxHeartbeats 2000000
local macro_rules | `(tactic| omega) => `(tactic| first | with_reducible assumption | ((with_reducible refine Nat.le_trans (by assumption) ?_); exact of_decide_eq_true rfl) | ((with_reducible refine Nat.lt_of_le_of_lt (by assumption) ?_); exact of_decide_eq_true rfl) | ((with_reducible refine Nat.lt_of_lt_of_le (by assumption) ?_); exact of_decide_eq_true rfl) | lia | omega +splitDisjunctions)
section A1
open PySem PySem.W PySem.Calls PyProof.Rows
set_option maxRecDepth 10000
set_option linter.unusedVariables false
namespace Mine

inductive PV where
  | k (v : Value)
  | int (i : Int)
  | str (s : PySem.Str)
  | tup (l : List PV)

noncomputable def Kp (h' : Heap) (b : Addr) (o : Obj) : Prop :=
  h'.get? b = some o ∨ ((∃ es n, o.data = .dict es n) ∧ ∃ sl, h'.get? b = some { o with slots := sl })
noncomputable def IsD (o : Obj) : Prop := ∃ es n, o.data = .dict es n
noncomputable def IsT (o : Obj) : Prop := o.cls = .type "tuple" ∧ ∃ vs n, o.data = .seq vs n

theorem none_of_le {h : Heap} {a : Addr} (e : h.objs.size ≤ a) : h.get? a = none := by
  cases q : h.get? a with
  | none => rfl
  | some o => exact absurd (Heap.lt_size q) (Nat.not_lt.mpr e)

structure Mv (S : Addr → Prop) (h h' : Heap) : Prop where
  keep : ∀ b o, h.get? b = some o → ¬ S b → Kp h' b o
  nf : ∀ b o, h.get? b = some o → IsD o → ∃ o', h'.get? b = some o' ∧ IsD o'
  tup : ∀ b o, h.get? b = some o → IsT o → h'.get? b = some o
  size : h.objs.size ≤ h'.objs.size

structure Mk (S : Addr → Prop) (h h' : Heap) : Prop where
  keep : ∀ b o, h.get? b = some o → ¬ S b → Kp h' b o
  tup : ∀ b o, h.get? b = some o → IsT o → h'.get? b = some o
theorem Mv.toMk {S : Addr → Prop} {h h' : Heap} (x : Mv S h h') : Mk S h h' := ⟨x.keep, x.tup⟩

theorem Mv.refl (S : Addr → Prop) (h : Heap) : Mv S h h := ⟨fun _ _ e _ => .inl e, fun _ o e n => ⟨o, e, n⟩, fun _ _ e _ => e, Nat.le_refl _⟩

theorem Mv.trans {S S' : Addr → Prop} {h h1 h2 : Heap} (x : Mv S h h1) (y : Mv S' h1 h2) (hs : ∀ a, S' a → S a ∨ h.objs.size ≤ a) : Mv S h h2 := by
  refine ⟨fun b o e n => ?_, fun b o e n => ?_, fun b o e t => y.tup b o (x.tup b o e t) t, Nat.le_trans x.size y.size⟩
  · have n' : ¬ S' b := fun q => by
      rcases hs b q with q | q
      · exact n q
      · exact absurd (Heap.lt_size e) (Nat.not_lt.mpr q)
    rcases x.keep b o e n with e1 | ⟨c, sl, e1⟩
    · exact y.keep b o e1 n'
    · rcases y.keep b _ e1 n' with e2 | ⟨_, sl', e2⟩
      · exact .inr ⟨c, sl, e2⟩
      · exact .inr ⟨c, sl', e2⟩
  · obtain ⟨o1, e1, n1⟩ := x.nf b o e n
    exact y.nf b o1 e1 n1

theorem Mv.mono {S S' : Addr → Prop} {h h' : Heap} (x : Mv S h h') (hs : ∀ a, S a → S' a) : Mv S' h h' :=
  ⟨fun b o e n => x.keep b o e fun q => n (hs b q), x.nf, x.tup, x.size⟩

theorem Mv.of_keeps {S : Addr → Prop} {h h' : Heap} (k : ∀ b o, h.get? b = some o → h'.get? b = some o) (z : h.objs.size ≤ h'.objs.size) : Mv S h h' :=
  ⟨fun b o e _ => .inl (k b o e), fun b o e n => ⟨o, k b o e, n⟩, fun b o e _ => k b o e, z⟩

theorem push_le (h : Heap) (o : Obj) : h.objs.size ≤ (h.push o).objs.size := by show _ ≤ (h.objs.push _).size; rw [Array.size_push]; exact Nat.le_succ _

theorem Mv.push (S : Addr → Prop) (h : Heap) (o : Obj) : Mv S h (h.push o) := .of_keeps (fun _ _ e => Heap.get?_push_of_some o e) (by show _ ≤ (h.objs.push _).size; rw [Array.size_push]; exact Nat.le_succ _)

mutual
inductive VR (h : Heap) : PV → Value → Prop
  | k (v : Value) : VR h (.k v) v
  | int (i : Int) (t : Tok) : VR h (.int i) (.int i t)
  | str (s : PySem.Str) (t : Tok) : VR h (.str s) (.str s t)
  | tup {a : Addr} {o : Obj} {vs : List Value} {n : Nat} {l : List PV} : h.get? a = some o → o.cls = .type "tuple" → o.dict = none → o.data = .seq vs.toArray n → VRs h l vs → VR h (.tup l) (.ref a)
inductive VRs (h : Heap) : List PV → List Value → Prop
  | nil : VRs h [] []
  | cons {p : PV} {v : Value} {ps : List PV} {vs : List Value} : VR h p v → VRs h ps vs → VRs h (p :: ps) (v :: vs)
end

mutual
theorem VR.mk {S : Addr → Prop} {h h' : Heap} (x : Mk S h h') : ∀ {p : PV} {v : Value}, VR h p v → VR h' p v
  | _, _, .k v => .k v
  | _, _, .int i t => .int i t
  | _, _, .str s t => .str s t
  | _, _, .tup e c d q r => .tup (x.tup _ _ e ⟨c, _, _, q⟩) c d q (VRs.mk x r)
theorem VRs.mk {S : Addr → Prop} {h h' : Heap} (x : Mk S h h') : ∀ {ps : List PV} {vs : List Value}, VRs h ps vs → VRs h' ps vs
  | _, _, .nil => .nil
  | _, _, .cons a r => .cons (VR.mk x a) (VRs.mk x r)
end
theorem VR.mv {S : Addr → Prop} {h h' : Heap} (x : Mv S h h') {p : PV} {v : Value} (r : VR h p v) : VR h' p v := r.mk x.toMk
theorem VRs.mv {S : Addr → Prop} {h h' : Heap} (x : Mv S h h') {p : List PV} {v : List Value} (r : VRs h p v) : VRs h' p v := r.mk x.toMk

theorem VRs.length {h : Heap} : ∀ {ps : List PV} {vs : List Value}, VRs h ps vs → vs.length = ps.length
  | _, _, .nil => rfl
  | _, _, .cons _ r => by rw [List.length_cons, List.length_cons, VRs.length r]

theorem VRs.get {h : Heap} : ∀ {ps : List PV} {vs : List Value} {i : Nat} {p : PV}, VRs h ps vs → ps[i]? = some p → ∃ v, vs[i]? = some v ∧ VR h p v
  | _, _, 0, _, .cons a _, e => by cases e; exact ⟨_, rfl, a⟩
  | _, _, _ + 1, _, .cons _ r, e => by
    rw [List.getElem?_cons_succ] at e ⊢
    exact VRs.get r e

theorem VRs.append {h : Heap} : ∀ {ps qs : List PV} {vs us : List Value}, VRs h ps vs → VRs h qs us → VRs h (ps ++ qs) (vs ++ us)
  | _, _, _, _, .nil, y => y
  | _, _, _, _, .cons a r, y => .cons a (r.append y)

theorem VRs.snoc {h : Heap} {ps : List PV} {vs : List Value} {p : PV} {v : Value} (x : VRs h ps vs) (y : VR h p v) : VRs h (ps ++ [p]) (vs ++ [v]) := x.append (.cons y .nil)

theorem VRs.set {h : Heap} : ∀ {ps : List PV} {vs : List Value} {i : Nat} {p : PV} {v : Value}, VRs h ps vs → VR h p v → VRs h (ps.set i p) (vs.set i v)
  | _, _, _, _, _, .nil, _ => .nil
  | _, _, 0, _, _, .cons _ r, y => .cons y r
  | _, _, i + 1, _, _, .cons a r, y => .cons a (r.set y)

theorem VRs.take {h : Heap} : ∀ {ps : List PV} {vs : List Value} (n : Nat), VRs h ps vs → VRs h (ps.take n) (vs.take n)
  | _, _, 0, _ => by simp only [List.take_zero]; exact .nil
  | _, _, _ + 1, .nil => .nil
  | _, _, n + 1, .cons a r => .cons a (r.take n)
theorem VRs.drop {h : Heap} : ∀ {ps : List PV} {vs : List Value} (n : Nat), VRs h ps vs → VRs h (ps.drop n) (vs.drop n)
  | _, _, 0, x => x
  | _, _, _ + 1, .nil => .nil
  | _, _, n + 1, .cons _ r => r.drop n

theorem VR.k_inv {h : Heap} {v u : Value} (x : VR h (.k v) u) : v = u := by cases x; rfl
theorem VR.int_inv {h : Heap} {i : Int} {u : Value} (x : VR h (.int i) u) : ∃ t, Value.int i t = u := by cases x; exact ⟨_, rfl⟩
theorem VR.str_inv {h : Heap} {i : PySem.Str} {u : Value} (x : VR h (.str i) u) : ∃ t, Value.str i t = u := by cases x; exact ⟨_, rfl⟩
theorem VRs.nil_inv {h : Heap} {u : List Value} (x : VRs h [] u) : [] = u := by cases x; rfl

inductive FsR (h : Heap) : List (PySem.Str × PV) → List DictEntry → Prop
  | nil : FsR h [] []
  | cons {x : PySem.Str} {p : PV} {fs : List (PySem.Str × PV)} {hs : Int} {t : Tok} {v : Value} {es : List DictEntry} : VR h p v → FsR h fs es → FsR h ((x, p) :: fs) (⟨hs, .str x t, v⟩ :: es)

theorem FsR.mk {S : Addr → Prop} {h h' : Heap} (x : Mk S h h') : ∀ {fs : List (PySem.Str × PV)} {es : List DictEntry}, FsR h fs es → FsR h' fs es
  | _, _, .nil => .nil
  | _, _, .cons a r => .cons (a.mk x) (r.mk x)
theorem FsR.mv {S : Addr → Prop} {h h' : Heap} (x : Mv S h h') {fs : List (PySem.Str × PV)} {es : List DictEntry} (r : FsR h fs es) : FsR h' fs es := r.mk x.toMk
theorem FsR.length {h : Heap} : ∀ {fs : List (PySem.Str × PV)} {es : List DictEntry}, FsR h fs es → es.length = fs.length
  | _, _, .nil => rfl
  | _, _, .cons _ r => by rw [List.length_cons, List.length_cons, r.length]

noncomputable abbrev dctOf (es : List DictEntry) (n : Nat) (sl : Array (Option Value)) : Obj := { cls := .type "dict", data := .dict es.toArray n, slots := sl }
inductive AO where
  | list (l : List PV)
  | inst (C dx : Addr) (fs : List (PySem.Str × PV))
  | exc (fresh : Bool) (C dx : Addr) (fs : List (PySem.Str × PV))
  | exc0 (C : Addr)
  | cell (v : Option PV)
  | lam (fd : FuncData)
  | range (n : Int)
  | code (q : PySem.Str)
  | tab (ps : Array Value)

noncomputable def AO.dict? : AO → Option Addr
  | .inst _ d _ => some d
  | .exc _ _ d _ => some d
  | _ => none

noncomputable def ORel (h : Heap) (a : Addr) : AO → Prop
  | .list l => ∃ vs n, h.get? a = some (listOf (List.toArray vs) n) ∧ VRs h l vs
  | .inst C dx fs => h.get? a = some (instObj C dx) ∧ ∃ es n sl, h.get? dx = some (dctOf es n sl) ∧ FsR h fs es
  | .exc fresh C dx fs => (∃ vs sl, h.get? a = some ⟨.ref C, some dx, .fields vs, sl⟩ ∧ 6 ≤ vs.size ∧ (fresh = true → vs[1]? = some .none)) ∧ ∃ es n sl, h.get? dx = some (dctOf es n sl) ∧ FsR h fs es
  | .exc0 C => ∃ vs sl, h.get? a = some ⟨.ref C, none, .fields vs, sl⟩ ∧ 6 ≤ vs.size ∧ vs[1]? = some .none
  | .cell p => ∃ v, h.IsCell a v ∧ (match p, v with | some p, some v => VR h p v | none, none => True | _, _ => False)
  | .lam fd => h.get? a = some { cls := .type "function", data := .func fd }
  | .range n => ∃ t u v, IsRange h a 0 n 1 t u v
  | .code q => ∃ o vs t, h.get? a = some o ∧ o.data = .fields vs ∧ vs[1]? = some (.str q t)
  | .tab ps => h.get? a = some (tabObj ps)

noncomputable abbrev Sto := Addr → Option AO
noncomputable def upd (σ : Sto) (a : Addr) (o : AO) : Sto := fun x => if x = a then some o else σ x
theorem upd_same (σ : Sto) (a : Addr) (o : AO) : upd σ a o a = some o := if_pos rfl
theorem upd_ne (σ : Sto) {a b : Addr} (o : AO) (h : b ≠ a) : upd σ a o b = σ b := if_neg h

noncomputable def CFoot (σ : Sto) (a : Addr) : Prop := (∃ o, σ a = some o) ∨ ∃ x o, σ x = some o ∧ o.dict? = some a

end Mine
end A1
local macro_rules | `(tactic| cases $x:ident) => `(tactic| first | (have e := Mine.VR.k_inv $x; subst e) | (refine Exists.elim (Mine.VR.int_inv $x) ?_; intro t q; subst q) | (refine Exists.elim (Mine.VR.str_inv $x) ?_; intro t q; subst q) | (have e := Mine.VRs.nil_inv $x; subst e) | cases ($x))
section S0
open PySem PySem.W PySem.Calls PyProof.Rows
set_option maxRecDepth 10000
set_option linter.unusedVariables false
namespace Mine

theorem upd_le (h : Heap) (a : Addr) (f : Obj → Obj) : (h.update a f).objs.size = h.objs.size := (Heap.SameBut.update h a f).1
theorem push_sz (h : Heap) (o : Obj) : (h.push o).objs.size = h.objs.size + 1 := by show (h.objs.push _).size = _; rw [Array.size_push]

theorem runs_size {M : Model} {Γ : Ctx} {p : Pos} {t : Sem Fin} {fs : List Frame} {s s' : Shared} {e : End} (h : Runs M Γ p t fs s e s') : s.heap.objs.size ≤ s'.heap.objs.size := by
  induction h <;> (try simp only [Shared.setGen, upd_le, push_sz] at *) <;> omega

theorem returns_size {M : Model} {Γ : Ctx} {p : Pos} {s s' : Shared} {r : Result} (h : Returns M Γ p s r s') : s.heap.objs.size ≤ s'.heap.objs.size := runs_size h
theorem wakes_size {M : Model} {Γ : Ctx} {p : Pos} {g : Nat} {r : Resume} {s s' : Shared} {res : GenResult} (h : Wakes M Γ p g r s res s') : s.heap.objs.size ≤ s'.heap.objs.size := by
  unfold Wakes at h
  split at h
  · exact h.elim
  · split at h
    · obtain ⟨e₁, s₁, hr, _, _, rfl⟩ := h; exact (runs_size hr : (s.setGen g .running).heap.objs.size ≤ s₁.heap.objs.size)
    · rw [h.2]; exact Nat.le_refl _
    · rw [h.2]; exact Nat.le_refl _
  · obtain ⟨e₁, s₁, hr, _, _, rfl⟩ := h; exact (runs_size hr : (s.setGen g .running).heap.objs.size ≤ s₁.heap.objs.size)
  · rw [h.2]; exact Nat.le_refl _
  · rw [h.2]; exact Nat.le_refl _

theorem wp_size {α : Type} (M : Model) (Γ : Ctx) (n : Nat) (t : Sem α) : ∀ (Q : α → Pos → Shared → Prop) (E : Value → Pos → Shared → Prop) (p : Pos) (s : Shared), n ≤ s.heap.objs.size → Sem.wp M Γ t Q E p s →
    Sem.wp M Γ t (fun a p' s' => n ≤ s'.heap.objs.size ∧ Q a p' s') (fun e p' s' => n ≤ s'.heap.objs.size ∧ E e p' s') p s := by
  induction t with
  | pure a => intro Q E p s hn h; exact ⟨hn, h⟩
  | raise e => intro Q E p s hn h; exact ⟨hn, h⟩
  | unsupported _ => intro Q E p s _ h; exact h
  | finish _ => intro Q E p s _ h; exact h
  | rule _ k ih => intro Q E p s hn h; exact ih () Q E p s hn h
  | «at» p' k ih => intro Q E p s hn h; exact ih () Q E p' s hn h
  | load a _ k ih => intro Q E p s hn h; obtain ⟨o, ho, h⟩ := h; exact ⟨o, ho, ih o Q E p s hn h⟩
  | update a _ f k ih => intro Q E p s hn h; exact ⟨h.1, ih () Q E p _ (by rw [upd_le]; exact hn) h.2⟩
  | loadIfAlive a k ih => intro Q E p s hn h; exact ih _ Q E p s hn h
  | point _ k ih => intro Q E p s hn h; exact ih () Q E p s hn h
  | register _ _ => intro Q E p s _ h; exact h
  | alloc o k ih => intro Q E p s hn h; exact ih _ Q E p _ (Nat.le_trans hn (push_le _ _)) h
  | fresh k ih => intro Q E p s hn h; exact ih _ Q E p _ hn h
  | ask k ih => intro Q E p s hn h; exact ih _ Q E p s hn h
  | choose src m k ih => intro Q E p s hn h; exact ⟨h.1, ih _ Q E p _ hn h.2⟩
  | os q _ k ih => intro Q E p s hn h; exact ih _ Q E p _ hn h
  | call c hd _ _ k ih => intro Q E p s hn h; obtain ⟨r, s', hr, h⟩ := h; exact ⟨r, s', hr, ih r Q E p s' (Nat.le_trans hn (returns_size hr)) h⟩
  | handled own k ih => intro Q E p s hn h; exact ih _ Q E p s hn h
  | genState g k ih => intro Q E p s hn h; obtain ⟨st, hs, h⟩ := h; exact ⟨st, hs, ih _ Q E p s hn h⟩
  | newGen c k ih => intro Q E p s hn h; exact ih _ Q E p _ hn h
  | resume g r _ k ih => intro Q E p s hn h; obtain ⟨res, s', hw, h⟩ := h; exact ⟨res, s', hw, ih res Q E p s' (Nat.le_trans hn (wakes_size hw)) h⟩
  | yield _ _ _ _ => intro Q E p s _ h; exact h
  | stack k ih => intro Q E p s hn h; exact ih _ Q E p s hn h
  | fork _ _ => intro Q E p s _ h; exact h
  | thread k ih => intro Q E p s hn h; exact ih _ Q E p s hn h
  | await _ _ _ _ _ => intro Q E p s _ h; exact h

theorem runs_toks {M : Model} {Γ : Ctx} {p : Pos} {t : Sem Fin} {fs : List Frame} {s s' : Shared} {e : End} (h : Runs M Γ p t fs s e s') : s.toks ≤ s'.toks := by
  induction h <;> (try simp only [Shared.setGen] at *) <;> omega
theorem wakes_toks {M : Model} {Γ : Ctx} {p : Pos} {g : Nat} {r : Resume} {s s' : Shared} {res : GenResult} (h : Wakes M Γ p g r s res s') : s.toks ≤ s'.toks := by
  unfold Wakes at h
  split at h
  · exact h.elim
  · split at h
    · obtain ⟨e₁, s₁, hr, _, _, rfl⟩ := h; exact (runs_toks hr : (s.setGen g .running).toks ≤ s₁.toks)
    all_goals (rw [h.2]; exact Nat.le_refl _)
  · obtain ⟨e₁, s₁, hr, _, _, rfl⟩ := h; exact (runs_toks hr : (s.setGen g .running).toks ≤ s₁.toks)
  all_goals (rw [h.2]; exact Nat.le_refl _)

theorem wp_toks {α : Type} (M : Model) (Γ : Ctx) (n : Nat) (t : Sem α) : ∀ (Q : α → Pos → Shared → Prop) (E : Value → Pos → Shared → Prop) (p : Pos) (s : Shared), n ≤ s.toks → Sem.wp M Γ t Q E p s →
    Sem.wp M Γ t (fun a p' s' => n ≤ s'.toks ∧ Q a p' s') (fun e p' s' => n ≤ s'.toks ∧ E e p' s') p s := by
  induction t with
  | pure a => intro Q E p s hn h; exact ⟨hn, h⟩
  | raise e => intro Q E p s hn h; exact ⟨hn, h⟩
  | unsupported _ => intro Q E p s _ h; exact h
  | finish _ => intro Q E p s _ h; exact h
  | rule _ k ih => intro Q E p s hn h; exact ih () Q E p s hn h
  | «at» p' k ih => intro Q E p s hn h; exact ih () Q E p' s hn h
  | load a _ k ih => intro Q E p s hn h; obtain ⟨o, ho, h⟩ := h; exact ⟨o, ho, ih o Q E p s hn h⟩
  | update a _ f k ih => intro Q E p s hn h; exact ⟨h.1, ih () Q E p _ hn h.2⟩
  | loadIfAlive a k ih => intro Q E p s hn h; exact ih _ Q E p s hn h
  | point _ k ih => intro Q E p s hn h; exact ih () Q E p s hn h
  | register _ _ => intro Q E p s _ h; exact h
  | alloc o k ih => intro Q E p s hn h; exact ih _ Q E p _ hn h
  | fresh k ih => intro Q E p s hn h; exact ih _ Q E p _ (Nat.le_succ_of_le hn) h
  | ask k ih => intro Q E p s hn h; exact ih _ Q E p s hn h
  | choose src m k ih => intro Q E p s hn h; exact ⟨h.1, ih _ Q E p _ hn h.2⟩
  | os q _ k ih => intro Q E p s hn h; exact ih _ Q E p _ hn h
  | call c hd _ _ k ih => intro Q E p s hn h; obtain ⟨r, s', hr, h⟩ := h; exact ⟨r, s', hr, ih r Q E p s' (Nat.le_trans hn (runs_toks hr)) h⟩
  | handled own k ih => intro Q E p s hn h; exact ih _ Q E p s hn h
  | genState g k ih => intro Q E p s hn h; obtain ⟨st, hs, h⟩ := h; exact ⟨st, hs, ih _ Q E p s hn h⟩
  | newGen c k ih => intro Q E p s hn h; exact ih _ Q E p _ hn h
  | resume g r _ k ih => intro Q E p s hn h; obtain ⟨res, s', hw, h⟩ := h; exact ⟨res, s', hw, ih res Q E p s' (Nat.le_trans hn (wakes_toks hw)) h⟩
  | yield _ _ _ _ => intro Q E p s _ h; exact h
  | stack k ih => intro Q E p s hn h; exact ih _ Q E p s hn h
  | fork _ _ => intro Q E p s _ h; exact h
  | thread k ih => intro Q E p s hn h; exact ih _ Q E p s hn h
  | await _ _ _ _ _ => intro Q E p s _ h; exact h

section
variable {α : Type} {M : Model} {A : Around} {s : Shared}
theorem wpAny_toks {t : Sem α} {Q : α → Shared → Prop} {E : Value → Shared → Prop} (h : wpAny M A t (fun a s' => s.toks ≤ s'.toks → Q a s') (fun e s' => s.toks ≤ s'.toks → E e s') s) : wpAny M A t Q E s :=
  wpAny_mono (Q := fun a s' => s.toks ≤ s'.toks ∧ (s.toks ≤ s'.toks → Q a s')) (E := fun a s' => s.toks ≤ s'.toks ∧ (s.toks ≤ s'.toks → E a s'))
    (fun Γ p hΓ => wp_toks M Γ _ t _ _ p s (Nat.le_refl _) (h Γ p hΓ)) (fun _ _ x => x.2 x.1) (fun _ _ x => x.2 x.1)
theorem codeAny_toks {c : Code} {R : Result → Shared → Prop} (h : codeAny M A c (fun r s' => s.toks ≤ s'.toks → R r s') s) : codeAny M A c R s :=
  fun Γ p hc hΓ => by obtain ⟨r, s', hr, hR⟩ := h Γ p hc hΓ; exact ⟨r, s', hr, hR (runs_toks hr)⟩
theorem wpAny_size {t : Sem α} {Q : α → Shared → Prop} {E : Value → Shared → Prop} (h : wpAny M A t (fun a s' => s.heap.objs.size ≤ s'.heap.objs.size → Q a s') (fun e s' => s.heap.objs.size ≤ s'.heap.objs.size → E e s') s) : wpAny M A t Q E s :=
  wpAny_mono (Q := fun a s' => s.heap.objs.size ≤ s'.heap.objs.size ∧ (s.heap.objs.size ≤ s'.heap.objs.size → Q a s')) (E := fun a s' => s.heap.objs.size ≤ s'.heap.objs.size ∧ (s.heap.objs.size ≤ s'.heap.objs.size → E a s'))
    (fun Γ p hΓ => wp_size M Γ _ t _ _ p s (Nat.le_refl _) (h Γ p hΓ)) (fun _ _ x => x.2 x.1) (fun _ _ x => x.2 x.1)
end
end Mine
end S0
section A2
open PySem PySem.W PySem.Calls PyProof.Rows
set_option maxRecDepth 10000
set_option linter.unusedVariables false
namespace Mine

theorem type_ne {a b : String} (h : a ≠ b) : Value.type a ≠ Value.type b := fun q => h (Value.type.inj q)
theorem ref_ne_type {C : Addr} {b : String} : Value.ref C ≠ Value.type b := fun q => nomatch q
theorem obj_ne {o o' : Obj} {h : Heap} {a : Addr} (e : h.get? a = some o) (e' : h.get? a = some o') (n : o.cls ≠ o'.cls) : False := n (congrArg Obj.cls (Option.some.inj (e.symm.trans e')))
theorem Kp.of_ne {h' : Heap} {b : Addr} {o : Obj} (x : Kp h' b o) (n : ∀ es k, o.data ≠ .dict es k) : h'.get? b = some o := x.elim id fun ⟨⟨es, k, y⟩, _⟩ => absurd y (n es k)

theorem ORel.mk {S : Addr → Prop} {h h' : Heap} {a : Addr} {o : AO} (x : Mk S h h') (na : ¬ S a) (nd : ∀ d, o.dict? = some d → ¬ S d) (r : ORel h a o) : ORel h' a o := by
  cases o with
  | list l =>
    obtain ⟨vs, n, e, v⟩ := r
    exact ⟨vs, n, (x.keep _ _ e na).of_ne (fun _ _ q => nomatch q), v.mk x⟩
  | inst C dx fs =>
    obtain ⟨e, es, n, sl, d, f⟩ := r
    refine ⟨(x.keep _ _ e na).of_ne (fun _ _ q => nomatch q), es, n, ?_⟩
    rcases x.keep _ _ d (nd _ rfl) with d | ⟨_, sl', d⟩
    · exact ⟨sl, d, f.mk x⟩
    · exact ⟨sl', d, f.mk x⟩
  | exc fresh C dx fs =>
    obtain ⟨⟨vs, sl, e, v1, v2⟩, es, n, sd, d, f⟩ := r
    refine ⟨⟨vs, sl, (x.keep _ _ e na).of_ne (fun _ _ q => nomatch q), v1, v2⟩, es, n, ?_⟩
    rcases x.keep _ _ d (nd _ rfl) with d | ⟨_, sd', d⟩
    · exact ⟨sd, d, f.mk x⟩
    · exact ⟨sd', d, f.mk x⟩
  | exc0 C =>
    obtain ⟨vs, sl, e, v1, v2⟩ := r
    exact ⟨vs, sl, (x.keep _ _ e na).of_ne (fun _ _ q => nomatch q), v1, v2⟩
  | cell p =>
    obtain ⟨v, ⟨oc, e, ed⟩, m⟩ := r
    refine ⟨v, ⟨oc, (x.keep _ _ e na).of_ne (fun _ _ q => by rw [ed] at q; cases q), ed⟩, ?_⟩
    cases p <;> cases v <;> first | exact m | exact VR.mk x m
  | lam fd => exact (x.keep _ _ r na).of_ne (fun _ _ q => nomatch q)
  | range n => obtain ⟨t, u, v, r⟩ := r; exact ⟨t, u, v, (x.keep _ _ r na).of_ne (fun _ _ q => nomatch q)⟩
  | code q => obtain ⟨oc, vs, t, e, d, r⟩ := r; exact ⟨oc, vs, t, (x.keep _ _ e na).of_ne (fun _ _ q => by rw [d] at q; cases q), d, r⟩
  | tab ps => exact (x.keep _ _ r na).of_ne (fun _ _ q => nomatch q)

theorem ORel.mv {S : Addr → Prop} {h h' : Heap} {a : Addr} {o : AO} (x : Mv S h h') (na : ¬ S a) (nd : ∀ d, o.dict? = some d → ¬ S d) (r : ORel h a o) : ORel h' a o := r.mk x.toMk na nd

structure Ex (S : Addr → Prop) (h h' : Heap) : Prop where
  keep : ∀ b o, h.get? b = some o → ¬ S b → h'.get? b = some o
  nf : ∀ b o, h.get? b = some o → IsD o → ∃ o', h'.get? b = some o' ∧ IsD o'
  tup : ∀ b o, h.get? b = some o → IsT o → h'.get? b = some o
  size : h.objs.size ≤ h'.objs.size
theorem Ex.mv {S : Addr → Prop} {h h' : Heap} (x : Ex S h h') : Mv S h h' := ⟨fun b o e n => .inl (x.keep b o e n), x.nf, x.tup, x.size⟩
theorem Ex.of_keeps {S : Addr → Prop} {h h' : Heap} (k : ∀ b o, h.get? b = some o → h'.get? b = some o) (z : h.objs.size ≤ h'.objs.size) : Ex S h h' :=
  ⟨fun b o e _ => k b o e, fun b o e n => ⟨o, k b o e, n⟩, fun b o e _ => k b o e, z⟩
theorem Ex.trans {S S' : Addr → Prop} {h h1 h2 : Heap} (x : Ex S h h1) (y : Ex S' h1 h2) (hs : ∀ a, S' a → S a ∨ h.objs.size ≤ a) : Ex S h h2 := by
  refine ⟨fun b o e n => ?_, fun b o e n => ?_, fun b o e t => y.tup b o (x.tup b o e t) t, Nat.le_trans x.size y.size⟩
  · refine y.keep b o (x.keep b o e n) fun q => ?_
    rcases hs b q with q | q
    · exact n q
    · exact absurd (Heap.lt_size e) (Nat.not_lt.mpr q)
  · obtain ⟨o1, e1, n1⟩ := x.nf b o e n
    exact y.nf b o1 e1 n1

theorem Ex.update {h : Heap} {a : Addr} {o : Obj} {f : Obj → Obj} (e : h.get? a = some o) (hf : (f o).isFreed = false) (hn : IsD o → IsD (f o)) (ht : ¬ IsT o) : Ex (· = a) h (h.update a f) := by
  have other : ∀ b, b ≠ a → (h.update a f).get? b = h.get? b := fun b hb => Heap.get?_update_other _ _ (Ne.symm hb)
  refine ⟨fun b o' e' n => (other b n).trans e', fun b o' e' n' => ?_, fun b o' e' t => ?_, Nat.le_of_eq (Heap.SameBut.update h a f).1.symm⟩
  · by_cases q : b = a
    · subst q; rw [e] at e'; cases e'
      exact ⟨_, Heap.get?_update_self f e hf, hn n'⟩
    · exact ⟨o', (other b q).trans e', n'⟩
  · by_cases q : b = a
    · subst q; rw [e] at e'; cases e'; exact absurd t ht
    · exact (other b q).trans e'

theorem Ex.sameBut {h h' : Heap} {a : Addr} {o o' : Obj} (x : Heap.SameBut a h h') (e : h.get? a = some o) (e' : h'.get? a = some o') (hn : IsD o → IsD o') (ht : ¬ IsT o) : Ex (· = a) h h' := by
  refine ⟨fun b o' e' n => (x.2 b n).trans e', fun b o1 e1 n' => ?_, fun b o1 e1 t => ?_, Nat.le_of_eq x.1.symm⟩
  · by_cases q : b = a
    · subst q; rw [e] at e1; cases e1; exact ⟨_, e', hn n'⟩
    · exact ⟨o1, (x.2 b q).trans e1, n'⟩
  · by_cases q : b = a
    · subst q; rw [e] at e1; cases e1; exact absurd t ht
    · exact (x.2 b q).trans e1

structure Cx where
  prog : Program
  w : World
  K : Frag
  h₀ : Heap
  os₀ : OsState
  mg : PySem.Str → Option Value
  mb : PySem.Str → Option Value
  top : Program
  loose : List PySem.Str
noncomputable abbrev Cx.M (c : Cx) : Model := model c.prog c.w
structure Cx.Ok (c : Cx) : Prop where
  X : c.K.In c.h₀
  T : TopRead c.top c.loose c.mg c.mb c.h₀
  bm : ∃ bm ob, c.mg "__builtins__" = some (.ref bm) ∧ bm ≠ builtinsNs ∧ c.h₀.get? bm = some ob ∧ ob.cls = .type "module" ∧ ob.dict = some builtinsNs ∧ ob.data = .plain

structure AOk (A : Around) (n : Nat) : Prop where
  depth : A.depth + 2 * n < recursionLimit
  units : A.units + 40 * n + 100 < cLine

noncomputable def FrE (c : Cx) (h : Heap) (frs : List Env) : Prop := ∀ env ∈ frs, env.scope.kind ≠ .module ∧ ∃ L o, env.frame = some L ∧ c.h₀.get? L = none ∧ h.get? L = some o ∧ IsD o
theorem FrE.fun {c : Cx} {h : Heap} : ∀ {frs : List Env}, FrE c h frs → h.FunFrames c.h₀ frs
  | [], _ => trivial
  | env :: r, x => by
    obtain ⟨a, L, o, b, d, e, es, n, f⟩ := x env (.head _)
    exact ⟨a, ⟨L, o, b, d, e, fun vs q => by rw [f] at q; cases q⟩, FrE.fun fun e he => x e (.tail _ he)⟩
theorem FrE.mv {c : Cx} {S : Addr → Prop} {h h' : Heap} {frs : List Env} (x : FrE c h frs) (m : ∀ b o, h.get? b = some o → IsD o → ∃ o', h'.get? b = some o' ∧ IsD o') : FrE c h' frs := fun env he => by
  obtain ⟨a, L, o, b, d, e, f⟩ := x env he
  obtain ⟨o', e', f'⟩ := m L o e f
  exact ⟨a, L, o', b, d, e', f'⟩

structure CRel (c : Cx) (A : Around) (n : Nat) (σ : Sto) (s : Shared) : Prop where
  cok : c.Ok
  ok : AOk A n
  base : c.h₀.StaysIn s.heap
  gens : s.gens = #[]
  os : s.os = c.os₀
  frames : ∃ frs, A.frames = some frs ∧ FrE c s.heap frs
  sto : ∀ a o, σ a = some o → ORel s.heap a o
  new : ∀ a, CFoot σ a → c.h₀.get? a = none
  dinj : ∀ x y o p d, σ x = some o → σ y = some p → o.dict? = some d → p.dict? = some d → x = y

theorem CRel.kin {c : Cx} {A : Around} {n : Nat} {σ : Sto} {s : Shared} (R : CRel c A n σ s) : c.K.In s.heap := R.cok.X.keeps R.base
theorem CRel.nolimit {c : Cx} {A : Around} {n : Nat} {σ : Sto} {s : Shared} (R : CRel c A n σ s) : s.heap.NoLimit := R.cok.T.nolimit.keeps R.base

theorem CRel.move {c : Cx} {A : Around} {n : Nat} {σ σ' : Sto} {s s' : Shared} {S : Addr → Prop} (R : CRel c A n σ s) (x : Ex S s.heap s'.heap)
    (hS : ∀ a, S a → c.h₀.get? a = none) (hg : s'.gens = s.gens) (ho : s'.os = s.os)
    (h : ∀ a o, σ' a = some o → (σ a = some o ∧ ¬ S a ∧ ∀ d, o.dict? = some d → ¬ S d) ∨ ORel s'.heap a o)
    (hn : ∀ a, CFoot σ' a → c.h₀.get? a = none)
    (hd : ∀ x y o p d, σ' x = some o → σ' y = some p → o.dict? = some d → p.dict? = some d → x = y) : CRel c A n σ' s' := by
  refine ⟨R.cok, R.ok, fun b o e => x.keep b o (R.base b o e) fun q => ?_, hg.trans R.gens, ho.trans R.os, ?_, fun a o e => ?_, hn, hd⟩
  · have := hS b q; rw [e] at this; cases this
  · obtain ⟨frs, hf, hl⟩ := R.frames
    exact ⟨frs, hf, hl.mv (S := S) x.nf⟩
  · rcases h a o e with ⟨e1, e2, e3⟩ | r
    · exact (R.sto a o e1).mv x.mv e2 e3
    · exact r

theorem CRel.moveK {c : Cx} {A : Around} {n : Nat} {σ : Sto} {s s' : Shared} {S : Addr → Prop} (R : CRel c A n σ s) (x : Mv S s.heap s'.heap)
    (hb : c.h₀.StaysIn s'.heap) (hg : s'.gens = s.gens) (ho : s'.os = s.os) (hS : ∀ a, S a → ¬ CFoot σ a) : CRel c A n σ s' := by
  refine ⟨R.cok, R.ok, hb, hg.trans R.gens, ho.trans R.os, ?_, fun a o e => (R.sto a o e).mv x (fun q => hS a q (.inl ⟨o, e⟩)) fun d hd q => hS d q (.inr ⟨a, o, e, hd⟩), R.new, R.dinj⟩
  obtain ⟨frs, hf, hl⟩ := R.frames
  exact ⟨frs, hf, hl.mv (S := S) x.nf⟩

theorem CRel.get_foot {c : Cx} {A : Around} {n : Nat} {σ : Sto} {s : Shared} (R : CRel c A n σ s) {a : Addr} (f : CFoot σ a) : ∃ o, s.heap.get? a = some o ∧ ¬ IsT o := by
  rcases f with ⟨o, e⟩ | ⟨x, o, e, d⟩
  · have r := R.sto a o e
    cases o with
    | list l => obtain ⟨vs, n, e, v⟩ := r; exact ⟨_, e, fun q => type_ne (by decide) q.1⟩
    | inst C dx fs => exact ⟨_, r.1, fun q => ref_ne_type q.1⟩
    | exc fresh C dx fs => obtain ⟨⟨vs, sl, e, _⟩, _⟩ := r; exact ⟨_, e, fun q => ref_ne_type q.1⟩
    | exc0 C => obtain ⟨vs, sl, e, _⟩ := r; exact ⟨_, e, fun q => ref_ne_type q.1⟩
    | cell p => obtain ⟨v, ⟨oc, e, ed⟩, _⟩ := r; exact ⟨_, e, fun ⟨_, _, _, q⟩ => by rw [ed] at q; cases q⟩
    | lam fd => exact ⟨_, r, fun q => type_ne (by decide) q.1⟩
    | range n => obtain ⟨t, u, v, r⟩ := r; exact ⟨_, r, fun q => type_ne (by decide) q.1⟩
    | code q => obtain ⟨oc, vs, t, e, d, r⟩ := r; exact ⟨_, e, fun ⟨_, _, _, z⟩ => by rw [d] at z; cases z⟩
    | tab ps => exact ⟨_, r, fun q => nomatch q.1⟩
  · have r := R.sto x o e
    cases o with
    | inst C dx fs => cases d; obtain ⟨_, es, n, sl, e, _⟩ := r; exact ⟨_, e, fun q => type_ne (by decide) q.1⟩
    | exc fresh C dx fs => cases d; obtain ⟨_, es, n, sl, e, _⟩ := r; exact ⟨_, e, fun q => type_ne (by decide) q.1⟩
    | _ => cases d
theorem CRel.foot_lt {c : Cx} {A : Around} {n : Nat} {σ : Sto} {s : Shared} (R : CRel c A n σ s) {a : Addr} (f : CFoot σ a) : a < s.heap.objs.size := by
  obtain ⟨o, e, _⟩ := R.get_foot f
  exact Heap.lt_size e
theorem CRel.dict_none {c : Cx} {A : Around} {n : Nat} {σ : Sto} {s : Shared} (R : CRel c A n σ s) {x d : Addr} {o : AO} (e : σ x = some o) (hd : o.dict? = some d) : σ d = none := by
  have D : ∃ es n sl, s.heap.get? d = some (dctOf es n sl) := by
    have r := R.sto x o e
    cases o with
    | inst C dx fs => cases hd; obtain ⟨_, es, n, sl, e, _⟩ := r; exact ⟨es, n, sl, e⟩
    | exc fresh C dx fs => cases hd; obtain ⟨_, es, n, sl, e, _⟩ := r; exact ⟨es, n, sl, e⟩
    | _ => cases hd
  obtain ⟨es, k, sl0, D⟩ := D
  cases q : σ d with
  | none => rfl
  | some p =>
    exfalso
    have r := R.sto d p q
    cases p with
    | list l => obtain ⟨vs, n, e, v⟩ := r; exact obj_ne D e (type_ne (by decide))
    | inst C dx fs => exact obj_ne r.1 D ref_ne_type
    | exc fresh C dx fs => obtain ⟨⟨vs, sl, e, _⟩, _⟩ := r; exact obj_ne e D ref_ne_type
    | exc0 C => obtain ⟨vs, sl, e, _⟩ := r; exact obj_ne e D ref_ne_type
    | cell p => obtain ⟨v, ⟨oc, e, ed⟩, _⟩ := r; rw [D] at e; cases e; cases ed
    | lam fd => exact obj_ne D r (type_ne (by decide))
    | range n => obtain ⟨t, u, v, r⟩ := r; exact obj_ne D r (type_ne (by decide))
    | code q => obtain ⟨oc, vs, t, e, d, r⟩ := r; rw [D] at e; cases e; cases d
    | tab ps => exact obj_ne D r (fun q => nomatch q)

structure CStep (σ : Sto) (s : Shared) (σ' : Sto) (s' : Shared) : Prop where
  mv : Mv (CFoot σ) s.heap s'.heap
  grow : ∀ a, CFoot σ' a → CFoot σ a ∨ s.heap.objs.size ≤ a
  tk : s.toks ≤ s'.toks := by first | exact Nat.le_refl _ | exact Nat.le_succ _ | exact Nat.le_add_right _ _ | assumption | omega
theorem CStep.refl (σ : Sto) (s : Shared) : CStep σ s σ s := ⟨.refl _ _, fun _ f => .inl f, Nat.le_refl _⟩
theorem none_of_none {S : Addr → Prop} {h h' : Heap} (x : Mv S h h') {a : Addr} (e : h'.objs.size ≤ a) : h.objs.size ≤ a := Nat.le_trans x.size e
theorem CStep.trans {σ σ1 σ2 : Sto} {s s1 s2 : Shared} (x : CStep σ s σ1 s1) (y : CStep σ1 s1 σ2 s2) : CStep σ s σ2 s2 :=
  ⟨x.mv.trans y.mv x.grow, fun a f => (y.grow a f).elim (x.grow a) fun q => .inr (none_of_none x.mv q), Nat.le_trans x.tk y.tk⟩

structure Fm where
  env : Env
  A : Around
  n : Nat
  t0 : Nat := 0
noncomputable abbrev Fm.L (fm : Fm) : Addr := fm.env.locals
noncomputable abbrev Loc := List (PySem.Str × PV)

structure Rel (c : Cx) (fm : Fm) (loc : Loc) (σ : Sto) (s : Shared) : Prop where
  cr : CRel c fm.A fm.n σ s
  ns : ∃ m, s.heap.Ns fm.L m ∧ ∀ p ∈ loc, fm.env.kindOf p.1 = some .local ∧ ∃ v, m p.1 = some v ∧ VR s.heap p.2 v
  lnew : c.h₀.get? fm.L = none
  lfoot : ¬ CFoot σ fm.L
  tk : fm.t0 ≤ s.toks

noncomputable def Foot (fm : Fm) (σ : Sto) (a : Addr) : Prop := CFoot σ a ∨ a = fm.L
structure Step (fm : Fm) (σ : Sto) (s : Shared) (σ' : Sto) (s' : Shared) : Prop where
  mv : Mv (Foot fm σ) s.heap s'.heap
  grow : ∀ a, CFoot σ' a → CFoot σ a ∨ s.heap.objs.size ≤ a
  tk : s.toks ≤ s'.toks := by first | exact Nat.le_refl _ | exact Nat.le_succ _ | exact Nat.le_add_right _ _ | assumption | omega
theorem Step.refl (fm : Fm) (σ : Sto) (s : Shared) : Step fm σ s σ s := ⟨.refl _ _, fun _ f => .inl f, Nat.le_refl _⟩
theorem Step.trans {fm : Fm} {σ σ1 σ2 : Sto} {s s1 s2 : Shared} (x : Step fm σ s σ1 s1) (y : Step fm σ1 s1 σ2 s2) : Step fm σ s σ2 s2 :=
  ⟨x.mv.trans y.mv fun a f => f.elim (fun f => (x.grow a f).elim (fun f => .inl (.inl f)) .inr) fun f => .inl (.inr f),
   fun a f => (y.grow a f).elim (x.grow a) fun q => .inr (none_of_none x.mv q), Nat.le_trans x.tk y.tk⟩
theorem CStep.step {fm : Fm} {σ σ' : Sto} {s s' : Shared} (x : CStep σ s σ' s') : Step fm σ s σ' s' := ⟨x.mv.mono fun _ f => .inl f, x.grow, x.tk⟩

theorem ns_kp {h h' : Heap} {L : Addr} {m : PySem.Str → Option Value} (hn : h.Ns L m) (k : ∀ o, h.get? L = some o → Kp h' L o) : h'.Ns L m := by
  obtain ⟨o, es, ep, ho, hd, r⟩ := hn
  rcases k o ho with e | ⟨_, sl, e⟩
  · exact ⟨o, es, ep, e, hd, r⟩
  · exact ⟨_, es, ep, e, hd, r⟩

theorem Rel.back {c : Cx} {fm : Fm} {loc : Loc} {σ σ' : Sto} {s s' : Shared} (R : Rel c fm loc σ s) (cr : CRel c fm.A fm.n σ' s') (x : CStep σ s σ' s') : Rel c fm loc σ' s' := by
  obtain ⟨m, hn, hl⟩ := R.ns
  refine ⟨cr, ⟨m, ns_kp hn fun o e => x.mv.keep _ o e R.lfoot, fun p hp => ?_⟩, R.lnew, fun f => ?_, Nat.le_trans R.tk x.tk⟩
  · obtain ⟨a, v, b, d⟩ := hl p hp
    exact ⟨a, v, b, d.mv x.mv⟩
  · rcases x.grow _ f with f | f
    · exact R.lfoot f
    · obtain ⟨o, es, ep, ho, _⟩ := hn
      exact absurd (Heap.lt_size ho) (Nat.not_lt.mpr f)

theorem Rel.forget {c : Cx} {fm : Fm} {loc loc' : Loc} {σ : Sto} {s : Shared} (R : Rel c fm loc σ s) (h : ∀ p ∈ loc', p ∈ loc) : Rel c fm loc' σ s := by
  obtain ⟨m, hn, hl⟩ := R.ns
  exact ⟨R.cr, ⟨m, hn, fun p hp => hl p (h p hp)⟩, R.lnew, R.lfoot, R.tk⟩

noncomputable def Sub (σ' σ : Sto) : Prop := ∀ a o, σ' a = some o → σ a = some o
theorem Sub.foot {σ σ' : Sto} (h : Sub σ' σ) {a : Addr} (f : CFoot σ' a) : CFoot σ a :=
  f.elim (fun ⟨o, e⟩ => .inl ⟨o, h a o e⟩) fun ⟨x, o, e, d⟩ => .inr ⟨x, o, h x o e, d⟩
theorem CRel.forget {c : Cx} {A : Around} {n : Nat} {σ σ' : Sto} {s : Shared} (R : CRel c A n σ s) (h : Sub σ' σ) : CRel c A n σ' s :=
  ⟨R.cok, R.ok, R.base, R.gens, R.os, R.frames, fun a o e => R.sto a o (h a o e), fun a f => R.new a (h.foot f), fun x y o p d a b => R.dinj x y o p d (h x o a) (h y p b)⟩
theorem Rel.forgetS {c : Cx} {fm : Fm} {loc : Loc} {σ σ' : Sto} {s : Shared} (R : Rel c fm loc σ s) (h : Sub σ' σ) : Rel c fm loc σ' s :=
  ⟨R.cr.forget h, R.ns, R.lnew, fun f => R.lfoot (h.foot f), R.tk⟩
theorem CStep.forget {σ σ' σ'' : Sto} {s s' : Shared} (x : CStep σ s σ' s') (h : Sub σ'' σ') : CStep σ s σ'' s' := ⟨x.mv, fun a f => x.grow a (h.foot f), x.tk⟩
theorem Step.forget {fm : Fm} {σ σ' σ'' : Sto} {s s' : Shared} (x : Step fm σ s σ' s') (h : Sub σ'' σ') : Step fm σ s σ'' s' := ⟨x.mv, fun a f => x.grow a (h.foot f), x.tk⟩
end Mine
end A2
section A3
open PySem PySem.W PySem.Calls PyProof.Rows
set_option maxRecDepth 10000
set_option linter.unusedVariables false
namespace Mine

section
variable {c : Cx} {A : Around} {n : Nat} {σ : Sto} {s : Shared}

theorem CRel.base_none (R : CRel c A n σ s) {a : Addr} (e : s.heap.get? a = none) : c.h₀.get? a = none := by
  cases q : c.h₀.get? a with
  | none => rfl
  | some o => have := R.base a o q; rw [e] at this; cases this
theorem CRel.sto_none (R : CRel c A n σ s) {a : Addr} (e : s.heap.get? a = none) : σ a = none := by
  cases q : σ a with
  | none => rfl
  | some o => obtain ⟨o', e', _⟩ := R.get_foot (.inl ⟨o, q⟩); rw [e] at e'; cases e'

theorem CRel.toks (R : CRel c A n σ s) (t : Nat) : CRel c A n σ { s with toks := t } := ⟨R.cok, R.ok, R.base, R.gens, R.os, R.frames, R.sto, R.new, R.dinj⟩
theorem Rel.toks {fm : Fm} {loc : Loc} (R : Rel c fm loc σ s) (t : Nat) (ht : s.toks ≤ t := by first | exact Nat.le_refl _ | exact Nat.le_succ _ | exact Nat.le_add_right _ _ | assumption | omega) : Rel c fm loc σ { s with toks := t } := ⟨R.cr.toks t, R.ns, R.lnew, R.lfoot, Nat.le_trans R.tk ht⟩
theorem Step.toks (fm : Fm) (σ : Sto) (s : Shared) (t : Nat) (ht : s.toks ≤ t := by first | exact Nat.le_refl _ | exact Nat.le_succ _ | exact Nat.le_add_right _ _ | assumption | omega) : Step fm σ s σ { s with toks := t } := ⟨.refl _ _, fun _ f => .inl f, ht⟩
theorem CStep.toks (σ : Sto) (s : Shared) (t : Nat) (ht : s.toks ≤ t := by first | exact Nat.le_refl _ | exact Nat.le_succ _ | exact Nat.le_add_right _ _ | assumption | omega) : CStep σ s σ { s with toks := t } := ⟨.refl _ _, fun _ f => .inl f, ht⟩

theorem CRel.grow (R : CRel c A n σ s) {h' : Heap} (k : ∀ b o, s.heap.get? b = some o → h'.get? b = some o) (z : s.heap.objs.size ≤ h'.objs.size) (t : Nat) (ht : s.toks ≤ t := by first | exact Nat.le_refl _ | exact Nat.le_succ _ | exact Nat.le_add_right _ _ | assumption | omega) :
    CRel c A n σ { s with heap := h', toks := t } ∧ CStep σ s σ { s with heap := h', toks := t } :=
  ⟨R.move (S := fun _ => False) (.of_keeps k z) (fun _ f => f.elim) rfl rfl (fun _ _ e => .inl ⟨e, id, fun _ _ => id⟩) R.new R.dinj, ⟨.of_keeps k z, fun _ f => .inl f, ht⟩⟩
theorem Rel.grow {fm : Fm} {loc : Loc} (R : Rel c fm loc σ s) {h' : Heap} (k : ∀ b o, s.heap.get? b = some o → h'.get? b = some o) (z : s.heap.objs.size ≤ h'.objs.size) (t : Nat) (ht : s.toks ≤ t := by first | exact Nat.le_refl _ | exact Nat.le_succ _ | exact Nat.le_add_right _ _ | assumption | omega) :
    Rel c fm loc σ { s with heap := h', toks := t } ∧ Step fm σ s σ { s with heap := h', toks := t } :=
  let ⟨a, b⟩ := R.cr.grow k z t ht; ⟨R.back a b, b.step⟩

theorem CRel.alloc (R : CRel c A n σ s) {h' : Heap} {a : Addr} {ao : AO} (k : ∀ b o, s.heap.get? b = some o → h'.get? b = some o) (z : s.heap.objs.size ≤ h'.objs.size) (t : Nat) (hnew : s.heap.objs.size ≤ a) (r : ORel h' a ao)
    (hd : ∀ d, ao.dict? = some d → s.heap.objs.size ≤ d) (ht : s.toks ≤ t := by first | exact Nat.le_refl _ | exact Nat.le_succ _ | exact Nat.le_add_right _ _ | assumption | omega) :
    CRel c A n (upd σ a ao) { s with heap := h', toks := t } ∧ CStep σ s (upd σ a ao) { s with heap := h', toks := t } ∧ σ a = none := by
  have na := R.sto_none (none_of_le hnew)
  have foot : ∀ b, CFoot (upd σ a ao) b → CFoot σ b ∨ s.heap.objs.size ≤ b := fun b f => by
    rcases f with ⟨o, e⟩ | ⟨x, o, e, q⟩
    · by_cases z : b = a
      · subst z; exact .inr hnew
      · rw [upd_ne _ _ z] at e; exact .inl (.inl ⟨o, e⟩)
    · by_cases z : x = a
      · subst z; rw [upd_same] at e; cases e; exact .inr (hd b q)
      · rw [upd_ne _ _ z] at e; exact .inl (.inr ⟨x, o, e, q⟩)
  refine ⟨R.move (S := fun _ => False) (.of_keeps k z) (fun _ f => f.elim) rfl rfl (fun b o e => ?_) (fun b f => ?_) (fun x y o p d e1 e2 d1 d2 => ?_), ⟨.of_keeps k z, foot, ht⟩, na⟩
  · by_cases z : b = a
    · subst z; rw [upd_same] at e; cases e; exact .inr r
    · rw [upd_ne _ _ z] at e; exact .inl ⟨e, id, fun _ _ => id⟩
  · exact (foot b f).elim (R.new b) fun q => R.base_none (none_of_le q)
  · have alive : ∀ y p, σ y = some p → p.dict? = some d → s.heap.get? d ≠ none := fun y p e q z => by
      obtain ⟨o, e', _⟩ := R.get_foot (.inr ⟨y, p, e, q⟩); rw [z] at e'; cases e'
    by_cases z1 : x = a
    · by_cases z2 : y = a
      · rw [z1, z2]
      · subst z1; rw [upd_same] at e1; cases e1; rw [upd_ne _ _ z2] at e2
        exact absurd (none_of_le (hd d d1)) (alive y p e2 d2)
    · rw [upd_ne _ _ z1] at e1
      by_cases z2 : y = a
      · subst z2; rw [upd_same] at e2; cases e2
        exact absurd (none_of_le (hd d d2)) (alive x o e1 d1)
      · rw [upd_ne _ _ z2] at e2
        exact R.dinj x y o p d e1 e2 d1 d2
theorem Rel.alloc {fm : Fm} {loc : Loc} (R : Rel c fm loc σ s) {h' : Heap} {a : Addr} {ao : AO} (k : ∀ b o, s.heap.get? b = some o → h'.get? b = some o) (z : s.heap.objs.size ≤ h'.objs.size) (t : Nat) (hnew : s.heap.objs.size ≤ a) (r : ORel h' a ao)
    (hd : ∀ d, ao.dict? = some d → s.heap.objs.size ≤ d) (ht : s.toks ≤ t := by first | exact Nat.le_refl _ | exact Nat.le_succ _ | exact Nat.le_add_right _ _ | assumption | omega) :
    Rel c fm loc (upd σ a ao) { s with heap := h', toks := t } ∧ Step fm σ s (upd σ a ao) { s with heap := h', toks := t } ∧ σ a = none :=
  let ⟨a, b, d⟩ := R.cr.alloc k z t hnew r hd ht; ⟨R.back a b, b.step, d⟩

theorem CRel.write (R : CRel c A n σ s) {h' : Heap} {a b : Addr} {ao ao' : AO} (e : σ a = some ao) (hb : b = a ∨ ao.dict? = some b) (t : Nat) (x : Ex (· = b) s.heap h') (r : ORel h' a ao') (hd : ao'.dict? = ao.dict?) (ht : s.toks ≤ t := by first | exact Nat.le_refl _ | exact Nat.le_succ _ | exact Nat.le_add_right _ _ | assumption | omega) :
    CRel c A n (upd σ a ao') { s with heap := h', toks := t } ∧ CStep σ s (upd σ a ao') { s with heap := h', toks := t } := by
  have foot : ∀ d, CFoot (upd σ a ao') d → CFoot σ d := fun d f => by
    rcases f with ⟨o, q⟩ | ⟨y, o, q, z⟩
    · by_cases w : d = a
      · subst w; exact .inl ⟨_, e⟩
      · rw [upd_ne _ _ w] at q; exact .inl ⟨o, q⟩
    · by_cases w : y = a
      · subst w; rw [upd_same] at q; cases q; exact .inr ⟨_, _, e, hd ▸ z⟩
      · rw [upd_ne _ _ w] at q; exact .inr ⟨y, o, q, z⟩
  have fb : CFoot σ b := hb.elim (fun q => q ▸ .inl ⟨_, e⟩) fun q => .inr ⟨_, _, e, q⟩
  refine ⟨R.move (S := (· = b)) x (fun _ q => q ▸ R.new b fb) rfl rfl (fun y o q => ?_) (fun d f => R.new d (foot d f)) (fun y z o p d e1 e2 d1 d2 => ?_), ⟨x.mv.mono fun _ q => q ▸ fb, fun d f => .inl (foot d f), ht⟩⟩
  · by_cases w : y = a
    · subst w; rw [upd_same] at q; cases q; exact .inr r
    · rw [upd_ne _ _ w] at q
      refine .inl ⟨q, fun z => ?_, fun d hd' z => ?_⟩
      · subst z
        rcases hb with hb | hb
        · exact w hb
        · have := R.dict_none e hb; rw [q] at this; cases this
      · subst z
        rcases hb with hb | hb
        · subst hb; have := R.dict_none q hd'; rw [e] at this; cases this
        · exact w (R.dinj _ _ _ _ _ q e hd' hb)
  · have old : ∀ y o, upd σ a ao' y = some o → o.dict? = some d → ∃ o', σ y = some o' ∧ o'.dict? = some d := fun y o q z => by
      by_cases w : y = a
      · subst w; rw [upd_same] at q; cases q; exact ⟨_, e, hd ▸ z⟩
      · rw [upd_ne _ _ w] at q; exact ⟨o, q, z⟩
    obtain ⟨o', a1, a2⟩ := old y o e1 d1
    obtain ⟨p', b1, b2⟩ := old z p e2 d2
    exact R.dinj y z o' p' d a1 b1 a2 b2
theorem Rel.write {fm : Fm} {loc : Loc} (R : Rel c fm loc σ s) {h' : Heap} {a b : Addr} {ao ao' : AO} (e : σ a = some ao) (hb : b = a ∨ ao.dict? = some b) (t : Nat) (x : Ex (· = b) s.heap h') (r : ORel h' a ao') (hd : ao'.dict? = ao.dict?) (ht : s.toks ≤ t := by first | exact Nat.le_refl _ | exact Nat.le_succ _ | exact Nat.le_add_right _ _ | assumption | omega) :
    Rel c fm loc (upd σ a ao') { s with heap := h', toks := t } ∧ Step fm σ s (upd σ a ao') { s with heap := h', toks := t } :=
  let ⟨p, q⟩ := R.cr.write e hb t x r hd ht; ⟨R.back p q, q.step⟩

inductive SetL (x : PySem.Str) (v : PV) : Loc → Loc → Prop
  | nil : SetL x v [] [(x, v)]
  | here {u : PV} {r : Loc} (h : ∀ p ∈ r, p.1 ≠ x) : SetL x v ((x, u) :: r) ((x, v) :: r)
  | next {y : PySem.Str} {u : PV} {r r' : Loc} : y ≠ x → SetL x v r r' → SetL x v ((y, u) :: r) ((y, u) :: r')
theorem SetL.mem {x : PySem.Str} {v : PV} : ∀ {l l' : Loc}, SetL x v l l' → ∀ p ∈ l', p = (x, v) ∨ (p ∈ l ∧ p.1 ≠ x)
  | _, _, .nil, p, h => .inl (List.mem_singleton.mp h)
  | _, _, .here k, p, h => by
    rcases List.mem_cons.mp h with h | h
    · exact .inl h
    · exact .inr ⟨.tail _ h, k p h⟩
  | _, _, .next n r, p, h => by
    rcases List.mem_cons.mp h with h | h
    · subst h; exact .inr ⟨.head _, n⟩
    · rcases r.mem p h with h | ⟨h, k⟩
      · exact .inl h
      · exact .inr ⟨.tail _ h, k⟩

theorem Rel.store {fm : Fm} {loc loc' : Loc} {x : PySem.Str} {p : PV} {v : Value} {h' : Heap} {m : PySem.Str → Option Value} (R : Rel c fm loc σ s) (hk : fm.env.kindOf x = some .local) (hs : SetL x p loc loc') (hv : VR s.heap p v)
    (hm : s.heap.Ns fm.L m) (hn : h'.Ns fm.L (fun y => if y = x then some v else m y)) (hb : Heap.SameBut fm.L s.heap h') (t : Nat) (ht : s.toks ≤ t := by first | exact Nat.le_refl _ | exact Nat.le_succ _ | exact Nat.le_add_right _ _ | assumption | omega) :
    Rel c fm loc' σ { s with heap := h', toks := t } ∧ Step fm σ s σ { s with heap := h', toks := t } := by
  obtain ⟨m₀, hm₀, hl⟩ := R.ns
  have em := hm₀.agree hm
  obtain ⟨o, es, ep, ho, hd, _⟩ := hm
  obtain ⟨o', es', ep', ho', hd', r'⟩ := hn
  have X : Ex (· = fm.L) s.heap h' := by
    refine ⟨fun b o' e' n => (hb.2 b n).trans e', fun b o1 e1 n' => ?_, fun b o1 e1 t => ?_, Nat.le_of_eq hb.1.symm⟩
    · by_cases q : b = fm.L
      · subst q; exact ⟨_, ho', _, _, hd'⟩
      · exact ⟨o1, (hb.2 b q).trans e1, n'⟩
    · by_cases q : b = fm.L
      · subst q; rw [ho] at e1; cases e1
        obtain ⟨_, vs, n, t⟩ := t
        rw [hd] at t; cases t
      · exact (hb.2 b q).trans e1
  have mv := X.mv
  refine ⟨⟨R.cr.move (s' := { s with heap := h', toks := t }) X (fun a q => q ▸ R.lnew) rfl rfl (fun a o e => .inl ⟨e, fun q => R.lfoot (q ▸ .inl ⟨o, e⟩), fun d hd q => R.lfoot (q ▸ .inr ⟨a, o, e, hd⟩)⟩) R.cr.new R.cr.dinj,
    ⟨_, ⟨o', es', ep', ho', hd', r'⟩, fun q hq => ?_⟩, R.lnew, R.lfoot, Nat.le_trans R.tk ht⟩, ⟨mv.mono fun _ q => .inr q, fun _ f => .inl f, ht⟩⟩
  rcases hs.mem q hq with rfl | ⟨hq, n⟩
  · exact ⟨hk, v, if_pos rfl, hv.mv mv⟩
  · obtain ⟨a1, u, a2, a3⟩ := hl q hq
    exact ⟨a1, u, by show (if q.1 = x then some v else m q.1) = some u; rw [if_neg n, ← em]; exact a2, a3.mv mv⟩
end
end Mine
end A3
section A4
open PySem PySem.W PySem.Calls PyProof.Rows
set_option maxRecDepth 10000
set_option linter.unusedVariables false
namespace Mine

structure Flies (z : Bool) (F : Value → Prop) (h0 h : Heap) (σ : Sto) (a C dx : Addr) (fs : List (PySem.Str × PV)) : Prop where
  new : h0.objs.size ≤ a
  newd : h0.objs.size ≤ dx
  off : ¬ CFoot σ a
  offd : ¬ CFoot σ dx
  obj : ∃ vs sl, h.get? a = some ⟨.ref C, some dx, .fields vs, sl⟩ ∧ 6 ≤ vs.size ∧
    ((z = true ∧ vs[1]? = some .none) ∨ ∃ T oT ts fl, vs[1]? = some (.ref T) ∧ h0.objs.size ≤ T ∧ T ≠ a ∧ ¬ CFoot σ T ∧ h.get? T = some oT ∧ oT.data = .fields ts ∧ ts[3]? = some fl ∧ F fl)
  dict : ∃ es n sl, h.get? dx = some (dctOf es n sl) ∧ FsR h fs es

noncomputable abbrev CXPr := Addr → List (PySem.Str × PV) → Sto → Prop
noncomputable abbrev XPr := Addr → List (PySem.Str × PV) → Loc → Sto → Prop
noncomputable abbrev NPr := PV → Sto → Prop

inductive CNP (c : Cx) (A : Around) (n : Nat) (σ : Sto) (s : Shared) (Φ : NPr) (v : Value) (s' : Shared) : Prop
  | mk (p : PV) (σ' : Sto) (h : Φ p σ') (r : VR s'.heap p v) (R : CRel c A n σ' s') (S : CStep σ s σ' s')
inductive CXP (c : Cx) (A : Around) (n : Nat) (σ : Sto) (s : Shared) (X : CXPr) (e : Value) (s' : Shared) : Prop
  | mk (a C dx : Addr) (fs : List (PySem.Str × PV)) (σ' : Sto) (q : e = .ref a) (h : X C fs σ') (R : CRel c A n σ' s') (S : CStep σ s σ' s') (F : Flies false (· = .none) s.heap s'.heap σ' a C dx fs)
inductive NP (c : Cx) (fm : Fm) (loc : Loc) (σ : Sto) (s : Shared) (Φ : NPr) (v : Value) (s' : Shared) : Prop
  | mk (p : PV) (σ' : Sto) (h : Φ p σ') (r : VR s'.heap p v) (R : Rel c fm loc σ' s') (S : Step fm σ s σ' s')
inductive XP (c : Cx) (fm : Fm) (σ : Sto) (s : Shared) (X : XPr) (e : Value) (s' : Shared) : Prop
  | mk (a C dx : Addr) (fs : List (PySem.Str × PV)) (loc : Loc) (σ' : Sto) (q : e = .ref a) (h : X C fs loc σ') (R : Rel c fm loc σ' s') (S : Step fm σ s σ' s') (F : Flies true (fun fl => fl = .none ∨ fl = rawInt fm.L) s.heap s'.heap σ' a C dx fs)

inductive UpR (Φ : NPr) (p : PV) (τ : Sto) : Prop
  | mk (τ' : Sto) (s : Sub τ' τ) (h : Φ p τ')
inductive UpC (X : CXPr) (C : Addr) (fs : List (PySem.Str × PV)) (τ : Sto) : Prop
  | mk (τ' : Sto) (s : Sub τ' τ) (h : X C fs τ')
noncomputable abbrev UpN (Φ : NPr) : Loc → Sto → Prop := fun _ τ => UpR Φ (.k .none) τ
noncomputable abbrev UpX (X : CXPr) : XPr := fun C fs _ τ => UpC X C fs τ
noncomputable abbrev atL (X : XPr) (loc : Loc) : CXPr := fun C fs τ => X C fs loc τ
theorem Flies.back {z : Bool} {F : Value → Prop} {S : Addr → Prop} {h0 h1 h : Heap} {σ : Sto} {a C dx : Addr} {fs : List (PySem.Str × PV)} (x : Flies z F h1 h σ a C dx fs) (m : Mv S h0 h1) : Flies z F h0 h σ a C dx fs := by
  obtain ⟨a1, a2, a3, a4, ⟨vs, sl, b1, b2, b3⟩, a6⟩ := x
  refine ⟨none_of_none m a1, none_of_none m a2, a3, a4, ⟨vs, sl, b1, b2, ?_⟩, a6⟩
  rcases b3 with b3 | ⟨T, oT, ts, fl, c1, c2, c3⟩
  · exact .inl b3
  · exact .inr ⟨T, oT, ts, fl, c1, none_of_none m c2, c3⟩
theorem Flies.mono {z y : Bool} {F G : Value → Prop} {h0 h : Heap} {σ : Sto} {a C dx : Addr} {fs : List (PySem.Str × PV)} (x : Flies z F h0 h σ a C dx fs) (k : ∀ v, F v → G v) (hz : z = true → y = true) : Flies y G h0 h σ a C dx fs := by
  obtain ⟨a1, a2, a3, a4, ⟨vs, sl, b1, b2, b3⟩, a6⟩ := x
  refine ⟨a1, a2, a3, a4, ⟨vs, sl, b1, b2, ?_⟩, a6⟩
  rcases b3 with b3 | ⟨T, oT, ts, fl, c1, c2, c3, c4, c5, c6, c7, c8⟩
  · exact .inl ⟨hz b3.1, b3.2⟩
  · exact .inr ⟨T, oT, ts, fl, c1, c2, c3, c4, c5, c6, c7, k _ c8⟩

section
variable {c : Cx} {A : Around} {n : Nat} {fm : Fm} {loc : Loc} {σ σ1 : Sto} {s s1 : Shared} {v : Value} {s' : Shared}
theorem CNP.trans {Φ : NPr} (x : CNP c A n σ1 s1 Φ v s') (S : CStep σ s σ1 s1) : CNP c A n σ s Φ v s' :=
  let ⟨p, σ', a, b, d, e⟩ := x; ⟨p, σ', a, b, d, S.trans e⟩
theorem CXP.trans {X : CXPr} (x : CXP c A n σ1 s1 X v s') (S : CStep σ s σ1 s1) : CXP c A n σ s X v s' :=
  let ⟨a, C, dx, fs, σ', e, b, d, g, f⟩ := x; ⟨a, C, dx, fs, σ', e, b, d, S.trans g, f.back S.mv⟩
theorem NP.trans {Φ : NPr} (x : NP c fm loc σ1 s1 Φ v s') (S : Step fm σ s σ1 s1) : NP c fm loc σ s Φ v s' :=
  let ⟨p, σ', a, b, d, e⟩ := x; ⟨p, σ', a, b, d, S.trans e⟩
theorem XP.trans {X : XPr} (x : XP c fm σ1 s1 X v s') (S : Step fm σ s σ1 s1) : XP c fm σ s X v s' :=
  let ⟨a, C, dx, fs, loc, σ', e, b, d, g, f⟩ := x; ⟨a, C, dx, fs, loc, σ', e, b, d, S.trans g, f.back S.mv⟩
theorem CNP.lift {Φ : NPr} (R : Rel c fm loc σ s) (x : CNP c fm.A fm.n σ s Φ v s') : NP c fm loc σ s Φ v s' :=
  let ⟨p, σ', a, b, d, e⟩ := x; ⟨p, σ', a, b, R.back d e, e.step⟩
theorem CXP.lift {X : XPr} (R : Rel c fm loc σ s) (x : CXP c fm.A fm.n σ s (fun C fs σ' => X C fs loc σ') v s') : XP c fm σ s X v s' :=
  let ⟨a, C, dx, fs, σ', e, b, d, g, f⟩ := x; ⟨a, C, dx, fs, loc, σ', e, b, R.back d g, g.step, f.mono (fun _ => .inl) (fun _ => rfl)⟩
theorem CNP.mono {Φ Ψ : NPr} (x : CNP c A n σ s Φ v s') (k : ∀ p τ, Φ p τ → Ψ p τ) : CNP c A n σ s Ψ v s' :=
  let ⟨p, σ', a, b, d, e⟩ := x; ⟨p, σ', k _ _ a, b, d, e⟩
theorem NP.mono {Φ Ψ : NPr} (x : NP c fm loc σ s Φ v s') (k : ∀ p τ, Φ p τ → Ψ p τ) : NP c fm loc σ s Ψ v s' :=
  let ⟨p, σ', a, b, d, e⟩ := x; ⟨p, σ', k _ _ a, b, d, e⟩
end

structure Op1 (c : Cx) (t : Value → Sem Value) (a : PV) (σ : Sto) (Φ : NPr) : Prop where
  run : ∀ A n s v, CRel c A n σ s → VR s.heap a v → wpAny c.M A (t v) (CNP c A n σ s Φ) (fun _ _ => False) s
structure Op2 (c : Cx) (t : Value → Value → Sem Value) (a b : PV) (σ : Sto) (Φ : NPr) : Prop where
  run : ∀ A n s v u, CRel c A n σ s → VR s.heap a v → VR s.heap b u → wpAny c.M A (t v u) (CNP c A n σ s Φ) (fun _ _ => False) s
structure Cmp (c : Cx) (op : CmpOp) (a b : PV) (σ : Sto) (Φ : Bool → Prop) : Prop where
  run : ∀ A n s v u, CRel c A n σ s → VR s.heap a v → VR s.heap b u → wpAny c.M A (compareOp op v u) (fun r s' => ∃ b, r = .bool b ∧ Φ b ∧ CRel c A n σ s' ∧ CStep σ s σ s') (fun _ _ => False) s
structure Call (c : Cx) (n : Nat) (f : Value) (args : List PV) (σ : Sto) (Φ : NPr) (X : CXPr) : Prop where
  run : ∀ A s vs, A.handled = none → CRel c A n σ s → VRs s.heap args vs → wpAny c.M A (call f vs) (CNP c A n σ s Φ) (CXP c A n σ s X) s
structure CallC (c : Cx) (n : Nat) (f : Value) (args : List PV) (σ : Sto) (Φ : NPr) (X : CXPr) : Prop where
  run : ∀ A s vs, A.handled = none → CRel c A n σ s → VRs s.heap args vs → codeAny c.M A (.call f ⟨vs, []⟩) (fun r s' => match r with | .ok (.ret v) => CNP c A n σ s Φ v s' | .ok _ => False | .error e => CXP c A n σ s X e s') s
theorem CallC.call {c : Cx} {n : Nat} {f : Value} {args : List PV} {σ : Sto} {Φ : NPr} {X : CXPr} (h : CallC c n f args σ Φ X) : Call c n f args σ Φ X := ⟨fun A s vs hh R hv => wpAny_call (h.run A s vs hh R hv)⟩
theorem CXP.mono {c : Cx} {A : Around} {n : Nat} {σ : Sto} {s : Shared} {X Y : CXPr} {e : Value} {s' : Shared} (x : CXP c A n σ s X e s') (k : ∀ C fs τ, X C fs τ → Y C fs τ) : CXP c A n σ s Y e s' :=
  let ⟨a, C, dx, fs, σ', e, b, d, g, f⟩ := x; ⟨a, C, dx, fs, σ', e, k _ _ _ b, d, g, f⟩
theorem XP.mono {c : Cx} {fm : Fm} {σ : Sto} {s : Shared} {X Y : XPr} {e : Value} {s' : Shared} (x : XP c fm σ s X e s') (k : ∀ C fs l τ, X C fs l τ → Y C fs l τ) : XP c fm σ s Y e s' :=
  let ⟨a, C, dx, fs, l, σ', e, b, d, g, f⟩ := x; ⟨a, C, dx, fs, l, σ', e, k _ _ _ _ b, d, g, f⟩
theorem Call.mono {c : Cx} {n : Nat} {f : Value} {args : List PV} {σ : Sto} {Φ Ψ : NPr} {X Y : CXPr} (h : Call c n f args σ Φ X) (k : ∀ p τ, Φ p τ → Ψ p τ) (kx : ∀ C fs τ, X C fs τ → Y C fs τ) : Call c n f args σ Ψ Y :=
  ⟨fun A s vs hh R hv => wpAny_mono (h.run A s vs hh R hv) (fun _ _ x => x.mono k) fun _ _ x => x.mono kx⟩
theorem CallC.mono {c : Cx} {n : Nat} {f : Value} {args : List PV} {σ : Sto} {Φ Ψ : NPr} {X Y : CXPr} (h : CallC c n f args σ Φ X) (k : ∀ p τ, Φ p τ → Ψ p τ) (kx : ∀ C fs τ, X C fs τ → Y C fs τ) : CallC c n f args σ Ψ Y :=
  ⟨fun A s vs hh R hv => codeAny_mono (h.run A s vs hh R hv) fun r s' x => by
    rcases r with e | (v | _ | _ | _) <;> first | exact x.elim | exact CXP.mono x kx | exact CNP.mono x k⟩

structure E (c : Cx) (fm : Fm) (e : Expr) (loc : Loc) (σ : Sto) (Φ : NPr) (X : XPr) : Prop where
  run : ∀ s, Rel c fm loc σ s → wpAny c.M fm.A (eval e fm.env) (NP c fm loc σ s Φ) (XP c fm σ s X) s

inductive BP (c : Cx) (fm : Fm) (loc : Loc) (σ : Sto) (s : Shared) (Φ : Bool → Sto → Prop) (b : Bool) (s' : Shared) : Prop
  | mk (σ' : Sto) (h : Φ b σ') (R : Rel c fm loc σ' s') (S : Step fm σ s σ' s')
structure B (c : Cx) (fm : Fm) (e : Expr) (loc : Loc) (σ : Sto) (Φ : Bool → Sto → Prop) (X : XPr) : Prop where
  run : ∀ s, Rel c fm loc σ s → wpAny c.M fm.A (isTrue e fm.env (eval e fm.env)) (BP c fm loc σ s Φ) (XP c fm σ s X) s
theorem BP.trans {c : Cx} {fm : Fm} {loc : Loc} {σ σ1 : Sto} {s s1 s' : Shared} {b : Bool} {Φ : Bool → Sto → Prop} (x : BP c fm loc σ1 s1 Φ b s') (S : Step fm σ s σ1 s1) : BP c fm loc σ s Φ b s' :=
  let ⟨σ', a, d, e⟩ := x; ⟨σ', a, d, S.trans e⟩

noncomputable def Es (c : Cx) (fm : Fm) (loc : Loc) (X : XPr) : List Expr → Sto → (List PV → Sto → Prop) → Prop
  | [], σ, Φ => Φ [] σ
  | e :: r, σ, Φ => E c fm e loc σ (fun a σ1 => Es c fm loc X r σ1 fun as σ2 => Φ (a :: as) σ2) X

section
variable {c : Cx} {fm : Fm} {loc : Loc} {σ : Sto} {Φ : NPr} {X : XPr}

theorem E.mono {e : Expr} {Ψ : NPr} (h : E c fm e loc σ Φ X) (k : ∀ p τ, Φ p τ → Ψ p τ) : E c fm e loc σ Ψ X :=
  ⟨fun s R => wpAny_mono (h.run s R) (fun _ _ x => x.mono k) fun _ _ x => x⟩

noncomputable def starless : Expr → Bool
  | .Starred .. => false
  | _ => true
theorem starEach_cons {e : Expr} {r : List Expr} {env : Env} (h : starless e = true) : starEach (e :: r) env = (false, eval e env) :: starEach r env := by
  cases e <;> first | rfl | cases h

inductive LP (c : Cx) (fm : Fm) (loc : Loc) (σ : Sto) (s : Shared) (Φ : List PV → Sto → Prop) (vs : List Value) (s' : Shared) : Prop
  | mk (ps : List PV) (σ' : Sto) (h : Φ ps σ') (r : VRs s'.heap ps vs) (R : Rel c fm loc σ' s') (S : Step fm σ s σ' s')

theorem es_run {pos : Pos} : ∀ {es : List Expr} {σ : Sto} {Φ : List PV → Sto → Prop} {s : Shared}, es.all starless = true → Es c fm loc X es σ Φ → Rel c fm loc σ s →
    wpAny c.M fm.A (spliced (backTo pos (starEach es fm.env))) (LP c fm loc σ s Φ) (XP c fm σ s X) s
  | [], σ, Φ, s, _, h, R => wpAny_pure ⟨[], σ, h, .nil, R, .refl ..⟩
  | e :: r, σ, Φ, s, a, h, R => by
    obtain ⟨a1, a2⟩ := Bool.and_eq_true_iff.mp (List.all_cons ▸ a)
    rw [starEach_cons a1]
    refine wpAny_bind (wpAny_mono (E.run h s R) (fun v s1 x => ?_) fun _ _ x => x)
    obtain ⟨p, σ1, h1, v1, R1, S1⟩ := x
    refine wpAny_bind (wpAny_pure (a := [v]) (wpAny_bind (wpAny_holding ?_)))
    refine wpAny_mono (es_run a2 h1 R1) (fun vs s2 x => ?_) fun _ _ x => x.trans S1
    obtain ⟨ps, σ2, h2, v2, R2, S2⟩ := x
    exact wpAny_pure ⟨p :: ps, σ2, h2, .cons (v1.mv S2.mv) v2, R2, S1.trans S2⟩

theorem ev_int {i : Int} {k : Nat} {pos : Pos} (h : Φ (.int i) σ) : E c fm (.Constant (.int i) k pos) loc σ Φ X :=
  ⟨fun s R => wpAny_Constant_int ⟨_, _, h, .int _ _, R.toks _, Step.toks ..⟩⟩
theorem ev_str {i : PySem.Str} {k : Nat} {pos : Pos} (h : Φ (.str i) σ) : E c fm (.Constant (.str i) k pos) loc σ Φ X :=
  ⟨fun s R => wpAny_Constant_str ⟨_, _, h, .str _ _, R.toks _, Step.toks ..⟩⟩
theorem ev_none {k : Nat} {pos : Pos} (h : Φ (.k .none) σ) : E c fm (.Constant .none k pos) loc σ Φ X :=
  ⟨fun s R => wpAny_Constant_none ⟨_, _, h, .k _, R, Step.refl ..⟩⟩
theorem ev_bool {b : Bool} {k : Nat} {pos : Pos} (h : Φ (.k (.bool b)) σ) : E c fm (.Constant (.bool b) k pos) loc σ Φ X :=
  ⟨fun s R => wpAny_Constant_bool ⟨_, _, h, .k _, R, Step.refl ..⟩⟩

theorem ev_name {x : PySem.Str} {p : PV} {pos : Pos} (hm : (x, p) ∈ loc) (h : Φ p σ) (hk : fm.env.scope.kind = .function := by rfl) (hd : (x == ("__debug__" : PySem.Str)) = false := by decide +kernel) :
    E c fm (.Name x pos) loc σ Φ X := ⟨fun s R => by
  obtain ⟨m, hn, hl⟩ := R.ns
  obtain ⟨a, v, b, d⟩ := hl _ hm
  exact wpAny_Name (wpAny_loadName_local hk a hn b ⟨p, σ, h, d, R, .refl ..⟩) hd⟩

theorem ev_binop {l r : Expr} {op : Operator} {pos : Pos} (h : E c fm l loc σ (fun a σ1 => E c fm r loc σ1 (fun b σ2 => Op2 c (binaryOp op) a b σ2 Φ) X) X) : E c fm (.BinOp l op r pos) loc σ Φ X := ⟨fun s R => by
  refine wpAny_BinOp (wpAny_mono (h.run s R) (fun v s1 x => ?_) fun _ _ x => x)
  obtain ⟨a, σ1, h1, va, R1, S1⟩ := x
  refine wpAny_mono (h1.run s1 R1) (fun u s2 x => ?_) fun _ _ x => x.trans S1
  obtain ⟨b, σ2, h2, vb, R2, S2⟩ := x
  exact wpAny_mono (h2.run _ _ _ _ _ R2.cr (va.mv S2.mv) vb) (fun _ _ x => ((x.lift R2).trans S2).trans S1) fun _ _ x => x.elim⟩
end
end Mine
end A4
section A5
open PySem PySem.W PySem.Calls PyProof.Rows
set_option maxRecDepth 10000
set_option linter.unusedVariables false
namespace Mine

structure AttrIn (K : Frag) (C : Addr) (name : PySem.Str) : Prop where
  get : plainGet K C name = true
  dict : hasDictIn K C = true
  none : findIn K (.ref C) name = some none
structure MethIn (K : Frag) (C : Addr) (name : PySem.Str) (f : Addr) : Prop where
  get : plainGet K C name = true
  find : findIn K (.ref C) name = some (some (.ref f))
  fn : isFn K (.ref f) = true
  keep : keepIn K (.ref f) = true
theorem FsR.find {h : Heap} {x : PySem.Str} : ∀ {fs : List (PySem.Str × PV)} {es : List DictEntry} {p : PV}, FsR h fs es → fs.lookup x = some p → ∃ v, getL x es = some (some v) ∧ VR h p v
  | _, _, _, .cons (x := y) (v := v) (t := t) (hs := hs) (es := es) a r, e => by
    rw [List.lookup_cons] at e
    by_cases q : x = y
    · subst q
      rw [beq_self_eq_true] at e
      cases e
      refine ⟨v, ?_, a⟩
      unfold getL
      rw [List.find?_cons_of_pos (by show (x == x) = true; exact beq_self_eq_true x)]
    · have q1 : (x == y) = false := beq_eq_false_iff_ne.mpr q
      have q2 : (y == x) = false := beq_eq_false_iff_ne.mpr (Ne.symm q)
      rw [q1] at e
      obtain ⟨u, b, d⟩ := r.find e
      refine ⟨u, ?_, d⟩
      unfold getL at b ⊢
      rw [List.find?_cons_of_neg (by show ¬ (y == x) = true; rw [q2]; exact Bool.false_ne_true)]
      split at b
      · exact b
      · split at b <;> cases b
theorem FsR.noref {h : Heap} : ∀ {fs : List (PySem.Str × PV)} {es : List DictEntry}, FsR h fs es → es.any (·.refKey) = false
  | _, _, .nil => rfl
  | _, _, .cons _ r => by rw [List.any_cons, r.noref]; rfl
theorem FsR.miss {h : Heap} {x : PySem.Str} : ∀ {fs : List (PySem.Str × PV)} {es : List DictEntry}, FsR h fs es → fs.lookup x = none → es.find? (·.key.isStr x) = none
  | _, _, .nil, _ => rfl
  | _, _, .cons (x := y) a r, e => by
    rw [List.lookup_cons] at e
    by_cases q : x = y
    · subst q; rw [beq_self_eq_true] at e; cases e
    · rw [beq_eq_false_iff_ne.mpr q] at e
      rw [List.find?_cons_of_neg (by show ¬ (y == x) = true; rw [beq_eq_false_iff_ne.mpr (Ne.symm q)]; exact Bool.false_ne_true)]
      exact r.miss e
theorem FsR.getL_none {h : Heap} {x : PySem.Str} {fs : List (PySem.Str × PV)} {es : List DictEntry} (r : FsR h fs es) (e : fs.lookup x = none) : getL x es = some none := by
  unfold getL
  rw [r.miss e, r.noref]; rfl

noncomputable def PV.handed : PV → Bool
  | .k v => handedIn v
  | _ => true
theorem VR.handed {h : Heap} {p : PV} {v : Value} (x : VR h p v) (e : p.handed = true) : handedIn v = true := by
  cases x <;> first | exact e | rfl

section
variable {c : Cx} {fm : Fm} {loc : Loc} {σ : Sto} {Φ : NPr} {X : XPr}

theorem ev_glob {x : PySem.Str} {v : Value} {pos : Pos} (hm : nsIn c.K mainGlobals x = some (some v)) (h : Φ (.k v) σ) (hk : fm.env.scope.kind = .function := by rfl) (hx : fm.env.kindOf x = some .globalImplicit := by rfl)
    (hg : fm.env.globals = mainGlobals := by rfl) (hd : (x == ("__debug__" : PySem.Str)) = false := by decide +kernel) : E c fm (.Name x pos) loc σ Φ X := ⟨fun s R => by
  have T := R.cr.cok.T
  exact Calls.Name_function_global hk hx (Calls.loadGlobal_global (by rw [hg]; exact T.g.keeps R.cr.base) (mg_of R.cr.cok.X T.g hm) ⟨_, _, h, .k _, R, .refl ..⟩) hd⟩
theorem ev_builtin {x : PySem.Str} {v : Value} {pos : Pos} (hm : nsIn c.K mainGlobals x = some none) (hv : bootBuiltins x = some v) (h : Φ (.k v) σ) (hn : x ≠ "__name__" := by decide +kernel) (hk : fm.env.scope.kind = .function := by rfl)
    (hx : fm.env.kindOf x = some .globalImplicit := by rfl) (hg : fm.env.globals = mainGlobals := by rfl) (hb : fm.env.builtins = builtinsNs := by rfl) (hd : (x == ("__debug__" : PySem.Str)) = false := by decide +kernel) :
    E c fm (.Name x pos) loc σ Φ X := ⟨fun s R => by
  have T := R.cr.cok.T
  exact Calls.Name_function_global hk hx (Calls.loadGlobal_builtin (by rw [hg]; exact T.g.keeps R.cr.base) (mg_none_of R.cr.cok.X T.g hm) (by rw [hb]; exact T.b.keeps R.cr.base) ((T.builtins x hn).trans hv) ⟨_, _, h, .k _, R, .refl ..⟩) hd⟩

theorem CRel.cellAt {A : Around} {n : Nat} {s : Shared} (R : CRel c A n σ s) {a : Addr} {p : PV} (e : σ a = some (.cell (some p))) : ∃ v, s.heap.IsCell a (some v) ∧ VR s.heap p v := by
  obtain ⟨v, q, r⟩ := R.sto a _ e
  cases v with
  | none => exact r.elim
  | some v => exact ⟨v, q, r⟩
theorem ev_cell {x : PySem.Str} {p : PV} {a : Addr} {pos : Pos} (hc : fm.env.cells.lookup x = some a) (hm : σ a = some (.cell (some p))) (h : Φ p σ) (hx : fm.env.kindOf x = some .cell := by rfl) (hk : fm.env.scope.kind = .function := by rfl)
    (hd : (x == ("__debug__" : PySem.Str)) = false := by decide +kernel) : E c fm (.Name x pos) loc σ Φ X := ⟨fun s R => by
  obtain ⟨v, e, r⟩ := R.cr.cellAt hm
  exact wpAny_Name (wpAny_loadName_cell hk hx hc e ⟨_, _, h, r, R, .refl ..⟩) hd⟩
theorem ev_free {x : PySem.Str} {p : PV} {a : Addr} {pos : Pos} (hc : fm.env.cells.lookup x = some a) (hm : σ a = some (.cell (some p))) (h : Φ p σ) (hx : fm.env.kindOf x = some .free := by rfl) (hk : fm.env.scope.kind = .function := by rfl)
    (hn : (x == ("__classdict__" : PySem.Str)) = false := by decide +kernel) (hd : (x == ("__debug__" : PySem.Str)) = false := by decide +kernel) : E c fm (.Name x pos) loc σ Φ X := ⟨fun s R => by
  obtain ⟨v, e, r⟩ := R.cr.cellAt hm
  exact wpAny_Name (wpAny_loadName_free hk hx hc e ⟨_, _, h, r, R, .refl ..⟩ hn) hd⟩

theorem ev_unop {x : Expr} {op : UnaryOp} {pos : Pos} (h : E c fm x loc σ (fun a σ1 => Op1 c (unaryOp op) a σ1 Φ) X) : E c fm (.UnaryOp op x pos) loc σ Φ X := ⟨fun s R => by
  refine wpAny_UnaryOp (wpAny_mono (h.run s R) (fun v s1 x => ?_) fun _ _ x => x)
  obtain ⟨a, σ1, h1, va, R1, S1⟩ := x
  exact wpAny_mono (h1.run _ _ _ _ R1.cr va) (fun _ _ x => (x.lift R1).trans S1) fun _ _ x => x.elim⟩

theorem ev_cmp {l r : Expr} {op : CmpOp} {pos : Pos} (h : E c fm l loc σ (fun a σ1 => E c fm r loc σ1 (fun b σ2 => Cmp c op a b σ2 (fun x => Φ (.k (.bool x)) σ2)) X) X) (hm : behindInMarks op r = false := by with_unfolding_all rfl) :
    E c fm (.Compare l [op] [r] pos) loc σ Φ X := ⟨fun s R => by
  refine wpAny_Compare1 (wpAny_mono (h.run s R) (fun v s1 x => ?_) fun _ _ x => x) hm
  obtain ⟨a, σ1, h1, va, R1, S1⟩ := x
  refine wpAny_mono (h1.run s1 R1) (fun u s2 x => ?_) fun _ _ x => x.trans S1
  obtain ⟨b, σ2, h2, vb, R2, S2⟩ := x
  refine wpAny_mono (h2.run _ _ _ _ _ R2.cr (va.mv S2.mv) vb) (fun _ _ x => ?_) fun _ _ x => x.elim
  obtain ⟨y, rfl, hy, R3, S3⟩ := x
  exact ⟨_, _, hy, .k _, R2.back R3 S3, (S1.trans S2).trans S3.step⟩⟩
theorem b_cmp {l r : Expr} {op : CmpOp} {pos : Pos} {Ψ : Bool → Sto → Prop} (h : E c fm l loc σ (fun a σ1 => E c fm r loc σ1 (fun b σ2 => Cmp c op a b σ2 (fun x => Ψ x σ2)) X) X) (hm : behindInMarks op r = false := by with_unfolding_all rfl) :
    B c fm (.Compare l [op] [r] pos) loc σ Ψ X := ⟨fun s R => by
  refine wpAny_isTrue_Compare1 (wpAny_mono (h.run s R) (fun v s1 x => ?_) fun _ _ x => x) hm
  obtain ⟨a, σ1, h1, va, R1, S1⟩ := x
  refine wpAny_mono (h1.run s1 R1) (fun u s2 x => ?_) fun _ _ x => x.trans S1
  obtain ⟨b, σ2, h2, vb, R2, S2⟩ := x
  refine wpAny_mono (h2.run _ _ _ _ _ R2.cr (va.mv S2.mv) vb) (fun _ _ x => ?_) fun _ _ x => x.elim
  obtain ⟨y, rfl, hy, R3, S3⟩ := x
  exact wpAny_truthy_bool ⟨_, hy, R2.back R3 S3, (S1.trans S2).trans S3.step⟩⟩
inductive IsB (Ψ : Bool → Sto → Prop) (p : PV) (σ : Sto) : Prop
  | mk (b : Bool) (q : p = .k (.bool b)) (h : Ψ b σ)
theorem b_val {e : Expr} {Ψ : Bool → Sto → Prop} (h : E c fm e loc σ (IsB Ψ) X)
    (he : isTrue e fm.env (eval e fm.env) = (do let v ← eval e fm.env; standAt e.pos; holding [v] (truthy v)) := by rfl) : B c fm e loc σ Ψ X := ⟨fun s R => by
  refine wpAny_isTrue_value (wpAny_mono (h.run s R) (fun v s1 x => ?_) fun _ _ x => x) he
  obtain ⟨a, σ1, ⟨b, rfl, hb⟩, va, R1, S1⟩ := x
  cases va
  exact wpAny_truthy_bool ⟨_, hb, R1, S1⟩⟩
theorem b_not {x : Expr} {pos : Pos} {Ψ : Bool → Sto → Prop} (h : B c fm x loc σ (fun b => Ψ (!b)) X) : B c fm (.UnaryOp .Not x pos) loc σ Ψ X :=
  ⟨fun s R => wpAny_isTrue_Not (wpAny_mono (h.run s R) (fun _ _ ⟨τ, a, R, S⟩ => ⟨τ, a, R, S⟩) fun _ _ x => x)⟩

noncomputable def Bs (c : Cx) (fm : Fm) (loc : Loc) (X : XPr) (op : BoolOp) : List Expr → Sto → (Bool → Sto → Prop) → Prop
  | [], σ, Ψ => Ψ (op == .And) σ
  | e :: r, σ, Ψ => B c fm e loc σ (fun b σ1 => match op, b with | .And, false => Ψ false σ1 | .Or, true => Ψ true σ1 | _, _ => Bs c fm loc X op r σ1 Ψ) X
theorem bs_run {op : BoolOp} : ∀ {es : List Expr} {σ : Sto} {Ψ : Bool → Sto → Prop} {s : Shared}, Bs c fm loc X op es σ Ψ → Rel c fm loc σ s → wpAny c.M fm.A (allTrue op es fm.env) (BP c fm loc σ s Ψ) (XP c fm σ s X) s
  | [], σ, Ψ, s, h, R => by
    have h : Ψ (op == .And) σ := h
    cases op
    · exact wpAny_allTrue_And_nil ⟨_, h, R, .refl ..⟩
    · exact wpAny_allTrue_Or_nil ⟨_, h, R, .refl ..⟩
  | e :: r, σ, Ψ, s, h, R => by
    cases op
    · refine wpAny_allTrue_And_cons (wpAny_mono (B.run h s R) (fun b s1 x => ?_) fun _ _ x => x)
      obtain ⟨σ1, h1, R1, S1⟩ := x
      cases b
      · exact ⟨_, h1, R1, S1⟩
      · exact wpAny_mono (bs_run h1 R1) (fun _ _ x => x.trans S1) fun _ _ x => x.trans S1
    · refine wpAny_allTrue_Or_cons (wpAny_mono (B.run h s R) (fun b s1 x => ?_) fun _ _ x => x)
      obtain ⟨σ1, h1, R1, S1⟩ := x
      cases b
      · exact wpAny_mono (bs_run h1 R1) (fun _ _ x => x.trans S1) fun _ _ x => x.trans S1
      · exact ⟨_, h1, R1, S1⟩
theorem b_bool {op : BoolOp} {es : List Expr} {pos : Pos} {Ψ : Bool → Sto → Prop} (h : Bs c fm loc X op es σ Ψ) : B c fm (.BoolOp op es pos) loc σ Ψ X := ⟨fun s R => wpAny_isTrue_BoolOp (bs_run h R)⟩

theorem ev_one {op : BoolOp} {e : Expr} {pos : Pos} (h : E c fm e loc σ Φ X) : E c fm (.BoolOp op [e] pos) loc σ Φ X := ⟨fun s R => BoolOp_one (h.run s R)⟩
inductive AndP (c : Cx) (fm : Fm) (e : Expr) (loc : Loc) (Φ : NPr) (X : XPr) (p : PV) (σ : Sto) : Prop
  | mk (b : Bool) (q : p = .k (.bool b)) (h : match b with | true => E c fm e loc σ Φ X | false => Φ (.k (.bool false)) σ)
inductive OrP (c : Cx) (fm : Fm) (e : Expr) (loc : Loc) (Φ : NPr) (X : XPr) (p : PV) (σ : Sto) : Prop
  | mk (b : Bool) (q : p = .k (.bool b)) (h : match b with | false => E c fm e loc σ Φ X | true => Φ (.k (.bool true)) σ)
theorem ev_and {e1 e2 : Expr} {rest : List Expr} {pos : Pos} (h : E c fm e1 loc σ (AndP c fm (.BoolOp .And (e2 :: rest) pos) loc Φ X) X) :
    E c fm (.BoolOp .And (e1 :: e2 :: rest) pos) loc σ Φ X := ⟨fun s R => by
  refine BoolOp_and (wpAny_mono (h.run s R) (fun v s1 x => ?_) fun _ _ x => x)
  obtain ⟨a, σ1, ⟨b, rfl, hb⟩, va, R1, S1⟩ := x
  cases va
  refine wpAny_truthy_bool ?_
  cases b
  · exact ⟨_, _, hb, .k _, R1, S1⟩
  · exact wpAny_mono (E.run hb s1 R1) (fun _ _ x => x.trans S1) fun _ _ x => x.trans S1⟩
theorem ev_or {e1 e2 : Expr} {rest : List Expr} {pos : Pos} (h : E c fm e1 loc σ (OrP c fm (.BoolOp .Or (e2 :: rest) pos) loc Φ X) X) :
    E c fm (.BoolOp .Or (e1 :: e2 :: rest) pos) loc σ Φ X := ⟨fun s R => by
  refine BoolOp_or (wpAny_mono (h.run s R) (fun v s1 x => ?_) fun _ _ x => x)
  obtain ⟨a, σ1, ⟨b, rfl, hb⟩, va, R1, S1⟩ := x
  cases va
  refine wpAny_truthy_bool ?_
  cases b
  · exact wpAny_mono (E.run hb s1 R1) (fun _ _ x => x.trans S1) fun _ _ x => x.trans S1
  · exact ⟨_, _, hb, .k _, R1, S1⟩⟩
theorem ev_ifexp {t b o : Expr} {pos : Pos} (h : B c fm t loc σ (fun x σ1 => match x with | true => E c fm b loc σ1 Φ X | false => E c fm o loc σ1 Φ X) X) : E c fm (.IfExp t b o pos) loc σ Φ X := ⟨fun s R => by
  refine wpAny_IfExp (wpAny_mono (h.run s R) (fun v s1 x => ?_) fun _ _ x => x)
  obtain ⟨σ1, h1, R1, S1⟩ := x
  cases v
  · exact wpAny_mono (E.run h1 s1 R1) (fun _ _ x => x.trans S1) fun _ _ x => x.trans S1
  · exact wpAny_mono (E.run h1 s1 R1) (fun _ _ x => x.trans S1) fun _ _ x => x.trans S1⟩
end

theorem CRel.instAt {c : Cx} {A : Around} {n : Nat} {σ : Sto} {s : Shared} (R : CRel c A n σ s) {x C dx : Addr} {fs : List (PySem.Str × PV)} (e : σ x = some (.inst C dx fs)) :
    ∃ es k sl, InstAt s.heap x (instObj C dx) C (some (dctOf es k sl)) ∧ FsR s.heap fs es := by
  obtain ⟨a, es, k, sl, b, f⟩ := R.sto x _ e
  exact ⟨es, k, sl, ⟨a, rfl, rfl, b⟩, f⟩
theorem CRel.excAt {c : Cx} {A : Around} {n : Nat} {σ : Sto} {s : Shared} (R : CRel c A n σ s) {x C dx : Addr} {fresh : Bool} {fs : List (PySem.Str × PV)} (e : σ x = some (.exc fresh C dx fs)) :
    ∃ ox es k sl, InstAt s.heap x ox C (some (dctOf es k sl)) ∧ FsR s.heap fs es := by
  obtain ⟨⟨vs, sv, a, _⟩, es, k, sl, b, f⟩ := R.sto x _ e
  exact ⟨_, es, k, sl, ⟨a, rfl, rfl, b⟩, f⟩

noncomputable def HasF (σ : Sto) (p : PV) (C : Addr) (fs : List (PySem.Str × PV)) : Prop := ∃ x dx, p = .k (.ref x) ∧ (σ x = some (.inst C dx fs) ∨ ∃ fresh, σ x = some (.exc fresh C dx fs))

section
variable {c : Cx} {fm : Fm} {loc : Loc} {σ : Sto} {Φ : NPr} {X : XPr}
inductive AttrP (c : Cx) (attr : PySem.Str) (Φ : NPr) (p : PV) (σ1 : Sto) : Prop
  | mk (C : Addr) (fs : List (PySem.Str × PV)) (q : PV) (f : HasF σ1 p C fs) (K : AttrIn c.K C attr) (l : fs.lookup attr = some q) (hd : q.handed = true) (h : Φ q σ1)
theorem ev_attr {value : Expr} {attr : PySem.Str} {pos : Pos} (h : E c fm value loc σ (AttrP c attr Φ) X)
    (he : eval (.Attribute value attr pos) fm.env = (do let o ← eval value fm.env; standAt pos.atName; let r ← holding [o] (getAttr o attr true); letTemporaryGo value o r; pure r) := by with_unfolding_all rfl) :
    E c fm (.Attribute value attr pos) loc σ Φ X := ⟨fun s R => by
  refine Attribute_any_ (wpAny_mono (h.run s R) (fun v s1 x => ?_) fun _ _ x => x) he
  obtain ⟨p, σ1, ⟨C, fs, q, ⟨x, dx, rfl, hx⟩, K, hl, hh, hq⟩, va, R1, S1⟩ := x
  cases va
  have I : ∃ ox es k sl, InstAt s1.heap x ox C (some (dctOf es k sl)) ∧ FsR s1.heap fs es := by
    rcases hx with hx | ⟨fresh, hx⟩
    · obtain ⟨es, k, sl, I, f⟩ := R1.cr.instAt hx; exact ⟨_, es, k, sl, I, f⟩
    · exact R1.cr.excAt hx
  obtain ⟨ox, es, k, sl, I, f⟩ := I
  obtain ⟨u, e, r⟩ := f.find hl
  exact get_value R1.cr.kin I (plainGet_of K.get).1 (findObj_own K.dict K.none rfl (by exact e)) (r.handed hh) ⟨q, σ1, hq, r, R1.toks _, S1.trans (.toks ..)⟩⟩

theorem evalArgs_es {es : List Expr} {pos : Pos} {f : Value} {s : Shared} {Ψ : List PV → Sto → Prop} (hs : es.all starless = true) (h : Es c fm loc X es σ Ψ) (R : Rel c fm loc σ s) :
    wpAny c.M fm.A (evalArgs f true (backTo pos (starEach es fm.env)) []) (fun a s' => ∃ vs, a = ⟨vs, []⟩ ∧ LP c fm loc σ s Ψ vs s') (XP c fm σ s X) s := by
  cases es with
  | nil => exact evalArgs_nil3 ⟨[], rfl, [], σ, h, .nil, R, .refl ..⟩
  | cons e r =>
    have z := es_run (pos := pos) hs h R
    obtain ⟨a1, a2⟩ := Bool.and_eq_true_iff.mp (List.all_cons ▸ hs)
    rw [starEach_cons a1] at z ⊢
    exact evalArgs_plain (wpAny_mono z (fun vs s' x => ⟨vs, rfl, x⟩) fun _ _ x => x)
theorem backTo_any {pos : Pos} {env : Env} : ∀ {es : List Expr}, es.all starless = true → (backTo pos (starEach es env)).any (·.1) = false
  | [], _ => rfl
  | e :: r, h => by
    obtain ⟨a1, a2⟩ := Bool.and_eq_true_iff.mp (List.all_cons ▸ h)
    rw [starEach_cons a1]
    show (false || (backTo pos (starEach r env)).any (·.1)) = false
    rw [backTo_any a2]; rfl

noncomputable def Kept (c : Cx) (σ : Sto) (f : Value) : Prop := (∃ i, f = .builtin i) ∨ (∃ t, f = .type t) ∨ keepIn c.K f = true ∨ ∃ a fd, f = .ref a ∧ σ a = some (.lam fd)
theorem kB {i : String} : Kept c σ (.builtin i) := .inl ⟨_, rfl⟩
theorem kT {t : String} : Kept c σ (.type t) := .inr (.inl ⟨_, rfl⟩)
theorem kK {f : Value} (h : keepIn c.K f = true) : Kept c σ f := .inr (.inr (.inl h))
theorem kept_looks {A : Around} {n : Nat} {s : Shared} {f : Value} (k : Kept c σ f) (R : CRel c A n σ s) : ∃ k, (k = Keeper.frame ∨ k = Keeper.machine ∨ k = Keeper.boundFrame) ∧ Looks c.M s.heap (keeperOf f) k := by
  rcases k with ⟨i, rfl⟩ | ⟨t, rfl⟩ | k | ⟨a, fd, rfl, e⟩
  · exact ⟨.machine, .inr (.inl rfl), Looks.of_pure rfl⟩
  · exact ⟨.machine, .inr (.inl rfl), Looks.of_pure rfl⟩
  · exact keeps_K k _ R.kin
  · exact ⟨.frame, .inl rfl, (Looks.ld (part := none) (R.sto a _ e)).andThen .now⟩

inductive CallQ (c : Cx) (n : Nat) (f : Value) (ps : List PV) (Φ : NPr) (X : CXPr) (as : List PV) (σ : Sto) : Prop
  | mk (k : Kept c σ f) (h : Call c n f (ps ++ as) σ Φ X)
inductive CallP (c : Cx) (fm : Fm) (loc : Loc) (X : XPr) (args : List Expr) (Φ : NPr) (p : PV) (σ1 : Sto) : Prop
  | mk (v : Value) (q : p = .k v) (h : Es c fm loc X args σ1 (CallQ c fm.n v [] Φ (atL X loc)))
theorem callWith_es {es : List Expr} {pos : Pos} {f : Value} {first : List Value} {ps : List PV} {s : Shared} {σ₀ : Sto} {s₀ : Shared} (hs : es.all starless = true) (hh : fm.A.handled = none)
    (h : Es c fm loc X es σ (CallQ c fm.n f ps Φ (atL X loc))) (R : Rel c fm loc σ s) (hv : VRs s.heap ps first) (S : Step fm σ₀ s₀ σ s) :
    wpAny c.M fm.A (callWith pos f first (backTo pos (starEach es fm.env)) []) (NP c fm loc σ₀ s₀ Φ) (XP c fm σ₀ s₀ X) s := by
  refine callWith_of (P := fun h => ∃ k, (k = Keeper.frame ∨ k = Keeper.machine ∨ k = Keeper.boundFrame) ∧ Looks c.M h (keeperOf f) k) (by rw [backTo_any hs]; rfl) (fun h k => k) ?_
  refine wpAny_mono (evalArgs_es hs h R) (fun a s1 x => ?_) fun _ _ x => x.trans S
  obtain ⟨vs, rfl, as, σ1, ⟨hk, hc⟩, v1, R1, S1⟩ := x
  refine ⟨kept_looks hk R1.cr, ?_⟩
  exact wpAny_mono (hc.run _ _ _ hh R1.cr ((hv.mv S1.mv).append v1)) (fun _ _ x => ((x.lift R1).trans S1).trans S) fun _ _ x => ((CXP.lift R1 x).trans S1).trans S

theorem ev_call {f : Expr} {args : List Expr} {pos : Pos} (h : E c fm f loc σ (CallP c fm loc X args Φ) X)
    (hh : fm.A.handled = none) (hs : args.all starless = true := by rfl)
    (he : eval (.Call f args [] pos) fm.env = (do callWith pos (← eval f fm.env) [] (backTo pos (starEach args fm.env)) (backToKw pos (keywordEach [] fm.env))) := by with_unfolding_all rfl) :
    E c fm (.Call f args [] pos) loc σ Φ X := ⟨fun s R => by
  rw [he]
  refine wpAny_bind (wpAny_mono (h.run s R) (fun v s1 x => ?_) fun _ _ x => x)
  obtain ⟨p, σ1, ⟨v, rfl, h1⟩, va, R1, S1⟩ := x
  cases va
  exact callWith_es (ps := []) hs hh h1 R1 .nil S1⟩

inductive MethP (c : Cx) (fm : Fm) (loc : Loc) (X : XPr) (name : PySem.Str) (args : List Expr) (Φ : NPr) (p : PV) (σ1 : Sto) : Prop
  | mk (x C dx : Addr) (fs : List (PySem.Str × PV)) (f : Addr) (q : p = .k (.ref x)) (e : σ1 x = some (.inst C dx fs)) (K : MethIn c.K C name f) (no : fs.lookup name = none) (h : Es c fm loc X args σ1 (fun as σ2 => Call c fm.n (.ref f) (.k (.ref x) :: as) σ2 Φ (atL X loc)))
theorem few_form {pos : Pos} {args : List Expr} {env : Env} {n : Nat} (hs : args.all starless = true) (hlen : (decide (n < 30)) = true) : methodCallForm (n + ([] : List Keyword).length) (backTo pos (starEach args env)) (backToKw pos (keywordEach [] env)) = true := by
  refine Bool.and_eq_true_iff.mpr ⟨Bool.and_eq_true_iff.mpr ⟨List.all_eq_true.mpr fun y hy => ?_, rfl⟩, hlen⟩
  have := List.any_eq_false.mp (backTo_any (pos := pos) (env := env) hs) y hy
  simpa using this
theorem ev_meth {o : Expr} {name : PySem.Str} {apos pos : Pos} {args : List Expr}
    (h : E c fm o loc σ (MethP c fm loc X name args Φ) X)
    (hh : fm.A.handled = none) (hs : args.all starless = true := by rfl)
    (hbase : attributeBase o name fm.env (eval o fm.env) = eval o fm.env := by with_unfolding_all rfl) (hline : (apos.endLine == pos.line) = true := by rfl) (hlen : (decide (args.length < 30)) = true := by rfl) :
    E c fm (.Call (.Attribute o name apos) args [] pos) loc σ Φ X := ⟨fun s R => by
  show wpAny _ _ (do
    let ov ← attributeBase o name fm.env (eval o fm.env)
    standAt apos.atName
    methodCall o name apos pos fm.env ov (args.length + ([] : List Keyword).length) (backTo pos (starEach args fm.env)) (backToKw pos (keywordEach [] fm.env))) _ _ _
  rw [hbase]
  refine wpAny_bind (wpAny_mono (h.run s R) (fun v s1 y => ?_) fun _ _ x => x)
  obtain ⟨p, σ1, ⟨x, C, dx, fs, f, rfl, hx, K, hno, h1⟩, va, R1, S1⟩ := y
  cases va
  refine wpAny_bind (wpAny_standAt ?_)
  unfold methodCall
  rw [few_form hs hlen]
  obtain ⟨es, k, sl, I, fr⟩ := R1.cr.instAt hx
  refine wpAny_bind (wpAny_holding ?_)
  show wpAny _ _ (getMethod (.ref x) name _) _ _ _
  refine method_fn R1.cr.kin I (plainGet_of K.get).1 (plainGet_of K.get).2 K.find (beq_iff_eq.mp K.fn) (by show (getL name es).map _ = _; rw [fr.getL_none hno]; rfl) ?_
  have hp : methodCallPos true o fm.env apos pos = pure pos := by
    unfold methodCallPos
    rw [hline]; rfl
  dsimp only
  rw [hp]
  refine wpAny_bind (wpAny_pure ?_)
  have h2 : Es c fm loc X args σ1 (CallQ c fm.n (.ref f) [.k (.ref x)] Φ (atL X loc)) := by
    have mono : ∀ {es : List Expr} {τ : Sto} {P Q : List PV → Sto → Prop}, (∀ as τ, P as τ → Q as τ) → Es c fm loc X es τ P → Es c fm loc X es τ Q := by
      intro es
      induction es with
      | nil => intro τ P Q k h; exact k _ _ h
      | cons e r ih => intro τ P Q k h; exact E.mono h fun a τ h' => ih (fun as τ => k _ _) h'
    exact mono (fun as τ z => ⟨.inr (.inr (.inl K.keep)), z⟩) h1
  exact callWith_es (ps := [.k (.ref x)]) hs hh h2 R1 (.cons (.k _) .nil) S1⟩
end
end Mine
end A5
section A6
open PySem PySem.W PySem.Calls PyProof.Rows
set_option maxRecDepth 10000
set_option linter.unusedVariables false
namespace Mine

noncomputable def Off (h0 : Heap) (σ : Sto) (b : Addr) : Prop := h0.objs.size ≤ b ∧ ¬ CFoot σ b

theorem Mv.slots {S : Addr → Prop} {fs : List Addr} {h h' : Heap} (x : Heap.SlotsOnly fs h h') (hd : ∀ b ∈ fs, ∃ o, h.get? b = some o ∧ IsD o) : Mv S h h' := by
  have eq : ∀ b o, h.get? b = some o → Kp h' b o := fun b o e => by
    by_cases q : b ∈ fs
    · obtain ⟨o', e', es, n, d⟩ := hd b q
      rw [e] at e'; cases e'
      obtain ⟨sl, z⟩ := x.2.2 b o e
      exact .inr ⟨⟨es, n, d⟩, sl, z⟩
    · exact .inl ((x.2.1 b q).trans e)
  refine ⟨fun b o e _ => eq b o e, fun b o e n => ?_, fun b o e t => (eq b o e).of_ne fun es k q => ?_, Nat.le_of_eq x.1.symm⟩
  · obtain ⟨sl, z⟩ := x.2.2 b o e
    exact ⟨_, z, n⟩
  · obtain ⟨_, vs, m, t⟩ := t; rw [q] at t; cases t

theorem Mv.record {h : Heap} {a : Addr} {o : Obj} {vs : Array Value} (e : h.get? a = some o) (hd : o.data = .fields vs) (g : Array Value → Array Value) : Mv (· = a) h (h.update a (Obj.mapFields g)) := by
  have hd' := Obj.data_mapFields hd g
  have nd : ¬ IsD o := fun ⟨es, k, q⟩ => by rw [hd] at q; cases q
  have other : ∀ b, b ≠ a → (h.update a (Obj.mapFields g)).get? b = h.get? b := fun b hb => Heap.get?_update_other _ _ (Ne.symm hb)
  refine ⟨fun b o' e' n => .inl ((other b n).trans e'), fun b o' e' n' => ?_, fun b o' e' t => ?_, Nat.le_of_eq (Heap.SameBut.update h a _).1.symm⟩
  · refine ⟨o', (other b fun q => ?_).trans e', n'⟩
    subst q; rw [e] at e'; cases e'; exact nd n'
  · refine (other b fun q => ?_).trans e'
    subst q; rw [e] at e'; cases e'
    obtain ⟨_, ws, m, t⟩ := t; rw [hd] at t; cases t

section
variable {c : Cx} {A : Around} {n : Nat} {σ : Sto} {s : Shared} {h0 : Heap} {a C dx L : Addr} {fs : List (PySem.Str × PV)}

theorem CRel.off (R : CRel c A n σ s) {h' : Heap} (x : Mv (Off h0 σ) s.heap h') (hb : ∀ b o, c.h₀.get? b = some o → ∃ o', h0.get? b = some o') (hfr : ∀ b o, c.h₀.get? b = some o → h'.get? b = some o) : CRel c A n σ { s with heap := h' } :=
  R.moveK (s' := { s with heap := h' }) x hfr rfl rfl fun _ q => q.2

theorem FsR.off {h h' : Heap} {S : Addr → Prop} (x : Mv S h h') (n : ¬ S dx) (e : ∃ es k sl, h.get? dx = some (dctOf es k sl) ∧ FsR h fs es) : ∃ es k sl, h'.get? dx = some (dctOf es k sl) ∧ FsR h' fs es := by
  obtain ⟨es, k, sl, q, f⟩ := e
  rcases x.keep _ _ q n with q | ⟨_, sl', q⟩
  · exact ⟨es, k, sl, q, f.mv x⟩
  · exact ⟨es, k, sl', q, f.mv x⟩

noncomputable def FrD (c : Cx) (h : Heap) (frs : List Env) : Prop := ∀ b ∈ frs.filterMap (·.frame), c.h₀.get? b = none ∧ ∃ o, h.get? b = some o ∧ IsD o
theorem FrE.frD {h : Heap} {frs : List Env} (x : FrE c h frs) : FrD c h frs := fun b hb => by
  obtain ⟨env, he, hf⟩ := List.mem_filterMap.mp hb
  obtain ⟨a, L, o, b', d, e, f⟩ := x env he
  rw [hf] at b'; cases b'
  exact ⟨d, o, e, f⟩

theorem flight_run {M : Model} {E : Value → Shared → Prop} {Q : Unit → Shared → Prop} {z : Bool} {F : Value → Prop} {fr : Option Addr} {v : Value} (R : CRel c A n σ s) (hv : fr.elim Value.none (fun f => rawInt f) = v)
    (hb : ∀ b o, c.h₀.get? b = some o → ∃ o', h0.get? b = some o') (x : Flies z F h0 s.heap σ a C dx fs)
    (h : ∀ h', CRel c A n σ { s with heap := h' } → Mv (Off h0 σ) s.heap h' → (∀ b, b ∉ [a] → h0.get? b ≠ none → ∀ o, s.heap.get? b = some o → h'.get? b = some o) → Flies z (· = v) h0 h' σ a C dx fs → Q () { s with heap := h' }) :
    wpAny M A (setFlight (.ref a) fr) Q E s := by
  obtain ⟨a1, a2, a3, a4, ⟨vs, sl, b1, b2, b3⟩, a6⟩ := x
  unfold setFlight
  rcases b3 with ⟨z1, b3⟩ | ⟨T, oT, ts, fl, c1, c2, c3, c4, c5, c6, c7, c8⟩
  · refine wpAny_bind (wpAny_field b1 rfl b3 ?_)
    rw [if_neg (by decide)]
    exact wpAny_pure (h s.heap R (.refl ..) (fun _ _ _ _ e => e) ⟨a1, a2, a3, a4, ⟨vs, sl, b1, b2, .inl ⟨z1, b3⟩⟩, a6⟩)
  · refine wpAny_bind (wpAny_field b1 rfl c1 ?_)
    rw [if_pos (show (Value.ref T != Value.none) = true from by simp)]
    have h3 := (Array.getElem?_eq_some_iff.mp c7).1
    refine wpAny_setField c5 c6 h3 ?_
    have m := Mv.record c5 c6 (·.setIfInBounds 3 (fr.elim Value.none fun f => rawInt f))
    have m' : Mv (Off h0 σ) s.heap _ := m.mono fun b q => q ▸ ⟨c2, c4⟩
    have oth : ∀ b, b ≠ T → (s.heap.update T (Obj.mapFields (·.setIfInBounds 3 (fr.elim Value.none fun f => rawInt f)))).get? b = s.heap.get? b := fun b hbT => Heap.get?_update_other _ _ (Ne.symm hbT)
    refine h _ (R.off m' hb fun b o e => (oth b fun q => ?_).trans (R.base b o e)) m' (fun b _ nb o e => (oth b fun q => nb (q ▸ none_of_le c2)).trans e) ⟨a1, a2, a3, a4, ⟨vs, sl, (oth a (Ne.symm c3)).trans b1, b2, .inr ⟨T, _, _, v, c1, c2, c3, c4,
      Heap.get?_update_self _ c5 (Obj.isFreed_of_fields (Obj.data_mapFields c6 _)), Obj.data_mapFields c6 _, ?_, rfl⟩⟩, FsR.off m (fun q => ?_) a6⟩
    · obtain ⟨o', e'⟩ := hb b o e; rw [q, none_of_le c2] at e'; cases e'
    · subst hv; simp [h3]
    · obtain ⟨es, k, sl', e, _⟩ := a6; rw [q, c5] at e; cases e; cases c6

theorem entry_run {M : Model} {E : Value → Shared → Prop} {Q : Unit → Shared → Prop} {env : Env} {outer : List Env} {head : Value} {hadNext : Bool} {vs : Array Value} {sl : Array (Option Value)} (R : CRel c A n σ s)
    (hfr : A.frames = some (env :: outer)) (hf : env.frame = some L) (hb : ∀ b o, c.h₀.get? b = some o → ∃ o', h0.get? b = some o')
    (a1 : h0.objs.size ≤ a) (a2 : h0.objs.size ≤ dx) (a3 : ¬ CFoot σ a) (a4 : ¬ CFoot σ dx) (b1 : s.heap.get? a = some ⟨.ref C, some dx, .fields vs, sl⟩) (b2 : 6 ≤ vs.size)
    (a6 : ∃ es k sl, s.heap.get? dx = some (dctOf es k sl) ∧ FsR s.heap fs es)
    (hk0 : h0.objs.size ≤ s.heap.objs.size)
    (h : ∀ h', CRel c A n σ { s with heap := h' } → Mv (Off h0 σ) s.heap h' → Flies false (· = rawInt L) h0 h' σ a C dx fs → Q () { s with heap := h' }) :
    wpAny M A (do let fo ← frameOf env; let pl ← entryPlaceOf L hadNext; let b ← EntryCells.newEntry head fo .none (rawInt L) .none pl; setField (.ref a) 1 b) Q E s := by
  obtain ⟨frs, hf', hl⟩ := R.frames
  rw [hfr] at hf'; cases hf'
  have hD := hl.frD
  refine wpAny_bind (wpAny_frameOf_fun hfr hl.fun hf fun h₁ hs₁ => ?_)
  refine wpAny_bind (wpAny_entryPlaceOf fun pl hpl => ?_)
  have m1 : Mv (Off h0 σ) s.heap h₁ := Mv.slots hs₁ fun b q => (hD b q).2
  unfold EntryCells.newEntry newFields
  refine wpAny_bind (wpAny_newObj_type ?_ (hpl.sizeOk5 _ _ _ _ _))
  generalize hO : ({ cls := .type "traceback", dict := none, data := .fields ([head, .ref L, .none, rawInt L, .none] ++ (if pl.isEmpty then List.replicate 6 Value.none else pl)).toArray } : Obj) = oT
  have hfree : oT.isFreed = false := by subst hO; rfl
  have hTd : oT.data = .fields ([head, .ref L, .none, rawInt L, .none] ++ (if pl.isEmpty then List.replicate 6 Value.none else pl)).toArray := by subst hO; rfl
  have ha1 : h₁.get? a = some ⟨.ref C, some dx, .fields vs, sl⟩ := by
    have na : a ∉ (env :: outer).filterMap (·.frame) := fun q => by
      obtain ⟨_, o, e, es, k, d⟩ := hD a q
      rw [b1] at e; cases e; cases d
    exact (hs₁.2.1 a na).trans b1
  have ha2 := Heap.get?_push_of_some oT ha1
  have hz : 1 < vs.size := by omega
  refine wpAny_setField ha2 rfl hz ?_
  have m2 : Mv (Off h0 σ) h₁ (h₁.push oT) := Mv.push _ _ _
  have m3 := Mv.record ha2 rfl (·.setIfInBounds 1 (Value.ref h₁.objs.size))
  have m3' : Mv (Off h0 σ) (h₁.push oT) _ := m3.mono fun b q => q ▸ ⟨a1, a3⟩
  have fr0 : h0.objs.size ≤ h₁.objs.size := Nat.le_trans hk0 m1.size
  have m12 : Mv (Off h0 σ) s.heap (h₁.push oT) := m1.trans m2 fun _ q => .inl q
  have mm := m12.trans m3' fun _ q => .inl q
  have hTa : h₁.objs.size ≠ a := Nat.ne_of_gt (Heap.lt_size ha1)
  have base1 : ∀ b o, c.h₀.get? b = some o → h₁.get? b = some o := fun b o e => (hs₁.2.1 b fun q => by have := (hD b q).1; rw [e] at this; cases this).trans (R.base b o e)
  have hT : ((h₁.push oT).update a (Obj.mapFields (·.setIfInBounds 1 (Value.ref h₁.objs.size)))).get? h₁.objs.size = some oT := (Heap.get?_update_other _ _ (Ne.symm hTa)).trans (Heap.get?_push_size h₁ hfree)
  have nT : ¬ CFoot σ h₁.objs.size := fun q => by
    obtain ⟨o, e, _⟩ := R.get_foot q
    exact absurd (Heap.lt_size e) (Nat.not_lt.mpr m1.size)
  refine h _ (R.off mm hb fun b o e => ?_) mm ⟨a1, a2, a3, a4, ⟨_, sl, Heap.get?_update_self _ ha2 rfl, by rw [Array.size_setIfInBounds]; exact b2, .inr ⟨h₁.objs.size, oT, _, rawInt L, by simp [hz], fr0, hTa, nT, hT, hTd, ?_, rfl⟩⟩, ?_⟩
  · refine (Heap.get?_update_other _ _ fun q => ?_).trans (Heap.get?_push_of_some _ (base1 b o e))
    subst q
    obtain ⟨o', e'⟩ := hb _ _ e
    rw [none_of_le a1] at e'; cases e'
  · rcases hpl with rfl | ⟨_, _, _, _, _, _, _, rfl⟩ <;> simp
  · have m12' : Mv (fun _ => False) s.heap (h₁.push oT) := (Mv.slots hs₁ fun b q => (hD b q).2).trans (Mv.push (fun _ => False) _ _) fun _ q => .inl q
    refine FsR.off m3 (fun q => ?_) (FsR.off m12' id a6)
    obtain ⟨es, k, sl', e, _⟩ := a6; rw [q, b1] at e; cases e

theorem note_run {M : Model} {E : Value → Shared → Prop} {Q : Unit → Shared → Prop} {env : Env} {outer : List Env} {z : Bool} (R : CRel c A n σ s)
    (hfr : A.frames = some (env :: outer)) (hf : env.frame = some L) (hb : ∀ b o, c.h₀.get? b = some o → ∃ o', h0.get? b = some o')
    (hk0 : h0.objs.size ≤ s.heap.objs.size) (x : Flies z (fun fl => fl = .none ∨ fl = rawInt L) h0 s.heap σ a C dx fs)
    (h : ∀ h', CRel c A n σ { s with heap := h' } → Mv (Off h0 σ) s.heap h' → Flies false (· = rawInt L) h0 h' σ a C dx fs → Q () { s with heap := h' }) :
    wpAny M A (noteFrame (.ref a) env) Q E s := by
  obtain ⟨a1, a2, a3, a4, ⟨vs, sl, b1, b2, b3⟩, a6⟩ := x
  unfold noteFrame
  simp only [hf]
  rcases b3 with ⟨z1, b3⟩ | ⟨T, oT, ts, fl, c1, c2, c3, c4, c5, c6, c7, c8⟩
  · refine wpAny_bind (wpAny_field b1 rfl b3 ?_)
    rw [if_neg (by decide)]
    exact entry_run R hfr hf hb a1 a2 a3 a4 b1 b2 a6 hk0 h
  · refine wpAny_bind (wpAny_field b1 rfl c1 ?_)
    rw [if_pos (show (Value.ref T != Value.none) = true from by simp)]
    refine wpAny_bind (wpAny_field c5 c6 c7 ?_)
    rcases c8 with rfl | rfl
    · rw [if_neg (show ¬ ((Value.none == rawInt L) = true) from by simp [rawInt])]
      have h3 := (Array.getElem?_eq_some_iff.mp c7).1
      refine wpAny_bind (wpAny_setField c5 c6 h3 ?_)
      have m := Mv.record c5 c6 (·.setIfInBounds 3 Value.none)
      have m' : Mv (Off h0 σ) s.heap _ := m.mono fun b q => q ▸ ⟨c2, c4⟩
      have oth : ∀ b, b ≠ T → (s.heap.update T (Obj.mapFields (·.setIfInBounds 3 Value.none))).get? b = s.heap.get? b := fun b hbT => Heap.get?_update_other _ _ (Ne.symm hbT)
      have R' := R.off m' hb fun b o e => (oth b fun q => by obtain ⟨o', e'⟩ := hb b o e; rw [q, none_of_le c2] at e'; cases e').trans (R.base b o e)
      refine entry_run (s := { s with heap := s.heap.update T (Obj.mapFields (·.setIfInBounds 3 Value.none)) }) R' hfr hf hb a1 a2 a3 a4 ((oth a (Ne.symm c3)).trans b1) b2 (FsR.off m (fun q => ?_) a6) (Nat.le_trans hk0 m'.size) fun h' r' m2 fl => h h' r' (m'.trans m2 fun _ q => .inl q) fl
      · obtain ⟨es, k, sl', e, _⟩ := a6; rw [q, c5] at e; cases e; cases c6
    · rw [if_pos (show (rawInt L == rawInt L) = true from by simp)]
      exact wpAny_pure (h s.heap R (.refl ..) ⟨a1, a2, a3, a4, ⟨vs, sl, b1, b2, .inr ⟨T, oT, ts, _, c1, c2, c3, c4, c5, c6, c7, rfl⟩⟩, a6⟩)

theorem leave_run {M : Model} {E : Value → Shared → Prop} {Q : Unit → Shared → Prop} {env : Env} {outer : List Env} {z : Bool} (R : CRel c A n σ s)
    (hfr : A.frames = some (env :: outer)) (hf : env.frame = some L) (hb : ∀ b o, c.h₀.get? b = some o → ∃ o', h0.get? b = some o')
    (hk0 : h0.objs.size ≤ s.heap.objs.size) (x : Flies z (fun fl => fl = .none ∨ fl = rawInt L) h0 s.heap σ a C dx fs)
    (h : ∀ h', CRel c A n σ { s with heap := h' } → Mv (Off h0 σ) s.heap h' → Flies false (· = .none) h0 h' σ a C dx fs → Q () { s with heap := h' }) :
    wpAny M A (leaving env (.ref a)) Q E s := by
  unfold leaving
  refine wpAny_bind (note_run R hfr hf hb hk0 x fun h1 R1 m1 x1 => ?_)
  exact flight_run (s := { s with heap := h1 }) (fr := none) R1 rfl hb x1 fun h2 R2 m2 _ x2 => h h2 R2 (m1.trans m2 fun _ q => .inl q) x2
end
end Mine
end A6
section A7
open PySem PySem.W PySem.Calls PyProof.Rows
set_option maxRecDepth 10000
set_option linter.unusedVariables false
namespace Mine

noncomputable abbrev NXt := Loc → Sto → Prop
inductive FN' (c : Cx) (fm : Fm) (σ : Sto) (s : Shared) (N : NXt) (s' : Shared) : Prop
  | mk (loc' : Loc) (σ' : Sto) (h : N loc' σ') (R : Rel c fm loc' σ' s') (S : Step fm σ s σ' s')
inductive FR' (c : Cx) (fm : Fm) (σ : Sto) (s : Shared) (Rt : NPr) (v : Value) (s' : Shared) : Prop
  | mk (p : PV) (loc' : Loc) (σ' : Sto) (h : Rt p σ') (r : VR s'.heap p v) (R : Rel c fm loc' σ' s') (S : Step fm σ s σ' s')
noncomputable def FP (c : Cx) (fm : Fm) (σ : Sto) (s : Shared) (N : NXt) (Rt : NPr) : Flow → Shared → Prop
  | .next, s' => FN' c fm σ s N s'
  | .ret v, s' => FR' c fm σ s Rt v s'
  | _, _ => False
theorem FP.trans {c : Cx} {fm : Fm} {σ σ1 : Sto} {s s1 s' : Shared} {N : NXt} {Rt : NPr} {f : Flow} (x : FP c fm σ1 s1 N Rt f s') (S : Step fm σ s σ1 s1) : FP c fm σ s N Rt f s' := by
  cases f with
  | next => exact let ⟨l, σ', a, b, d⟩ := x; ⟨l, σ', a, b, S.trans d⟩
  | ret v => exact let ⟨p, l, σ', a, b, e, d⟩ := x; ⟨p, l, σ', a, b, e, S.trans d⟩
  | _ => exact x.elim

structure SS (c : Cx) (fm : Fm) (ss : List Stmt) (loc : Loc) (σ : Sto) (N : NXt) (Rt : NPr) (X : XPr) : Prop where
  run : ∀ s, Rel c fm loc σ s → wpAny c.M fm.A (execs ss fm.env) (FP c fm σ s N Rt) (XP c fm σ s X) s

section
variable {c : Cx} {fm : Fm} {loc : Loc} {σ : Sto} {N : NXt} {Rt : NPr} {X : XPr} {rest : List Stmt} {pos : Pos}

theorem ss_nil (h : N loc σ) : SS c fm [] loc σ N Rt X := ⟨fun s R => wpAny_execs_nil ⟨loc, σ, h, R, .refl ..⟩⟩

theorem ss_forget {ss : List Stmt} {loc' : Loc} {σ' : Sto} (hl : ∀ p ∈ loc', p ∈ loc) (hs : Sub σ' σ) (h : SS c fm ss loc' σ' N Rt X) : SS c fm ss loc σ N Rt X := ⟨fun s R => by
  have S : Step fm σ s σ' s := (Step.refl fm σ s).forget hs
  exact wpAny_mono (h.run s ((R.forget hl).forgetS hs)) (fun _ _ x => x.trans S) fun _ _ x => x.trans S⟩
theorem e_forget {e : Expr} {σ' : Sto} {Φ : NPr} (hs : Sub σ' σ) (h : E c fm e loc σ' Φ X) : E c fm e loc σ Φ X := ⟨fun s R => by
  have S : Step fm σ s σ' s := (Step.refl fm σ s).forget hs
  exact wpAny_mono (h.run s (R.forgetS hs)) (fun _ _ x => x.trans S) fun _ _ x => x.trans S⟩

theorem ss_step {st : Stmt} (h : ∀ s, Rel c fm loc σ s → wpAny c.M fm.A (exec st fm.env) (FP c fm σ s (fun l τ => SS c fm rest l τ N Rt X) Rt) (XP c fm σ s X) s) : SS c fm (st :: rest) loc σ N Rt X := ⟨fun s R => by
  refine wpAny_execs_cons (wpAny_mono (h s R) (fun f s1 x => ?_) fun _ _ x => x)
  cases f with
  | next =>
    obtain ⟨l, σ1, h1, R1, S1⟩ := x
    exact wpAny_mono (h1.run s1 R1) (fun _ _ x => x.trans S1) fun _ _ x => x.trans S1
  | ret v => exact x
  | _ => exact x.elim⟩

inductive LetP (c : Cx) (fm : Fm) (x : PySem.Str) (rest : List Stmt) (loc : Loc) (N : NXt) (Rt : NPr) (X : XPr) (p : PV) (σ1 : Sto) : Prop
  | mk (loc' : Loc) (l : SetL x p loc loc') (h : SS c fm rest loc' σ1 N Rt X)
inductive LetcP (c : Cx) (fm : Fm) (x : PySem.Str) (rest : List Stmt) (loc : Loc) (N : NXt) (Rt : NPr) (X : XPr) (p : PV) (σ1 : Sto) : Prop
  | mk (a : Addr) (q : Option PV) (k : fm.env.cells.lookup x = some a) (e : σ1 a = some (.cell q)) (h : SS c fm rest loc (upd σ1 a (.cell (some p))) N Rt X)
theorem ss_let {x : PySem.Str} {value : Expr} {pos' : Pos} (h : E c fm value loc σ (LetP c fm x rest loc N Rt X) X)
    (hx : fm.env.kindOf x = some .local := by rfl) (hk : fm.env.scope.kind = .function := by rfl) (hs : swapsWith value (some (.Name x pos')) pos.line fm.env = pure false := by rfl) :
    SS c fm (.Assign [.Name x pos'] value pos :: rest) loc σ N Rt X := ss_step fun s R => by
  refine wpAny_Assign_Name (wpAny_mono (h.run s R) (fun v s1 x => ?_) fun _ _ x => x) hs
  obtain ⟨p, σ1, ⟨loc', hs', h1⟩, va, R1, S1⟩ := x
  obtain ⟨m, hm, hl⟩ := R1.ns
  refine wpAny_storeName_local hx hm (fun h' hn hb => ?_) (by rw [hk]; rfl)
  obtain ⟨R2, S2⟩ := R1.store hx hs' va hm hn hb (s1.toks + 1)
  exact ⟨loc', σ1, h1, R2, S1.trans S2⟩

theorem ss_letc {x : PySem.Str} {value : Expr} {pos' : Pos} (h : E c fm value loc σ (LetcP c fm x rest loc N Rt X) X)
    (hx : fm.env.kindOf x = some .cell := by rfl) (hk : fm.env.scope.kind = .function := by rfl) (hs : swapsWith value (some (.Name x pos')) pos.line fm.env = pure false := by rfl) :
    SS c fm (.Assign [.Name x pos'] value pos :: rest) loc σ N Rt X := ss_step fun s R => by
  refine wpAny_Assign_Name (wpAny_mono (h.run s R) (fun v s1 x => ?_) fun _ _ x => x) hs
  obtain ⟨p, σ1, ⟨a, q, hc, hq, h1⟩, va, R1, S1⟩ := x
  obtain ⟨u, e, _⟩ := R1.cr.sto a _ hq
  refine wpAny_storeName_cell hk hx hc e fun h' hc' hb => ?_
  obtain ⟨o, eo, ed⟩ := e
  obtain ⟨o', eo', ed'⟩ := hc'
  have X := Ex.sameBut hb eo eo' (fun ⟨_, _, z⟩ => by rw [ed] at z; cases z) (fun ⟨_, _, _, z⟩ => by rw [ed] at z; cases z)
  obtain ⟨R2, S2⟩ := R1.write (ao' := .cell (some p)) hq (.inl rfl) s1.toks X ⟨some v, ⟨o', eo', ed'⟩, va.mv X.mv⟩ rfl
  exact ⟨loc, _, h1, R2, S1.trans S2⟩

theorem ss_expr {e : Expr} (h : E c fm e loc σ (fun _ σ1 => SS c fm rest loc σ1 N Rt X) X) (hi : interactive fm.env = false := by rfl) (hs : swapsWith e none pos.line fm.env = pure false := by rfl) :
    SS c fm (.Expr e pos :: rest) loc σ N Rt X := ss_step fun s R => by
  refine wpAny_Expr_any (wpAny_mono (h.run s R) (fun v s1 x => ?_) fun _ _ x => x) hi hs
  obtain ⟨p, σ1, h1, va, R1, S1⟩ := x
  exact ⟨loc, σ1, h1, R1, S1⟩

theorem ss_ret {e : Expr} (h : E c fm e loc σ Rt X) : SS c fm (.Return (some e) pos :: rest) loc σ N Rt X := ss_step fun s R => by
  refine wpAny_Return_some (wpAny_mono (h.run s R) (fun v s1 x => ?_) fun _ _ x => x)
  obtain ⟨p, σ1, h1, va, R1, S1⟩ := x
  exact ⟨p, loc, σ1, h1, va, R1, S1⟩
theorem ss_ret0 (h : Rt (.k .none) σ) : SS c fm (.Return none pos :: rest) loc σ N Rt X := ss_step fun s R => wpAny_Return_none ⟨_, loc, σ, h, .k _, R, .refl ..⟩

theorem ss_if {t : Expr} {b o : List Stmt} (h : B c fm t loc σ (fun x σ1 => match x with | true => SS c fm b loc σ1 (fun l τ => SS c fm rest l τ N Rt X) Rt X | false => SS c fm o loc σ1 (fun l τ => SS c fm rest l τ N Rt X) Rt X) X) :
    SS c fm (.If t b o pos :: rest) loc σ N Rt X := ss_step fun s R => by
  refine wpAny_If (wpAny_mono (h.run s R) (fun v s1 x => ?_) fun _ _ x => x)
  obtain ⟨σ1, h1, R1, S1⟩ := x
  cases v
  · exact wpAny_mono (SS.run h1 s1 R1) (fun _ _ x => x.trans S1) fun _ _ x => x.trans S1
  · exact wpAny_mono (SS.run h1 s1 R1) (fun _ _ x => x.trans S1) fun _ _ x => x.trans S1
end

structure FF (fm : Fm) : Prop where
  handled : fm.A.handled = none
  frames : ∃ outer, fm.A.frames = some (fm.env :: outer)
  frame : fm.env.frame = some fm.L

noncomputable abbrev envF (scope : Scope) (L : Addr) (qual : PySem.Str) (f : Addr) (cdv : Value) (cells : List (PySem.Str × Addr)) : Env :=
  { scope := scope, locals := L, globals := mainGlobals, cells := cells, qual := qual ++ ".<locals>.", func := some f, code := cdv, frame := some L, builtins := builtinsNs }

noncomputable def cellsSto (σ : Sto) (b : Loc) : List (PySem.Str × Addr) → Sto
  | [] => σ
  | (x, a) :: r => upd (cellsSto σ b r) a (.cell (b.lookup x))

inductive BR (h : Heap) : Loc → List (PySem.Str × Value) → Prop
  | nil : BR h [] []
  | cons {x : PySem.Str} {p : PV} {v : Value} {l : Loc} {bs : List (PySem.Str × Value)} : VR h p v → BR h l bs → BR h ((x, p) :: l) ((x, v) :: bs)

inductive FnIs (o : Option Obj) (name qual : PySem.Str) (params : Arguments) (body : List Stmt) (scope : Scope) (dV cdv : Value) : Prop
  | mk (kV doc pm : Value) (an : Option Addr) (ct oc : Value) (od : Option Addr) (osl : Array (Option Value)) (h : o = some ⟨oc, od, .func (fnOf name qual params body scope dV kV doc pm an cdv ct), osl⟩)
structure FnAt (K : Frag) (f : Addr) (name qual : PySem.Str) (params : Arguments) (body : List Stmt) (scope : Scope) (dV cdv : Value) : Prop where
  obj : FnIs (K.lookup f) name qual params body scope dV cdv
  code : codeIn K cdv qual = true

section
variable {c : Cx} {A : Around} {n : Nat} {σ : Sto} {s : Shared}

theorem CRel.enter (R : CRel c A (n + 1) σ s) {env : Env} {L : Addr} {h' : Heap} {o : Obj} (t : Nat) (hf : env.frame = some L) (hk : env.scope.kind = .function) (k : ∀ b o, s.heap.get? b = some o → h'.get? b = some o) (z : s.heap.objs.size ≤ h'.objs.size) (hL : s.heap.objs.size ≤ L)
    (e : h'.get? L = some o) (d : IsD o) (ht : s.toks ≤ t) : CRel c (A.deeper env) n σ { s with heap := h', toks := t } := by
  have R' := (R.grow k z t).1
  refine ⟨R'.cok, ⟨?_, ?_⟩, R'.base, R'.gens, R'.os, ?_, R'.sto, R'.new, R'.dinj⟩
  · have := R.ok.depth; show A.depth + 1 + 2 * n < _; omega
  · have := R.ok.units; show A.units + 3 + 40 * n + 100 < _; omega
  · obtain ⟨frs, a, b⟩ := R'.frames
    refine ⟨env :: frs, by show A.frames.map _ = _; rw [a]; rfl, fun e' he => ?_⟩
    rcases List.mem_cons.mp he with rfl | he
    · exact ⟨by rw [hk]; decide, L, o, hf, R.base_none (none_of_le hL), e, d⟩
    · exact b e' he

theorem CRel.exit {A' : Around} {n' : Nat} {σ' : Sto} {s' : Shared} (R : CRel c A n σ s) (R' : CRel c A' n' σ' s') {frs frs' : List Env} (hA : A.frames = some frs) (hA' : A'.frames = some frs') (hsub : ∀ e ∈ frs, e ∈ frs') : CRel c A n σ' s' := by
  refine ⟨R'.cok, R.ok, R'.base, R'.gens, R'.os, ⟨frs, hA, fun e he => ?_⟩, R'.sto, R'.new, R'.dinj⟩
  obtain ⟨frs'', a, b⟩ := R'.frames
  rw [hA'] at a; cases a
  exact b e (hsub e he)

theorem leave_call {fm : Fm} {σ₁ : Sto} {s₁ : Shared} {Φ : NPr} {X : CXPr} (R : CRel c A n σ s) (hff : FF fm) (hA : fm.A.frames = A.frames.map (fm.env :: ·)) (S : CStep σ s σ₁ s₁) (hL : s.heap.objs.size ≤ fm.L) :
    (∀ v s', FP c fm σ₁ s₁ (fun _ τ => Φ (.k .none) τ) Φ v s' → CNP c A n σ s Φ (match v with | .ret v => v | _ => .none) s') ∧
    (∀ e s', XP c fm σ₁ s₁ (fun C fs _ τ => X C fs τ) e s' → wpAny c.M fm.A (leaving fm.env e) (fun _ s'' => CXP c A n σ s X e s'') (fun _ _ => False) s') := by
  obtain ⟨frs, hfr, _⟩ := R.frames
  have hA' : fm.A.frames = some (fm.env :: frs) := by rw [hA, hfr]; rfl
  have mvC : ∀ {σ' s'}, Step fm σ₁ s₁ σ' s' → CStep σ s σ' s' := fun {σ' s'} S' => by
    have s1L : ∀ a, a = fm.L → CFoot σ a ∨ s.heap.objs.size ≤ a := fun a q => .inr (q ▸ hL)
    refine ⟨S.mv.trans S'.mv fun a f => f.elim (S.grow a) fun q => s1L a q, fun a f => ?_, Nat.le_trans S.tk S'.tk⟩
    rcases S'.grow a f with f | f
    · exact S.grow a f
    · exact .inr (none_of_none S.mv f)
  refine ⟨fun v s' x => ?_, fun e s' x => ?_⟩
  · cases v with
    | next =>
      obtain ⟨l, σ', a, b, d⟩ := x
      exact ⟨_, σ', a, .k _, R.exit b.cr hfr hA' fun e he => .tail _ he, mvC d⟩
    | ret v =>
      obtain ⟨p, l, σ', a, r, b, d⟩ := x
      exact ⟨_, σ', a, r, R.exit b.cr hfr hA' fun e he => .tail _ he, mvC d⟩
    | _ => exact x.elim
  · obtain ⟨a, C, dx, fs, l, σ', rfl, hx, R', S', fl⟩ := x
    have fl' := fl.back S.mv
    have Sc := mvC S'
    refine leave_run (h0 := s.heap) R'.cr hA' hff.frame (fun b o e => ⟨o, R.base b o e⟩) Sc.mv.size fl' fun h' R2 m2 f2 => ?_
    refine ⟨a, C, dx, fs, σ', rfl, hx, R.exit R2 hfr hA' fun e he => .tail _ he, ⟨Sc.mv.trans m2 fun b q => .inr q.1, Sc.grow, Sc.tk⟩, f2⟩
end
end Mine
end A7
section A8
open PySem PySem.W PySem.Calls PyProof.Rows
set_option maxRecDepth 10000
set_option linter.unusedVariables false
namespace Mine

section
variable {c : Cx} {A : Around} {n : Nat} {σ : Sto} {s : Shared}

theorem CRel.cells (R : CRel c A n σ s) {σ' : Sto} {h' : Heap} (t : Nat) (k : ∀ b o, s.heap.get? b = some o → h'.get? b = some o) (z : s.heap.objs.size ≤ h'.objs.size) (ht : s.toks ≤ t)
    (h : ∀ a o, σ' a = some o → σ a = some o ∨ ((∃ p, o = .cell p) ∧ s.heap.objs.size ≤ a ∧ ORel h' a o)) : CRel c A n σ' { s with heap := h', toks := t } ∧ CStep σ s σ' { s with heap := h', toks := t } := by
  have foot : ∀ a, CFoot σ' a → CFoot σ a ∨ s.heap.objs.size ≤ a := fun a f => by
    rcases f with ⟨o, e⟩ | ⟨x, o, e, d⟩
    · exact (h a o e).elim (fun q => .inl (.inl ⟨o, q⟩)) fun q => .inr q.2.1
    · rcases h x o e with q | ⟨⟨p, rfl⟩, _⟩
      · exact .inl (.inr ⟨x, o, q, d⟩)
      · cases d
  refine ⟨R.move (S := fun _ => False) (.of_keeps k z) (fun _ f => f.elim) rfl rfl (fun a o e => ?_) (fun a f => (foot a f).elim (R.new a) fun q => R.base_none (none_of_le q)) (fun x y o p d e1 e2 d1 d2 => ?_), ⟨.of_keeps k z, foot, ht⟩⟩
  · exact (h a o e).elim (fun q => .inl ⟨q, id, fun _ _ => id⟩) fun q => .inr q.2.2
  · rcases h x o e1 with q1 | ⟨⟨p, rfl⟩, _⟩
    · rcases h y p e2 with q2 | ⟨⟨p, rfl⟩, _⟩
      · exact R.dinj x y o p d q1 q2 d1 d2
      · cases d2
    · cases d1

theorem CRel.exitTo {A' : Around} {n' : Nat} {σ' σ₀ : Sto} {s' : Shared} (R : CRel c A n σ' s') (R' : CRel c A' n' σ₀ s') : CRel c A' n' σ' s' :=
  ⟨R.cok, R'.ok, R.base, R.gens, R.os, R'.frames, R.sto, R.new, R.dinj⟩

theorem lookup_none_of {x : PySem.Str} : ∀ {l : Loc}, x ∉ l.map (·.1) → l.lookup x = none
  | [], _ => rfl
  | (y, p) :: r, h => by
    rw [List.map_cons, List.mem_cons, not_or] at h
    rw [List.lookup_cons, beq_eq_false_iff_ne.mpr h.1]
    exact lookup_none_of h.2

theorem bindC_of {kind : PySem.Str → Option NameKind} {h : Heap} {x : PySem.Str} (hx : kind x ≠ some .local) : ∀ {l : Loc} {bs : List (PySem.Str × Value)} {m : PySem.Str → Option Value}, BR h l bs → (l.map (·.1)).Nodup →
    (match l.lookup x with | some p => ∃ v, bindC kind bs m x = some v ∧ VR h p v | none => bindC kind bs m x = m x)
  | _, _, m, .nil, _ => rfl
  | _, _, m, .cons (x := y) (p := p) (v := v) (l := l) (bs := bs) a r, nd => by
    rw [List.map_cons, List.nodup_cons] at nd
    unfold bindC
    by_cases q : x = y
    · subst q
      rw [if_neg hx, List.lookup_cons, beq_self_eq_true]
      have z := bindC_of hx (m := fun y => if y = x then some v else m y) r nd.2
      rw [lookup_none_of nd.1] at z
      exact ⟨v, z.trans (if_pos rfl), a⟩
    · rw [List.lookup_cons, beq_eq_false_iff_ne.mpr q]
      have z := bindC_of hx (m := if kind y = some .local then m else fun w => if w = y then some v else m w) r nd.2
      show match l.lookup x with | some p => _ | none => _
      split
      · rename_i p' e; rw [e] at z; exact z
      · rename_i e; rw [e] at z
        refine z.trans ?_
        split
        · rfl
        · exact if_neg q

theorem bindL_of {kind : PySem.Str → Option NameKind} {h : Heap} {x : PySem.Str} (hx : kind x = some .local) : ∀ {l : Loc} {bs : List (PySem.Str × Value)} {m : PySem.Str → Option Value}, BR h l bs → (l.map (·.1)).Nodup →
    (match l.lookup x with | some p => ∃ v, bindL kind bs m x = some v ∧ VR h p v | none => bindL kind bs m x = m x)
  | _, _, m, .nil, _ => rfl
  | _, _, m, .cons (x := y) (p := p) (v := v) (l := l) (bs := bs) a r, nd => by
    rw [List.map_cons, List.nodup_cons] at nd
    unfold bindL
    by_cases q : x = y
    · subst q
      rw [if_pos hx, List.lookup_cons, beq_self_eq_true]
      have z := bindL_of hx (m := fun y => if y = x then some v else m y) r nd.2
      rw [lookup_none_of nd.1] at z
      exact ⟨v, z.trans (if_pos rfl), a⟩
    · rw [List.lookup_cons, beq_eq_false_iff_ne.mpr q]
      have z := bindL_of hx (m := if kind y = some .local then fun w => if w = y then some v else m w else m) r nd.2
      show match l.lookup x with | some p => _ | none => _
      split
      · rename_i p' e; rw [e] at z; exact z
      · rename_i e; rw [e] at z
        refine z.trans ?_
        split
        · exact if_neg q
        · rfl
theorem mem_lookup {x : PySem.Str} {p : PV} : ∀ {l : Loc}, (x, p) ∈ l → (l.map (·.1)).Nodup → l.lookup x = some p
  | (y, q) :: r, h, nd => by
    rw [List.map_cons, List.nodup_cons] at nd
    rcases List.mem_cons.mp h with h | h
    · cases h; rw [List.lookup_cons, beq_self_eq_true]
    · have n : x ≠ y := fun z => nd.1 (z ▸ List.mem_map_of_mem (f := (·.1)) h)
      rw [List.lookup_cons, beq_eq_false_iff_ne.mpr n]
      exact mem_lookup h nd.2

theorem cellsSto_of {b : Loc} : ∀ {cs : List (PySem.Str × Addr)} {a : Addr} {o : AO}, cs.Pairwise (fun x y => x.2 ≠ y.2) → cellsSto σ b cs a = some o → σ a = some o ∨ ∃ x, (x, a) ∈ cs ∧ o = .cell (b.lookup x)
  | [], a, o, _, e => .inl e
  | (x, d) :: r, a, o, hp, e => by
    unfold cellsSto at e
    by_cases q : a = d
    · subst q; rw [upd_same] at e; cases e; exact .inr ⟨x, .head _, rfl⟩
    · rw [upd_ne _ _ q] at e
      rcases cellsSto_of (List.pairwise_cons.mp hp).2 e with z | ⟨y, m, z⟩
      · exact .inl z
      · exact .inr ⟨y, .tail _ m, z⟩

theorem cellsFrom_kind : ∀ {names : List (PySem.Str × NameKind)} {k : Nat} {acc : List (PySem.Str × Addr)} {x : PySem.Str} {a : Addr}, (x, a) ∈ cellsFrom k names acc → (x, a) ∈ acc ∨ (x, NameKind.cell) ∈ names
  | [], _, _, _, _, h => .inl h
  | (y, kd) :: r, k, acc, x, a, h => by
    unfold cellsFrom at h
    split at h
    · rename_i e
      have e : kd = .cell := by simpa using e
      subst e
      rcases cellsFrom_kind h with h | h
      · rcases List.mem_cons.mp h with h | h
        · cases h; exact .inr (.head _)
        · exact .inl h
      · exact .inr (.tail _ h)
    · rcases cellsFrom_kind h with h | h
      · exact .inl h
      · exact .inr (.tail _ h)

noncomputable def kindsOk (scope : Scope) (L : Addr) (l : Loc) : Bool :=
  l.all fun p => decide (scope.names.lookup p.1 = some .local) || (decide (scope.names.lookup p.1 = some .cell) && ((cellsFrom (L + 1) scope.names []).lookup p.1).isSome)

theorem cellsFrom_names : ∀ {names : List (PySem.Str × NameKind)} {k k' : Nat} {acc acc' : List (PySem.Str × Addr)}, acc.map (·.1) = acc'.map (·.1) → (cellsFrom k names acc).map (·.1) = (cellsFrom k' names acc').map (·.1)
  | [], _, _, _, _, h => h
  | (y, kd) :: r, k, k', acc, acc', h => by
    unfold cellsFrom
    split
    · exact cellsFrom_names (by rw [List.map_cons, List.map_cons, h])
    · exact cellsFrom_names h
theorem lookup_of_mem {x : PySem.Str} {a : Addr} : ∀ {l : List (PySem.Str × Addr)}, (x, a) ∈ l → (l.map (·.1)).Nodup → l.lookup x = some a
  | (y, q) :: r, h, nd => by
    rw [List.map_cons, List.nodup_cons] at nd
    rcases List.mem_cons.mp h with h | h
    · cases h; rw [List.lookup_cons, beq_self_eq_true]
    · have n : x ≠ y := fun z => nd.1 (z ▸ List.mem_map_of_mem (f := (·.1)) h)
      rw [List.lookup_cons, beq_eq_false_iff_ne.mpr n]
      exact lookup_of_mem h nd.2
noncomputable def cellsOk (scope : Scope) : Bool := scope.names.all (fun p => !(p.2 == .cell) || decide (scope.names.lookup p.1 = some .cell)) && decide ((cellsFrom 0 scope.names []).map (·.1)).Nodup

theorem kinds_of {scope : Scope} {L : Addr} {h : Heap} : ∀ {l : Loc} {bs : List (PySem.Str × Value)}, BR h l bs → kindsOk scope L l = true →
    ∀ x ∈ bs, scope.names.lookup x.1 = some .local ∨ (scope.names.lookup x.1 = some .cell ∧ ((cellsFrom (L + 1) scope.names []).lookup x.1).isSome = true)
  | _, _, .nil, _, x, hx => nomatch hx
  | _, _, .cons (x := y) a r, h, x, hx => by
    unfold kindsOk at h
    rw [List.all_cons, Bool.and_eq_true] at h
    rcases List.mem_cons.mp hx with rfl | hx
    · rcases Bool.or_eq_true_iff.mp h.1 with z | z
      · exact .inl (of_decide_eq_true z)
      · obtain ⟨z1, z2⟩ := Bool.and_eq_true_iff.mp z
        exact .inr ⟨of_decide_eq_true z1, z2⟩
    · exact kinds_of r h.2 x hx
theorem BR.mv {S : Addr → Prop} {h h' : Heap} (m : Mv S h h') : ∀ {l : Loc} {bs : List (PySem.Str × Value)}, BR h l bs → BR h' l bs
  | _, _, .nil => .nil
  | _, _, .cons a r => .cons (a.mv m) (r.mv m)

structure FnB (c : Cx) (f : Addr) (name qual : PySem.Str) (params : Arguments) (body : List Stmt) (scope : Scope) (dV cdv : Value) : Prop where
  run : ∀ h, c.K.In h → c.h₀.StaysIn h → FnIs (h.get? f) name qual params body scope dV cdv ∧ h.CodeRec cdv qual
theorem FnAt.toB {f : Addr} {name qual : PySem.Str} {params : Arguments} {body : List Stmt} {scope : Scope} {dV cdv : Value} (F : FnAt c.K f name qual params body scope dV cdv) : FnB c f name qual params body scope dV cdv :=
  ⟨fun h X _ => ⟨by obtain ⟨kV, doc, pm, an, ct, oc, od, osl, ho⟩ := F.obj; exact ⟨kV, doc, pm, an, ct, oc, od, osl, X _ _ ho⟩, codeRec_of X F.code⟩⟩

theorem call_fnB {f : Addr} {name qual : PySem.Str} {params : Arguments} {body : List Stmt} {scope : Scope} {dV cdv : Value} {args : List PV} {Φ : NPr} {X : CXPr} (F : FnB c f name qual params body scope dV cdv) (binds loc : Loc)
    (hbind : ∀ s vs kV doc pm an ct, c.K.In s.heap → VRs s.heap args vs → ∃ bs, BindsTo s (fnOf name qual params body scope dV kV doc pm an cdv ct) ⟨vs, []⟩ bs ∧ BR s.heap binds bs)
    (hnd : (binds.map (·.1)).Nodup) (hkd : ∀ L, kindsOk scope L binds = true) (hloc : ∀ p ∈ loc, p ∈ binds ∧ scope.names.lookup p.1 = some .local) (hone : cellsOk scope = true)
    (hbody : ∀ L A', (∀ a, L ≤ a → σ a = none) → FF ⟨envF scope L qual f cdv (cellsFrom (L + 1) scope.names []), A', n, 0⟩ →
      SS c ⟨envF scope L qual f cdv (cellsFrom (L + 1) scope.names []), A', n, 0⟩ body loc (cellsSto σ binds (cellsFrom (L + 1) scope.names []))
        (UpN Φ) (UpR Φ) (UpX X))
    (hco : scope.isCoroutine = false := by rfl) (hgen : scope.isGenerator = false := by rfl) (hk : scope.kind = .function := by rfl) : CallC c (n + 1) (.ref f) args σ Φ X := ⟨fun A s vs hh R hv => by
  obtain ⟨⟨kV, doc, pm, an, ct, oc, od, osl, ho⟩, hcode⟩ := F.run _ R.kin R.base
  obtain ⟨bs, hb, br⟩ := hbind s vs kV doc pm an ct R.kin hv
  have room : A.depth < recursionLimit := by have := R.ok.depth; omega
  refine (codeAny_call_function (fd := fnOf name qual params body scope dV kV doc pm an cdv ct) (body := body) room ho rfl hco hgen rfl hcode ?_)
  refine hb _ _ _ _ ?_
  have hkind := kinds_of br (hkd s.heap.objs.size)
  refine wpAny_toks (wpAny_newFunctionEnv_cells hk hkind fun env he s1 x ht => ?_)
  subst he
  refine ⟨R.nolimit.keeps x.toInCall.keep, codeAny_func ?_⟩
  obtain ⟨⟨⟨h1, tk, rfl⟩, hns, keep, _⟩, hcell, hap, habove⟩ := x
  have hL : s.heap.objs.size ≤ s.heap.objs.size := Nat.le_refl _
  obtain ⟨oL, esL, epL, eL, dL, _⟩ := id hns
  have z1 : s.heap.objs.size ≤ h1.objs.size := Nat.le_of_lt (Heap.lt_size eL)
  have m1 : Mv (fun _ => False) s.heap h1 := Mv.of_keeps keep z1
  have br1 := br.mv m1
  have fresh : ∀ a, s.heap.objs.size ≤ a → s.heap.get? a = none := fun a ha => by
    cases q : s.heap.get? a with
    | none => rfl
    | some o => exact absurd (Heap.lt_size q) (Nat.not_lt.mpr ha)
  have kcell : ∀ y a, (y, a) ∈ cellsFrom (s.heap.objs.size + 1) scope.names [] → scope.names.lookup y = some .cell := fun y a m => by
    rcases cellsFrom_kind m with m | m
    · cases m
    · have z := List.all_eq_true.mp (Bool.and_eq_true_iff.mp hone).1 _ m
      rcases Bool.or_eq_true_iff.mp z with z | z
      · cases z
      · exact of_decide_eq_true z
  have hA : (A.deeper (envF scope s.heap.objs.size qual f cdv (cellsFrom (s.heap.objs.size + 1) scope.names []))).frames = A.frames.map (envF scope s.heap.objs.size qual f cdv (cellsFrom (s.heap.objs.size + 1) scope.names []) :: ·) := rfl
  have Rd := R.enter (env := envF scope s.heap.objs.size qual f cdv (cellsFrom (s.heap.objs.size + 1) scope.names [])) tk rfl hk keep z1 hL eL ⟨_, _, dL⟩ ht
  have sto : ∀ a o, cellsSto σ binds (cellsFrom (s.heap.objs.size + 1) scope.names []) a = some o → σ a = some o ∨ ((∃ p, o = .cell p) ∧ s.heap.objs.size ≤ a ∧ ORel h1 a o) := fun a o e => by
    rcases cellsSto_of hap e with e | ⟨y, m, rfl⟩
    · exact .inl e
    · refine .inr ⟨⟨_, rfl⟩, Nat.le_of_lt (habove y a m), ?_⟩
      have ky := kcell y a m
      have hly : (cellsFrom (s.heap.objs.size + 1) scope.names []).lookup y = some a :=
        lookup_of_mem m (by rw [cellsFrom_names (k' := 0) (acc' := []) rfl]; exact of_decide_eq_true (Bool.and_eq_true_iff.mp hone).2)
      have ic := hcell y a hly
      have bc := bindC_of (kind := (envF scope s.heap.objs.size qual f cdv (cellsFrom (s.heap.objs.size + 1) scope.names [])).kindOf) (x := y) (m := fun _ => none) (by show scope.names.lookup y ≠ _; rw [ky]; decide) br1 hnd
      cases q : binds.lookup y with
      | none => rw [q] at bc; exact ⟨none, by rw [← bc]; exact ic, trivial⟩
      | some p => rw [q] at bc; obtain ⟨v, bv, rv⟩ := bc; exact ⟨some v, by rw [← bv]; exact ic, rv⟩
  obtain ⟨Rc, Sc⟩ := R.cells tk keep z1 ht sto
  have Rd' := Rc.exitTo Rd
  have R1 : Rel c ⟨envF scope s.heap.objs.size qual f cdv (cellsFrom (s.heap.objs.size + 1) scope.names []), A.deeper (envF scope s.heap.objs.size qual f cdv (cellsFrom (s.heap.objs.size + 1) scope.names [])), n, 0⟩ loc
      (cellsSto σ binds (cellsFrom (s.heap.objs.size + 1) scope.names [])) { s with heap := h1, toks := tk } := by
    refine ⟨Rd', ⟨_, hns, fun p hp => ?_⟩, R.base_none (none_of_le hL), fun q => ?_, Nat.zero_le _⟩
    · obtain ⟨hpb, hpl⟩ := hloc p hp
      have bl := bindL_of (kind := (envF scope s.heap.objs.size qual f cdv (cellsFrom (s.heap.objs.size + 1) scope.names [])).kindOf) (x := p.1) (m := fun _ => none) hpl br1 hnd
      rw [mem_lookup hpb hnd] at bl
      exact ⟨hpl, bl⟩
    · rcases q with ⟨o, e⟩ | ⟨x, o, e, d⟩
      · rcases cellsSto_of hap e with e | ⟨y, m, rfl⟩
        · rw [R.sto_none (none_of_le hL)] at e; cases e
        · exact absurd (habove y _ m) (Nat.lt_irrefl _)
      · rcases cellsSto_of hap e with e | ⟨y, m, rfl⟩
        · obtain ⟨o', e', _⟩ := R.get_foot (.inr ⟨x, o, e, d⟩)
          rw [none_of_le hL] at e'; cases e'
        · cases d
  have hff : FF ⟨envF scope s.heap.objs.size qual f cdv (cellsFrom (s.heap.objs.size + 1) scope.names []), A.deeper (envF scope s.heap.objs.size qual f cdv (cellsFrom (s.heap.objs.size + 1) scope.names [])), n, 0⟩ := by
    obtain ⟨frs, hfr, _⟩ := R.frames
    exact ⟨hh, ⟨frs, by show A.frames.map _ = _; rw [hfr]; rfl⟩, rfl⟩
  have body1 := (hbody s.heap.objs.size _ (fun a ha => R.sto_none (fresh a ha)) hff).run _ R1
  have LC := leave_call (Φ := UpR Φ) (X := UpC X) R hff hA Sc hL
  refine wpAny_mono body1 (fun v s' x => ?_) (fun e s' x => ?_)
  · obtain ⟨p, σ', ⟨τ', hs, h1⟩, h2, h3, h4⟩ := LC.1 v s' x
    exact ⟨p, τ', h1, h2, h3.forget hs, h4.forget hs⟩
  · refine wpAny_mono (LC.2 e s' x) (fun _ s'' y => ?_) fun _ _ y => y.elim
    obtain ⟨a, C, dx, fs, σ', e1, ⟨τ', hs, h1⟩, h3, h4, f1, f2, f3, f4, f5, f6⟩ := y
    refine ⟨a, C, dx, fs, τ', e1, h1, h3.forget hs, h4.forget hs, f1, f2, fun q => f3 (hs.foot q), fun q => f4 (hs.foot q), ?_, f6⟩
    obtain ⟨vs, sl, g1, g2, g3⟩ := f5
    refine ⟨vs, sl, g1, g2, ?_⟩
    rcases g3 with g3 | ⟨T, oT, ts, fl, k1, k2, k3, k4, k5⟩
    · exact .inl g3
    · exact .inr ⟨T, oT, ts, fl, k1, k2, k3, fun q => k4 (hs.foot q), k5⟩⟩
theorem call_fn {f : Addr} {name qual : PySem.Str} {params : Arguments} {body : List Stmt} {scope : Scope} {dV cdv : Value} {args : List PV} {Φ : NPr} {X : CXPr} (F : FnAt c.K f name qual params body scope dV cdv) (binds loc : Loc)
    (hbind : ∀ s vs kV doc pm an ct, c.K.In s.heap → VRs s.heap args vs → ∃ bs, BindsTo s (fnOf name qual params body scope dV kV doc pm an cdv ct) ⟨vs, []⟩ bs ∧ BR s.heap binds bs)
    (hnd : (binds.map (·.1)).Nodup) (hkd : ∀ L, kindsOk scope L binds = true) (hloc : ∀ p ∈ loc, p ∈ binds ∧ scope.names.lookup p.1 = some .local) (hone : cellsOk scope = true)
    (hbody : ∀ L A', (∀ a, L ≤ a → σ a = none) → FF ⟨envF scope L qual f cdv (cellsFrom (L + 1) scope.names []), A', n, 0⟩ →
      SS c ⟨envF scope L qual f cdv (cellsFrom (L + 1) scope.names []), A', n, 0⟩ body loc (cellsSto σ binds (cellsFrom (L + 1) scope.names []))
        (UpN Φ) (UpR Φ) (UpX X))
    (hco : scope.isCoroutine = false := by rfl) (hgen : scope.isGenerator = false := by rfl) (hk : scope.kind = .function := by rfl) : CallC c (n + 1) (.ref f) args σ Φ X :=
  call_fnB F.toB binds loc hbind hnd hkd hloc hone hbody hco hgen hk
end
end Mine
end A8
section A9
open PySem PySem.W PySem.Calls PyProof.Rows
set_option maxRecDepth 10000
set_option linter.unusedVariables false
namespace Mine
section
variable {c : Cx} {σ : Sto} {Φ : NPr} {a b : Int} {x y : PySem.Str} {P : Bool → Prop}

theorem op_add (h : Φ (.int (a + b)) σ) : Op2 c (binaryOp .Add) (.int a) (.int b) σ Φ := ⟨fun A n s v u R hv hu => by
  cases hv; cases hu; exact PyProof.Rows.add_int ⟨_, _, h, .int _ _, R.toks _, .toks ..⟩⟩
theorem op_sub (h : Φ (.int (a - b)) σ) : Op2 c (binaryOp .Sub) (.int a) (.int b) σ Φ := ⟨fun A n s v u R hv hu => by
  cases hv; cases hu; exact PyProof.Rows.sub_int ⟨_, _, h, .int _ _, R.toks _, .toks ..⟩⟩
theorem op_mul (hm : IntMulOk a b) (h : Φ (.int (a * b)) σ) : Op2 c (binaryOp .Mult) (.int a) (.int b) σ Φ := ⟨fun A n s v u R hv hu => by
  cases hv; cases hu; exact PyProof.Rows.mul_int ⟨_, _, h, .int _ _, R.toks _, .toks ..⟩ hm⟩
theorem op_div (hb : b ≠ 0) (hp : Builtin.divisionGoesByPylong a b = false) (h : Φ (.int (a.fdiv b)) σ) : Op2 c (binaryOp .FloorDiv) (.int a) (.int b) σ Φ := ⟨fun A n s v u R hv hu => by
  cases hv; cases hu; exact PyProof.Rows.floordiv_int hb ⟨_, _, h, .int _ _, R.toks _, .toks ..⟩ (.inl hp)⟩
theorem op_mod (hb : b ≠ 0) (h : Φ (.int (a.fmod b)) σ) : Op2 c (binaryOp .Mod) (.int a) (.int b) σ Φ := ⟨fun A n s v u R hv hu => by
  cases hv; cases hu; exact PyProof.Rows.mod_int hb ⟨_, _, h, .int _ _, R.toks _, .toks ..⟩⟩
theorem op_pow (hn : 0 ≤ b) (hn2 : b ≤ 1000000) (ha : a.natAbs < 2 ^ 64) (h : Φ (.int (a ^ b.toNat)) σ) : Op2 c (binaryOp .Pow) (.int a) (.int b) σ Φ := ⟨fun A n s v u R hv hu => by
  cases hv; cases hu; exact PyProof.Rows.pow_int_small hn hn2 ha ⟨_, _, h, .int _ _, R.toks _, .toks ..⟩⟩
theorem op_neg (h : Φ (.int (-a)) σ) : Op1 c (unaryOp .USub) (.int a) σ Φ := ⟨fun A n s v R hv => by
  cases hv; exact PyProof.Rows.neg_int ⟨_, _, h, .int _ _, R.toks _, .toks ..⟩⟩
theorem op_cat (hsz : x.length + y.length ≤ sizeLine) (h : Φ (.str (x ++ y)) σ) : Op2 c (binaryOp .Add) (.str x) (.str y) σ Φ := ⟨fun A n s v u R hv hu => by
  cases hv; cases hu; exact wpAny_toks (PyProof.Rows.add_str (fun t' tk ht => ⟨_, _, h, .str _ _, R.toks _, .toks _ _ _ ht⟩) hsz)⟩

theorem cmp_eq (h : P (a == b)) : Cmp c .Eq (.int a) (.int b) σ P := ⟨fun A n s v u R hv hu => by
  cases hv; cases hu; exact PyProof.Rows.eq_int ⟨_, rfl, h, R, .refl ..⟩⟩
theorem cmp_ne (h : P (a != b)) : Cmp c .NotEq (.int a) (.int b) σ P := ⟨fun A n s v u R hv hu => by
  cases hv; cases hu; exact PyProof.Rows.ne_int ⟨_, rfl, h, R, .refl ..⟩⟩
theorem cmp_lt (h : P (decide (a < b))) : Cmp c .Lt (.int a) (.int b) σ P := ⟨fun A n s v u R hv hu => by
  cases hv; cases hu; exact PyProof.Rows.lt_int ⟨_, rfl, h, R, .refl ..⟩⟩
theorem cmp_le (h : P (decide (a ≤ b))) : Cmp c .LtE (.int a) (.int b) σ P := ⟨fun A n s v u R hv hu => by
  cases hv; cases hu; exact PyProof.Rows.le_int ⟨_, rfl, h, R, .refl ..⟩⟩
theorem cmp_gt (h : P (decide (b < a))) : Cmp c .Gt (.int a) (.int b) σ P := ⟨fun A n s v u R hv hu => by
  cases hv; cases hu; exact PyProof.Rows.gt_int ⟨_, rfl, h, R, .refl ..⟩⟩
theorem cmp_ge (h : P (decide (b ≤ a))) : Cmp c .GtE (.int a) (.int b) σ P := ⟨fun A n s v u R hv hu => by
  cases hv; cases hu; exact PyProof.Rows.ge_int ⟨_, rfl, h, R, .refl ..⟩⟩
theorem cmp_eqs (h : P (x == y)) : Cmp c .Eq (.str x) (.str y) σ P := ⟨fun A n s v u R hv hu => by
  cases hv; cases hu; exact PyProof.Rows.eq_str ⟨_, rfl, h, R, .refl ..⟩⟩
theorem cmp_nes (h : P (x != y)) : Cmp c .NotEq (.str x) (.str y) σ P := ⟨fun A n s v u R hv hu => by
  cases hv; cases hu; exact PyProof.Rows.ne_str ⟨_, rfl, h, R, .refl ..⟩⟩

noncomputable def PV.isNone : PV → Bool
  | .k v => v == .none
  | _ => false
theorem VR.isNone {h : Heap} {p : PV} {v : Value} (x : VR h p v) : (v == .none) = p.isNone := by
  cases x <;> first | rfl | simp [PV.isNone]
theorem cmp_is {p : PV} (h : P p.isNone) : Cmp c .Is p (.k .none) σ P := ⟨fun A n s v u R hv hu => by
  cases hu; exact PyProof.Rows.is_none_gen ⟨_, rfl, by rw [hv.isNone]; exact h, R, .refl ..⟩⟩
theorem cmp_isnot {p : PV} (h : P (!p.isNone)) : Cmp c .IsNot p (.k .none) σ P := ⟨fun A n s v u R hv hu => by
  cases hu; exact PyProof.Rows.isnot_none_gen ⟨_, rfl, by rw [hv.isNone]; exact h, R, .refl ..⟩⟩

theorem cmp_in (h : P (!(Builtin.Str.occurrences x y 0 x.length 1).isEmpty)) : Cmp c .In (.str y) (.str x) σ P := ⟨fun A n s v u R hv hu => by
  cases hv; cases hu; exact PyProof.Rows.in_str ⟨_, rfl, h, R, .refl ..⟩⟩
theorem cmp_notin (h : P (!(!(Builtin.Str.occurrences x y 0 x.length 1).isEmpty))) : Cmp c .NotIn (.str y) (.str x) σ P := ⟨fun A n s v u R hv hu => by
  cases hv; cases hu; exact PyProof.Rows.notIn_str ⟨_, rfl, h, R, .refl ..⟩⟩
end
end Mine
end A9
section A10
open PySem PySem.W PySem.Calls PyProof.Rows
set_option maxRecDepth 10000
set_option linter.unusedVariables false
namespace Mine

noncomputable abbrev T (l : List Nat) : PySem.Str := ⟨l.toArray⟩

structure It (c : Cx) (o i : PV) (σ : Sto) (Φ : NPr) : Prop where
  run : ∀ value slice A n s v u, CRel c A n σ s → VR s.heap o v → VR s.heap i u → subscripted slice false v u = operate [v, u] (getItem v u) →
    wpAny c.M A (subscriptTail value slice v u) (CNP c A n σ s Φ) (fun _ _ => False) s
structure Sl (c : Cx) (o : PV) (l u : Option Int) (σ : Sto) (Φ : NPr) : Prop where
  run : ∀ value slice A n s v vl vu, CRel c A n σ s → VR s.heap o v → IsPart vl l → IsPart vu u →
    subscripted slice false v (.ref s.heap.objs.size) = operate [.ref s.heap.objs.size, v] (getItem v (.ref s.heap.objs.size)) →
    wpAny c.M A (subscriptTail value slice v (.ref s.heap.objs.size)) (CNP c A n σ s Φ) (fun _ _ => False) { s with heap := s.heap.push { cls := .type "slice", data := .fields #[vl, vu, .none] } }

section
variable {c : Cx} {fm : Fm} {loc : Loc} {σ : Sto} {Φ : NPr} {X : XPr}

theorem ev_item {value slice : Expr} {pos : Pos} (h : E c fm value loc σ (fun o σ1 => E c fm slice loc σ1 (fun i σ2 => It c o i σ2 Φ) X) X)
    (hs : ∀ v u, subscripted slice false v u = operate [v, u] (getItem v u) := by intro _ _; rfl) : E c fm (.Subscript value slice pos) loc σ Φ X := ⟨fun s R => by
  refine Subscript_ (wpAny_mono (h.run s R) (fun v s1 x => ?_) fun _ _ x => x)
  obtain ⟨a, σ1, h1, va, R1, S1⟩ := x
  refine wpAny_mono (h1.run s1 R1) (fun u s2 x => ?_) fun _ _ x => x.trans S1
  obtain ⟨b, σ2, h2, vb, R2, S2⟩ := x
  exact wpAny_mono (h2.run _ _ _ _ _ _ _ R2.cr (va.mv S2.mv) vb (hs _ _)) (fun _ _ x => ((x.lift R2).trans S2).trans S1) fun _ _ x => x.elim⟩

noncomputable def EO (c : Cx) (fm : Fm) (loc : Loc) (X : XPr) : Option Expr → Sto → (Option Int → Sto → Prop) → Prop
  | none, σ, P => P none σ
  | some e, σ, P => E c fm e loc σ (fun p σ1 => ∃ i, p = .int i ∧ P (some i) σ1) X
theorem eo_run {e : Option Expr} {P : Option Int → Sto → Prop} {s : Shared} (h : EO c fm loc X e σ P) (R : Rel c fm loc σ s) :
    wpAny c.M fm.A (evalPart e fm.env) (fun v s' => ∃ l σ', IsPart v l ∧ P l σ' ∧ Rel c fm loc σ' s' ∧ Step fm σ s σ' s') (XP c fm σ s X) s := by
  cases e with
  | none => exact evalPart_none_step ⟨none, σ, .none, h, R, .refl ..⟩
  | some e =>
    refine evalPart_some_step (wpAny_mono (E.run h s R) (fun v s1 x => ?_) fun _ _ x => x)
    obtain ⟨a, σ1, ⟨i, rfl, hi⟩, va, R1, S1⟩ := x
    cases va
    exact ⟨some i, σ1, .int .., hi, R1, S1⟩

theorem ev_slice {value : Expr} {lower upper : Option Expr} {p pos : Pos} (h : E c fm value loc σ (fun o σ1 => EO c fm loc X lower σ1 (fun l σ2 => EO c fm loc X upper σ2 (fun u σ3 => Sl c o l u σ3 Φ))) X) :
    E c fm (.Subscript value (.Slice lower upper none p) pos) loc σ Φ X := ⟨fun s R => by
  refine Subscript_ (wpAny_mono (h.run s R) (fun v s1 x => ?_) fun _ _ x => x)
  obtain ⟨a, σ1, h1, va, R1, S1⟩ := x
  refine wpAny_Slice (wpAny_mono (eo_run h1 R1) (fun vl s2 x => ?_) fun _ _ x => x.trans S1)
  obtain ⟨l, σ2, pl, h2, R2, S2⟩ := x
  refine wpAny_mono (eo_run h2 R2) (fun vu s3 x => ?_) fun _ _ x => (x.trans S2).trans S1
  obtain ⟨u, σ3, pu, h3, R3, S3⟩ := x
  refine evalPart_none_step ?_
  exact wpAny_mono (h3.run _ _ _ _ _ _ _ _ R3.cr ((va.mv S2.mv).mv S3.mv) pl pu rfl) (fun _ _ x => (((x.lift R3).trans S3).trans S2).trans S1) fun _ _ x => x.elim⟩

theorem CRel.listAt {A : Around} {n : Nat} {s : Shared} (R : CRel c A n σ s) {a : Addr} {l : List PV} (e : σ a = some (.list l)) : ∃ vs k, s.heap.get? a = some (W.listOf (List.toArray vs) k) ∧ VRs s.heap l vs := R.sto a _ e
theorem isList_of {h : Heap} {a : Addr} {vs : List Value} {k : Nat} (e : h.get? a = some (W.listOf (List.toArray vs) k)) : h.IsList a (List.toArray vs) := ⟨_, e, rfl, k, rfl⟩

theorem it_list {a : Addr} {l : List PV} {i : Int} {p : PV} (ha : σ a = some (.list l)) (h0 : 0 ≤ i) (hi : i < 2 ^ 63) (hp : l[i.toNat]? = some p) (h : Φ p σ) : It c (.k (.ref a)) (.int i) σ Φ := ⟨fun value slice A n s v u R hv hu hs => by
  cases hv; cases hu
  obtain ⟨vs, k, e, r⟩ := R.listAt ha
  obtain ⟨x, ex, rx⟩ := r.get hp
  have hl := isList_of e
  exact tail_any hl.typeIs slot_list_getitem.lookup (wpAny_getItem_list hl h0 hi (by simpa using ex) ⟨p, σ, h, rx, R, .refl ..⟩) hs⟩
end
end Mine
end A10
section A11
open PySem PySem.W PySem.Calls PyProof.Rows
set_option maxRecDepth 10000
set_option linter.unusedVariables false
namespace Mine

theorem T_len (l : List Nat) : (T l).length = l.length := by show l.toArray.size = _; rw [List.size_toArray]
theorem T_list (l : List Nat) : (T l).cps.toList = l := rfl
theorem T_append (a b : List Nat) : T a ++ T b = T (a ++ b) := by
  show PySem.Str.mk (a.toArray ++ b.toArray) = _
  rw [List.append_toArray]
theorem T_inj {a b : List Nat} (h : T a = T b) : a = b := by have := congrArg (fun x => x.cps.toList) h; exact this
theorem T_beq (a b : List Nat) : (T a == T b) = (a == b) := by
  by_cases h : a = b
  · subst h; rw [beq_self_eq_true, beq_self_eq_true]
  · rw [beq_eq_false_iff_ne.mpr h, beq_eq_false_iff_ne.mpr fun q => h (T_inj q)]
theorem T_bne (a b : List Nat) : (T a != T b) = (a != b) := by
  show (!(T a == T b)) = (!(a == b)); rw [T_beq]
theorem T_of (x : PySem.Str) : x = T x.cps.toList := by cases x; rfl

theorem sliceMade_post {x : PySem.Str} {t : Tok} {l u : Option (Int × Tok)} {Q : Value → Shared → Prop} {s : Shared} (hsz : (StrLaws.sliceText x (l.map (·.1)) (u.map (·.1))).length ≤ sizeLine)
    (h : ∀ tk k, s.toks ≤ k → Q (.str (StrLaws.sliceText x (l.map (·.1)) (u.map (·.1))) tk) { s with toks := k }) : (sliceMade x t l u none).post Q s := by
  unfold sliceMade
  unfold StrLaws.sliceText at h hsz
  simp only [Option.map_none, Option.getD_none] at h hsz ⊢
  by_cases q : (((1 : Int) == 1) && (slicePicked x l u none).length == x.length) = true
  · rw [if_pos q]
    rw [if_pos (by exact q)] at h
    exact h t s.toks (Nat.le_refl _)
  · rw [if_neg q]
    rw [if_neg (by exact q)] at h hsz
    exact ⟨hsz, h _ _ (Nat.le_succ _)⟩

theorem clip_hi {b len : Nat} (l : Option Int) : Builtin.Str.strSliceIndices l (some (b : Int)) 1 len = Builtin.Str.strSliceIndices l (some ((min b len : Nat) : Int)) 1 len := by
  unfold Builtin.Str.strSliceIndices
  have e : max (0 : Int) (min (b : Int) (len : Int)) = max 0 (min ((min b len : Nat) : Int) (len : Int)) := by omega
  have h1 : ¬ ((b : Int) < 0) := by omega
  have h2 : ¬ (((min b len : Nat) : Int) < 0) := by omega
  simp only [h1, h2, if_false, show ((1 : Int) > 0) = True from by simp, if_true, e]

theorem cut_min {α : Type} (l : List α) (i j : Nat) : (l.drop i).take (min j l.length - i) = (l.drop i).take (j - i) := by
  rcases Nat.le_total j l.length with h | h
  · rw [Nat.min_eq_left h]
  · rw [Nat.min_eq_right h, List.take_of_length_le (Nat.le_of_eq List.length_drop), List.take_of_length_le (Nat.le_trans (Nat.le_of_eq List.length_drop) (Nat.sub_le_sub_right h i))]
theorem clip_min (n k : Nat) : clipAt n (k : Int) = min k n := by
  show (max 0 (min (if (k : Int) < 0 then (k : Int) + n else k) (n : Int))).toNat = _
  rw [if_neg (Int.not_lt.mpr (Int.natCast_nonneg k)), ← Lean.Omega.Int.ofNat_min, Int.max_eq_right (Int.natCast_nonneg _), Int.toNat_natCast]
theorem sliceT {l : List Nat} {i j : Nat} (hij : i ≤ j) (hi : i ≤ l.length) : StrLaws.sliceText (T l) (some (i : Int)) (some (j : Int)) = T ((l.drop i).take (j - i)) := by
  have e : StrLaws.sliceText (T l) (some (i : Int)) (some (j : Int)) = StrLaws.sliceText (T l) (some (i : Int)) (some ((min j l.length : Nat) : Int)) := by
    unfold StrLaws.sliceText
    rw [T_len, clip_hi]
  rw [e, StrLaws.sliceText_nat (T l) (by omega) (by rw [T_len]; omega)]
  show T ((l.drop i).take (min j l.length - i)) = _
  rw [cut_min]
theorem sliceT_to {l : List Nat} {j : Nat} : StrLaws.sliceText (T l) none (some (j : Int)) = T (l.take j) := by
  have e : StrLaws.sliceText (T l) none (some (j : Int)) = StrLaws.sliceText (T l) (some ((0 : Nat) : Int)) (some (j : Int)) := by
    unfold StrLaws.sliceText
    rw [StrLaws.sliceIdx_none_lo]; rfl
  rw [e, sliceT (Nat.zero_le _) (Nat.zero_le _)]; simp
theorem sliceT_from {l : List Nat} {i : Nat} (hi : i ≤ l.length) : StrLaws.sliceText (T l) (some (i : Int)) none = T (l.drop i) := by
  have e : StrLaws.sliceText (T l) (some (i : Int)) none = StrLaws.sliceText (T l) (some (i : Int)) (some (l.length : Int)) := by
    unfold StrLaws.sliceText
    rw [StrLaws.sliceIdx_none_hi, T_len]
  rw [e, sliceT hi hi, ← List.length_drop, List.take_length]

theorem part_of {v : Value} {o : Option Int} (h : IsPart v o) : ∃ l : Option (Int × Tok), v = partValue l ∧ l.map (·.1) = o := by
  cases h with
  | none => exact ⟨none, rfl, rfl⟩
  | int i t => exact ⟨some (i, t), rfl, rfl⟩

section
variable {c : Cx} {fm : Fm} {loc : Loc} {σ : Sto} {Φ : NPr} {X : XPr}

theorem it_str {l : List Nat} {i : Int} {x : Nat} (h0 : 0 ≤ i) (hi : i < 2 ^ 63) (hp : l[i.toNat]? = some x) (h : Φ (.str (T [x])) σ) : It c (.str (T l)) (.int i) σ Φ := ⟨fun value slice A n s v u R hv hu hs => by
  cases hv; cases hu
  refine tail_any (typeIs_str s _ _) PySem.F.slot_str_getitem.lookup (getItem_str ?_ (StrLaws.at_nonneg h0 (by show l.toArray[i.toNat]? = _; simpa using hp)) ⟨_, _, h, .str _ _, R.toks _, .toks ..⟩) hs
  rw [Bool.or_eq_false_iff]
  exact ⟨decide_eq_false (by omega), decide_eq_false (by omega)⟩⟩

theorem sl_str {l y : List Nat} {lo up : Option Int} (e : StrLaws.sliceText (T l) lo up = T y) (hsz : y.length ≤ sizeLine) (h : Φ (.str (T y)) σ) : Sl c (.str (T l)) lo up σ Φ := ⟨fun value slice A n s v vl vu R hv pl pu hs => by
  cases hv
  obtain ⟨l', rfl, e1⟩ := part_of pl
  obtain ⟨u', rfl, e2⟩ := part_of pu
  subst e1 e2
  refine tail_any (typeIs_str _ _ _) PySem.F.slot_str_getitem.lookup (wpAny_getItem_str_slice (l := l') (u := u') (st := none) ⟨_, Heap.get?_push_size _ rfl, rfl, rfl⟩ rfl (sliceMade_post (by rw [e, T_len]; exact hsz) fun tk k ht => ?_)) hs
  have G := R.grow (h' := s.heap.push { cls := .type "slice", data := .fields #[partValue l', partValue u', .none] }) (fun b o q => Heap.get?_push_of_some _ q) (push_le _ _) k
  exact ⟨_, _, h, by rw [e]; exact .str _ _, G.1, G.2⟩⟩

noncomputable def clipI (n : Nat) (i : Int) : Nat := clipAt n i
theorem sl_list {a : Addr} {l : List PV} {lo up : Option Int} (ha : σ a = some (.list l)) (hz : l.length ≤ sizeLine)
    (h : ∀ b, σ b = none → Φ (.k (.ref b)) (upd σ b (.list ((l.drop (lo.elim 0 (clipAt l.length))).take (up.elim l.length (clipAt l.length) - lo.elim 0 (clipAt l.length)))))) : Sl c (.k (.ref a)) lo up σ Φ := ⟨fun value slice A n s v vl vu R hv pl pu hs => by
  cases hv
  obtain ⟨vs, k, e, r⟩ := R.listAt ha
  have hl := isList_of e
  have G := R.grow (h' := s.heap.push { cls := .type "slice", data := .fields #[vl, vu, .none] }) (fun b o q => Heap.get?_push_of_some _ q) (push_le _ _) s.toks
  have hl' : (s.heap.push { cls := .type "slice", data := .fields #[vl, vu, .none] }).IsList a vs.toArray := ⟨_, Heap.get?_push_of_some _ e, rfl, k, rfl⟩
  refine tail_any (hl'.typeIs (s := { s with heap := s.heap.push _ })) slot_list_getitem.lookup (wpAny_getItem_list_slice (s := { s with heap := s.heap.push { cls := .type "slice", data := .fields #[vl, vu, .none] } }) hl' ⟨_, Heap.get?_push_size _ rfl, rfl, rfl⟩ pl pu .none (by decide) ?_ (by rw [List.size_toArray, r.length]; exact hz)) hs
  have hz' : (s.heap.push { cls := .type "slice", data := .fields #[vl, vu, .none] }).objs.size = s.heap.objs.size + 1 := Heap.size_push ..
  have sp : slicePick vs.toArray lo up none = (List.toArray ((vs.drop (lo.elim 0 (clipAt l.length))).take (up.elim l.length (clipAt l.length) - lo.elim 0 (clipAt l.length)))) := by
    rw [slicePick_plain, List.size_toArray, r.length]
  have r' := (r.mv G.2.mv).drop (lo.elim 0 (clipAt l.length)) |>.take (up.elim l.length (clipAt l.length) - lo.elim 0 (clipAt l.length))
  have Al := G.1.alloc (h' := (s.heap.push { cls := .type "slice", data := .fields #[vl, vu, .none] }).push { cls := .type "list", data := .seq (slicePick vs.toArray lo up none) })
    (a := (s.heap.push { cls := .type "slice", data := .fields #[vl, vu, .none] }).objs.size) (ao := .list _) (fun b o q => Heap.get?_push_of_some _ q) (push_le _ _) s.toks (Nat.le_refl _)
    ⟨_, 0, by rw [sp]; exact Heap.get?_push_size _ rfl, r'.mv (Mv.push (fun _ => False) _ _)⟩ (fun d q => by cases q)
  exact ⟨_, _, h _ Al.2.2, .k _, Al.1, G.2.trans Al.2.1⟩⟩
end
end Mine
end A11
section A12
open PySem PySem.W PySem.Calls PyProof.Rows
set_option maxRecDepth 10000
set_option linter.unusedVariables false
namespace Mine

structure ItW (c : Cx) (A : Around) (I : Addr) (W : Addr → Prop) (tg : Expr → Prop) (items : List PV) (Keep : Sto → Prop) (St : Nat → Heap → Prop) (Md : Nat → Value → Heap → Prop) : Prop where
  here : W I
  at_ : ∀ i h a, St i h → W a → ∃ o, h.get? a = some o ∧ ¬ IsD o ∧ ¬ IsT o
  frame : ∀ i h h' S, St i h → Mv S h h' → (∀ a o, W a → h.get? a = some o → h'.get? a = some o) → St i h'
  item : ∀ i n σ s p (Q : Option Value → Shared → Prop) (E : Value → Shared → Prop), items[i]? = some p → St i s.heap → CRel c A n σ s → Keep σ →
    (∀ v h' tk, VR h' p v → Md (i + 1) v h' → Ex W s.heap h' → Q (some v) { s with heap := h', toks := tk }) → wpAny c.M A (pyNext (.ref I)) Q E s
  done : ∀ n σ s (Q : Option Value → Shared → Prop) (E : Value → Shared → Prop), St items.length s.heap → CRel c A n σ s → Keep σ →
    (∀ h' tk, (∀ b o, ¬ W b → s.heap.get? b = some o → h'.get? b = some o) → s.heap.objs.size ≤ h'.objs.size → Q none { s with heap := h', toks := tk }) → wpAny c.M A (pyNext (.ref I)) Q E s
  self : ∀ i s (Q : Value → Shared → Prop) (E : Value → Shared → Prop), St i s.heap → Q (.ref I) s → wpAny c.M A (pyIter (.ref I)) Q E s
  own : ∀ i s target v (Q : Unit → Shared → Prop) (E : Value → Shared → Prop), tg target → Md i v s.heap → (∀ h', St i h' → Ex W s.heap h' → Q () { s with heap := h' }) → wpAny c.M A (letOwnedTupleGo target (.ref I) v) Q E s

structure ItW1 (c : Cx) (A : Around) (I : Addr) (items : List PV) (Keep : Sto → Prop) (St : Nat → Heap → Prop) : Prop where
  at_ : ∀ i h, St i h → ∃ o, h.get? I = some o ∧ ¬ IsD o ∧ ¬ IsT o
  frame : ∀ i h h' S, St i h → Mv S h h' → (∀ o, h.get? I = some o → h'.get? I = some o) → St i h'
  item : ∀ i n σ s p (Q : Option Value → Shared → Prop) (E : Value → Shared → Prop), items[i]? = some p → St i s.heap → CRel c A n σ s → Keep σ →
    (∀ v h' tk, VR h' p v → St (i + 1) h' → Ex (· = I) s.heap h' → Q (some v) { s with heap := h', toks := tk }) → wpAny c.M A (pyNext (.ref I)) Q E s
  done : ∀ n σ s (Q : Option Value → Shared → Prop) (E : Value → Shared → Prop), St items.length s.heap → CRel c A n σ s → Keep σ →
    (∀ h' tk, Heap.ExtBut I s.heap h' → s.heap.objs.size ≤ h'.objs.size → Q none { s with heap := h', toks := tk }) → wpAny c.M A (pyNext (.ref I)) Q E s
  self : ∀ i s (Q : Value → Shared → Prop) (E : Value → Shared → Prop), St i s.heap → Q (.ref I) s → wpAny c.M A (pyIter (.ref I)) Q E s
  own : ∀ i s target v (Q : Unit → Shared → Prop) (E : Value → Shared → Prop), St i s.heap → Q () s → wpAny c.M A (letOwnedTupleGo target (.ref I) v) Q E s

theorem own_of {M : Model} {A : Around} {s : Shared} {I : Addr} {o : Obj} {ty : String} {target : Expr} {v : Value} {Q : Unit → Shared → Prop} {E : Value → Shared → Prop} (e : s.heap.get? I = some o) (hc : o.cls = .type ty)
    (hT : ["enumerate", "zip", "dict_itemiterator", "dict_reverseitemiterator", "odict_iterator", "itertools.zip_longest", "itertools.pairwise"].contains ty = false) (h : Q () s) : wpAny M A (letOwnedTupleGo target (.ref I) v) Q E s := by
  have go : wpAny M A (do
    let (.ref r, .ref a) := (Value.ref I, v) | return
    let o ← load r
    match o.cls, o.data with
    | .type n, .fields vs =>
      if ["enumerate", "zip", "dict_itemiterator", "dict_reverseitemiterator", "odict_iterator", "itertools.zip_longest", "itertools.pairwise"].contains n && vs[0]? == some (rawInt a) then
        rule "for.unpacks-the-owned-tuple"
        updateField r 0 .none
    | _, _ => pure ()) Q E s := by
    cases v <;> try exact wpAny_pure h
    refine wpAny_bind (wpAny_load e ?_)
    obtain ⟨oc, od, oda, osl⟩ := o
    dsimp only at hc
    subst hc
    cases oda <;> try exact wpAny_pure h
    dsimp only
    rw [hT, Bool.false_and]
    exact wpAny_pure h
  unfold letOwnedTupleGo
  cases target <;> first | exact go | exact wpAny_pure h

structure Src (c : Cx) (p : PV) (items : List PV) (σ : Sto) (Keep : Sto → Prop) (tg : Expr → Prop := fun _ => True) : Prop where
  run : ∀ A n s v (Q : Value → Shared → Prop) (E : Value → Shared → Prop), A.handled = none → CRel c A n σ s → VR s.heap p v →
    (∀ I W St Md h', ItW c A I W tg items Keep St Md → St 0 h' → (∀ a, W a → s.heap.objs.size ≤ a) → (∀ b o, s.heap.get? b = some o → h'.get? b = some o) → Q (.ref I) { s with heap := h' }) → wpAny c.M A (pyIter v) Q E s
theorem Ex.refl (S : Addr → Prop) (h : Heap) : Ex S h h := .of_keeps (fun _ _ e => e) (Nat.le_refl _)

theorem ItW1.gen {c : Cx} {A : Around} {I : Addr} {items : List PV} {Keep : Sto → Prop} {St : Nat → Heap → Prop} (x : ItW1 c A I items Keep St) : ItW c A I (· = I) (fun _ => True) items Keep St (fun i _ h => St i h) :=
  ⟨rfl, fun i h a st e => e ▸ x.at_ i h st, fun i h h' S st m k => x.frame i h h' S st m fun o => k I o rfl, x.item, fun n σ s Q E st R hk q => x.done n σ s Q E st R hk fun h' tk b z => q h' tk (fun a o n e => b a o n e) z, x.self,
   fun i s target v Q E _ st q => x.own i s target v Q E st (q s.heap st (.refl _ _))⟩
theorem Src.of1 {c : Cx} {p : PV} {items : List PV} {σ : Sto} {Keep : Sto → Prop} (h : ∀ A n s v (Q : Value → Shared → Prop) (E : Value → Shared → Prop), A.handled = none → CRel c A n σ s → VR s.heap p v →
    (∀ I St h', ItW1 c A I items Keep St → St 0 h' → s.heap.objs.size ≤ I → (∀ b o, s.heap.get? b = some o → h'.get? b = some o) → Q (.ref I) { s with heap := h' }) → wpAny c.M A (pyIter v) Q E s) : Src c p items σ Keep :=
  ⟨fun A n s v Q E hh R hv k => h A n s v Q E hh R hv fun I St h' W st z g => k I _ St _ h' W.gen st (fun a q => q ▸ z) g⟩

theorem noD {o : Obj} {vs : Array Value} (h : o.data = .fields vs) : ¬ IsD o := fun ⟨_, _, q⟩ => by rw [h] at q; cases q
theorem noT {o : Obj} {vs : Array Value} (h : o.data = .fields vs) : ¬ IsT o := fun ⟨_, _, _, q⟩ => by rw [h] at q; cases q
theorem Ex.iter {h h' : Heap} {a : Addr} {o o' : Obj} {vs : Array Value} (x : Heap.SameBut a h h') (e : h.get? a = some o) (e' : h'.get? a = some o') (hd : o.data = .fields vs) : Ex (· = a) h h' :=
  Ex.sameBut x e e' (fun q => absurd q (noD hd)) (noT hd)

section
variable {c : Cx} {σ : Sto}

theorem src_list {a : Addr} {l : List PV} (ha : σ a = some (.list l)) : Src c (.k (.ref a)) l σ (fun τ => τ a = some (.list l)) := .of1 fun A n s v Q E hh R hv h => by
  cases hv
  obtain ⟨vs, k, e, r⟩ := R.listAt ha
  have hl := isList_of e
  refine wpAny_pyIter_list hl (h s.heap.objs.size (fun i h => h.IsListIter s.heap.objs.size a i) _ ?_ ⟨_, Heap.get?_push_size _ rfl, rfl, rfl⟩ (Nat.le_refl _) fun b o q => Heap.get?_push_of_some _ q)
  refine ⟨fun i h ⟨o, e, _, d⟩ => ⟨o, e, noD d, noT d⟩, fun i h h' S ⟨o, e, q⟩ _ k => ⟨o, k o e, q⟩, fun i n τ s' p Q E hp st R' hk hQ => ?_, fun n τ s' Q E st R' hk hQ => ?_, fun i s' Q E st hQ => wpAny_pyIter_listiter st hQ, fun i s' tg v Q E ⟨o, e, hc, _⟩ hQ => own_of e hc (by decide +kernel) hQ⟩
  · obtain ⟨vs', k', e', r'⟩ := R'.listAt hk
    obtain ⟨x, ex, rx⟩ := r'.get hp
    refine wpAny_pyNext_list_item st (isList_of e') (x := x) (by simpa using ex) fun h' st' sb => ?_
    obtain ⟨o, eo, _, d⟩ := st
    have st2 := st'
    obtain ⟨o', eo', _⟩ := st'
    have X := Ex.iter sb eo eo' d
    exact hQ x h' s'.toks (rx.mv X.mv) st2 X
  · obtain ⟨vs', k', e', r'⟩ := R'.listAt hk
    exact wpAny_size <| wpAny_pyNext_list_end hh st (isList_of e') (by rw [List.getElem?_toArray, List.getElem?_eq_none]; rw [r'.length]; exact Nat.le_refl _) fun h' x z => hQ h' s'.toks x z

theorem src_tup {l : List PV} : Src c (.tup l) l σ (fun _ => True) := .of1 fun A n s v Q E hh R hv h => by
  cases hv with
  | tup e ec ed eq r =>
    rename_i a o vs k
    have it : s.heap.IsTuple a vs.toArray := ⟨_, e, ec, _, eq⟩
    refine wpAny_pyIter_tuple it (h s.heap.objs.size (fun i h => h.IsTupleIter s.heap.objs.size a i ∧ ∃ o, h.get? a = some o ∧ o.cls = .type "tuple" ∧ o.data = .seq vs.toArray k ∧ VRs h l vs) _ ?_ ?_ (Nat.le_refl _) fun b o q => Heap.get?_push_of_some _ q)
    · refine ⟨fun i h ⟨⟨o, e, _, d⟩, _⟩ => ⟨o, e, noD d, noT d⟩, fun i h h' S ⟨⟨o, e, q⟩, ⟨o2, e2, q2, q3, q4⟩⟩ m k => ⟨⟨o, k o e, q⟩, o2, m.tup _ _ e2 ⟨q2, _, _, q3⟩, q2, q3, q4.mv m⟩,
        fun i n τ s' p Q E hp st R' hk hQ => ?_, fun n τ s' Q E st R' hk hQ => ?_, fun i s' Q E st hQ => wpAny_pyIter_tupleiter st.1 hQ, fun i s' tg v Q E ⟨⟨o, e, hc, _⟩, _⟩ hQ => own_of e hc (by decide +kernel) hQ⟩
      · obtain ⟨st, o2, e2, q2, q3, q4⟩ := st
        obtain ⟨x, ex, rx⟩ := q4.get hp
        refine wpAny_pyNext_tuple_item st ⟨o2, e2, q2, _, q3⟩ (x := x) (by simpa using ex) fun h' st' sb => ?_
        obtain ⟨o, eo, _, d⟩ := st
        have st2 := st'
        obtain ⟨o', eo', _⟩ := st'
        have X := Ex.iter sb eo eo' d
        exact hQ x h' s'.toks (rx.mv X.mv) ⟨st2, o2, X.tup _ _ e2 ⟨q2, _, _, q3⟩, q2, q3, q4.mv X.mv⟩ X
      · obtain ⟨st, o2, e2, q2, q3, q4⟩ := st
        exact wpAny_size <| wpAny_pyNext_tuple_end hh st ⟨o2, e2, q2, _, q3⟩ (by rw [List.getElem?_toArray, List.getElem?_eq_none]; rw [q4.length]; exact Nat.le_refl _) fun h' x z => hQ h' s'.toks x z
    · exact ⟨⟨_, Heap.get?_push_size _ rfl, rfl, rfl⟩, _, Heap.get?_push_of_some _ e, ec, eq, r.mv (Mv.push (fun _ => False) _ _)⟩

noncomputable def rangePV (n : Int) : List PV := (List.range n.toNat).map fun (i : Nat) => .int (i : Int)
theorem rangePV_get {n : Int} {i : Nat} {p : PV} (h : (rangePV n)[i]? = some p) : p = .int (i : Int) ∧ (i : Int) < n := by
  unfold rangePV at h
  rw [List.getElem?_map, Option.map_eq_some_iff] at h
  obtain ⟨j, h1, h2⟩ := h
  obtain ⟨h3, h4⟩ := List.getElem?_eq_some_iff.mp h1
  rw [List.getElem_range] at h4
  subst h4
  exact ⟨h2.symm, by rw [List.length_range] at h3; omega⟩
theorem rangePV_len (n : Int) : (rangePV n).length = n.toNat := by unfold rangePV; rw [List.length_map, List.length_range]
theorem src_range {a : Addr} {n : Int} (ha : σ a = some (.range n)) (hn0 : -(2 ^ 60) < n) (hn : n < 2 ^ 60) : Src c (.k (.ref a)) (rangePV n) σ (fun _ => True) := .of1 fun A k s v Q E hh R hv h => by
  cases hv
  obtain ⟨t, u, v, e⟩ := R.sto a _ ha
  have hz : Builtin.Range.rangeSize 0 n 1 = (n.toNat : Int) := by
    unfold Builtin.Range.rangeSize
    rw [if_pos (by decide)]
    split <;> omega
  refine wpAny_pyIter_range e ?_ (h s.heap.objs.size (fun i h => IsRangeIter h s.heap.objs.size (i : Int) ((n.toNat : Int) - (i : Int)) 1) _ ?_ ?_ (Nat.le_refl _) fun b o q => Heap.get?_push_of_some _ q)
  · unfold Builtin.Range.small
    rw [hz]
    simp only [Builtin.Range.rangeFitsLong, Bool.and_eq_true, decide_eq_true_eq, Bool.or_eq_true]
    refine ⟨⟨⟨⟨⟨by omega, by omega⟩, by omega, by omega⟩, by omega, by omega⟩, by omega, by omega⟩, .inr ?_⟩
    rw [if_pos (by decide)]
    simp only [Bool.and_eq_true, decide_eq_true_eq]
    omega
  · refine ⟨fun i h e => ⟨_, e, noD rfl, noT rfl⟩, fun i h h' S e _ k => k _ e, fun i n' τ s' p Q E hp st R' hk hQ => ?_, fun n' τ s' Q E st R' hk hQ => ?_, fun i s' Q E st hQ => wpAny_pyIter_rangeiter st hQ, fun i s' tg v Q E e hQ => own_of e rfl (by decide +kernel) hQ⟩
    · obtain ⟨rfl, hlt⟩ := rangePV_get hp
      refine wpAny_pyNext_range_item st (by omega) fun h' st' sb => ?_
      refine hQ _ h' _ (.int _ _) ?_ (Ex.iter sb st st' rfl)
      have e1 : ((i + 1 : Nat) : Int) = (i : Int) + 1 := by omega
      have e2 : ((n.toNat : Int) - ((i + 1 : Nat) : Int)) = (n.toNat : Int) - (i : Int) - 1 := by omega
      show IsRangeIter h' _ ((i + 1 : Nat) : Int) ((n.toNat : Int) - ((i + 1 : Nat) : Int)) 1
      rw [e2, e1]
      exact st'
    · exact wpAny_size <| wpAny_pyNext_range_end hh st (by rw [rangePV_len]; omega) fun h' x z => hQ h' s'.toks x z
  · show IsRangeIter _ _ ((0 : Nat) : Int) ((n.toNat : Int) - ((0 : Nat) : Int)) 1
    rw [hz]
    have e3 : ((n.toNat : Int) - ((0 : Nat) : Int)) = (n.toNat : Int) := by omega
    rw [e3]
    exact Heap.get?_push_size _ rfl

noncomputable def signsPV (l : List Nat) : List PV := l.map fun x => .str (T [x])
theorem signsPV_get {l : List Nat} {i : Nat} {p : PV} (h : (signsPV l)[i]? = some p) : ∃ x, l[i]? = some x ∧ p = .str (T [x]) := by
  unfold signsPV at h
  rw [List.getElem?_map, Option.map_eq_some_iff] at h
  obtain ⟨x, h1, h2⟩ := h
  exact ⟨x, h1, h2.symm⟩
theorem src_str {l : List Nat} (hl : ∀ x ∈ l, x < 128) : Src c (.str (T l)) (signsPV l) σ (fun _ => True) := .of1 fun A k s v Q E hh R hv h => by
  cases hv with
  | str _ t =>
  refine wpAny_pyIter_ascii (by
    rw [Array.all_eq_true]
    intro i hi
    exact decide_eq_true (hl _ (by show l.toArray[i] ∈ l; simp))) (h s.heap.objs.size (fun i h => h.IsStrIter s.heap.objs.size "str_ascii_iterator" (T l) t i) _ ?_ ⟨_, Heap.get?_push_size _ rfl, rfl, rfl⟩ (Nat.le_refl _) fun b o q => Heap.get?_push_of_some _ q)
  refine ⟨fun i h ⟨o, e, _, d⟩ => ⟨o, e, noD d, noT d⟩, fun i h h' S ⟨o, e, q⟩ _ k => ⟨o, k o e, q⟩, fun i n τ s' p Q E hp st R' hk hQ => ?_, fun n τ s' Q E st R' hk hQ => ?_, fun i s' Q E st hQ => wpAny_pyIter_striter_ascii st hQ, fun i s' tg v Q E ⟨o, e, hc, _⟩ hQ => own_of e hc (by decide +kernel) hQ⟩
  · obtain ⟨x, hx, rfl⟩ := signsPV_get hp
    refine wpAny_pyNext_ascii_item st (c := x) (by show l.toArray[i]? = _; simpa using hx) fun h' st' sb => ?_
    obtain ⟨o, eo, _, d⟩ := st
    have st2 := st'
    obtain ⟨o', eo', _⟩ := st'
    exact hQ _ h' _ (.str _ _) st2 (Ex.iter sb eo eo' d)
  · exact wpAny_size <| wpAny_pyNext_ascii_end hh st (by show l.toArray[_]? = _; rw [List.getElem?_toArray, List.getElem?_eq_none]; unfold signsPV; rw [List.length_map]; exact Nat.le_refl _) fun h' x z => hQ h' s'.toks x z
end
end Mine
end A12
section A13
open PySem PySem.W PySem.Calls PyProof.Rows
set_option maxRecDepth 10000
set_option linter.unusedVariables false
namespace Mine

theorem Ex.extBut {h h' : Heap} {W : Addr → Prop} (x : ∀ b o, ¬ W b → h.get? b = some o → h'.get? b = some o) (z : h.objs.size ≤ h'.objs.size) (e : ∀ a, W a → ∃ o, h.get? a = some o ∧ ¬ IsD o ∧ ¬ IsT o) : Ex W h h' := by
  refine ⟨fun b o' e' n => x b o' n e', fun b o' e' n' => ?_, fun b o' e' t => ?_, z⟩
  · refine ⟨o', x b o' (fun q => ?_) e', n'⟩
    obtain ⟨o, e1, e2, e3⟩ := e b q; rw [e1] at e'; cases e'; exact e2 n'
  · refine x b o' (fun q => ?_) e'
    obtain ⟨o, e1, e2, e3⟩ := e b q; rw [e1] at e'; cases e'; exact e3 t

section
variable {c : Cx} {fm : Fm} {loc : Loc} {σ : Sto} {s : Shared}

theorem Rel.lt (R : Rel c fm loc σ s) : fm.L < s.heap.objs.size := by
  obtain ⟨m, hn, _⟩ := R.ns
  exact hn.lt

theorem Rel.side (R : Rel c fm loc σ s) {h' : Heap} {W : Addr → Prop} (x : Ex W s.heap h') (hf : ∀ a, W a → ¬ CFoot σ a) (hL : ¬ W fm.L) (hb : ∀ a, W a → c.h₀.get? a = none) (t : Nat) (ht : s.toks ≤ t) : Rel c fm loc σ { s with heap := h', toks := t } := by
  obtain ⟨m, hn, hl⟩ := R.ns
  refine ⟨R.cr.move (s' := { s with heap := h', toks := t }) x (fun a q => hb a q) rfl rfl (fun a o e => .inl ⟨e, fun q => hf a q (.inl ⟨o, e⟩), fun d hd q => hf d q (.inr ⟨a, o, e, hd⟩)⟩) R.cr.new R.cr.dinj,
    ⟨m, ns_kp hn fun o e => .inl (x.keep _ o e hL), fun p hp => ?_⟩, R.lnew, R.lfoot, Nat.le_trans R.tk ht⟩
  obtain ⟨a, v, b, d⟩ := hl p hp
  exact ⟨a, v, b, d.mv x.mv⟩

theorem Rel.offed (R : Rel c fm loc σ s) {h0 h' : Heap} (R2 : CRel c fm.A fm.n σ { s with heap := h' }) (m : Mv (Off h0 σ) s.heap h') (hL : fm.L < h0.objs.size) : Rel c fm loc σ { s with heap := h' } := by
  obtain ⟨mm, hn, hl⟩ := R.ns
  refine ⟨R2, ⟨mm, ns_kp hn fun o e => m.keep _ o e fun q => absurd hL (Nat.not_lt.mpr q.1), fun p hp => ?_⟩, R.lnew, R.lfoot, R.tk⟩
  obtain ⟨a, v, b, d⟩ := hl p hp
  exact ⟨a, v, b, d.mv m⟩

theorem XP.came {X : XPr} (ff : FF fm) (R : Rel c fm loc σ s) {e : Value} {s' : Shared} (x : XP c fm σ s X e s') : notedBy c.M fm.A fm.env (fun e s'' => cameBackBy c.M fm.A fm.env (XP c fm σ s X) e s'') e s' := by
  obtain ⟨a, C, dx, fs, l, σ', rfl, hx, R', S', fl⟩ := x
  obtain ⟨outer, hfr⟩ := ff.frames
  refine note_run (h0 := s.heap) R'.cr hfr ff.frame (fun b o e => ⟨o, R.cr.base b o e⟩) S'.mv.size fl fun h1 R1 m1 f1 => ?_
  have RR1 := R'.offed R1 m1 R.lt
  have f1' := f1
  obtain ⟨a1, a2, a3, a4, ⟨vs, sl, b1, b2, b3⟩, a6⟩ := f1
  rcases b3 with ⟨z1, _⟩ | ⟨T, oT, ts, fl', c1, _⟩
  · cases z1
  unfold cameBackBy
  refine wpAny_bind (wpAny_field b1 rfl c1 ?_)
  rw [if_neg (show ¬ ((Value.ref T == Value.none) = true) from Bool.false_ne_true)]
  refine flight_run (s := { s' with heap := h1 }) (h0 := s.heap) (v := rawInt fm.L) R1 (by rw [ff.frame]; rfl) (fun b o e => ⟨o, R.cr.base b o e⟩) f1' fun h2 R2 m2 _ f2 => ?_
  exact ⟨a, C, dx, fs, l, σ', rfl, hx, RR1.offed R2 m2 R.lt, ⟨(S'.mv.trans m1 fun b q => .inr q.1).trans m2 fun b q => .inr q.1, S'.grow, S'.tk⟩, f2.mono (fun _ => .inr) (fun z => by cases z)⟩

inductive TurnN (I : Nat → Loc → Sto → Prop) (i : Nat) (l2 : Loc) (τ2 : Sto) : Prop
  | mk (l3 : Loc) (τ3 : Sto) (k : ∀ p ∈ l3, p ∈ l2) (s : Sub τ3 τ2) (h : I i l3 τ3)
inductive LessN (I : Nat → Loc → Sto → Prop) (n : Nat) (l2 : Loc) (τ2 : Sto) : Prop
  | mk (m : Nat) (l3 : Loc) (τ3 : Sto) (d : m < n) (k : ∀ p ∈ l3, p ∈ l2) (s : Sub τ3 τ2) (h : I m l3 τ3)
inductive AP (c : Cx) (fm : Fm) (σ : Sto) (s : Shared) (K : Loc → Sto → Prop) (s' : Shared) : Prop
  | mk (l' : Loc) (σ' : Sto) (h : K l' σ') (R : Rel c fm l' σ' s') (S : Step fm σ s σ' s')
structure As (c : Cx) (fm : Fm) (target : Expr) (p : PV) (loc : Loc) (σ : Sto) (K : Loc → Sto → Prop) : Prop where
  run : ∀ s v, Rel c fm loc σ s → VR s.heap p v → wpAny c.M fm.A (assign target fm.env v) (fun _ s' => AP c fm σ s K s') (fun _ _ => False) s

variable {K : Loc → Sto → Prop}
theorem as_name {loc' : Loc} {x : PySem.Str} {p : PV} {pos : Pos} (hs : SetL x p loc loc') (h : K loc' σ) (hx : fm.env.kindOf x = some .local := by rfl) (hk : fm.env.scope.kind = .function := by rfl) : As c fm (.Name x pos) p loc σ K := ⟨fun s v R va => by
  refine wpAny_assign_Name ?_
  obtain ⟨m, hm, hl⟩ := R.ns
  refine wpAny_storeName_local hx hm (fun h' hn hb => ?_) (by rw [hk]; rfl)
  obtain ⟨R2, S2⟩ := R.store hx hs va hm hn hb (s.toks + 1)
  exact ⟨loc', σ, h, R2, S2⟩⟩
theorem as_cell {x : PySem.Str} {p : PV} {q : Option PV} {a : Addr} {pos : Pos} (hc : fm.env.cells.lookup x = some a) (hq : σ a = some (.cell q)) (h : K loc (upd σ a (.cell (some p)))) (hx : fm.env.kindOf x = some .cell := by rfl) (hk : fm.env.scope.kind = .function := by rfl) :
    As c fm (.Name x pos) p loc σ K := ⟨fun s v R va => by
  refine wpAny_assign_Name ?_
  obtain ⟨u, e, _⟩ := R.cr.sto a _ hq
  refine wpAny_storeName_cell hk hx hc e fun h' hc' hb => ?_
  obtain ⟨o, eo, ed⟩ := e
  obtain ⟨o', eo', ed'⟩ := hc'
  have X := Ex.sameBut hb eo eo' (fun ⟨_, _, z⟩ => by rw [ed] at z; cases z) (fun ⟨_, _, _, z⟩ => by rw [ed] at z; cases z)
  obtain ⟨R2, S2⟩ := R.write (ao' := .cell (some p)) hq (.inl rfl) s.toks X ⟨some v, ⟨o', eo', ed'⟩, va.mv X.mv⟩ rfl
  exact ⟨loc, _, h, R2, S2⟩⟩

noncomputable def AsL (c : Cx) (fm : Fm) : List Expr → List PV → Loc → Sto → (Loc → Sto → Prop) → Prop
  | [], [], l, σ, K => K l σ
  | t :: ts, p :: ps, l, σ, K => As c fm t p l σ fun l' σ' => AsL c fm ts ps l' σ' K
  | _, _, _, _, _ => False
theorem assignEach_map {env : Env} : ∀ {es : List Expr}, es.all starless = true → assignEach es env = es.map fun e => (false, assign e env)
  | [], _ => rfl
  | e :: r, h => by
    obtain ⟨a1, a2⟩ := Bool.and_eq_true_iff.mp (List.all_cons ▸ h)
    rw [List.map_cons, ← assignEach_map a2]
    cases e <;> first | rfl | cases a1
theorem asL_run : ∀ {es : List Expr} {ps : List PV} {l : Loc} {σ : Sto} {K : Loc → Sto → Prop} {s : Shared} {vs : List Value}, AsL c fm es ps l σ K → Rel c fm l σ s → VRs s.heap ps vs →
    wpAny c.M fm.A (assignInOrder (es.map fun e => assign e fm.env) vs) (fun _ s' => AP c fm σ s K s') (fun _ _ => False) s
  | [], [], l, σ, K, s, _, h, R, .nil => assignInOrder_nil ⟨l, σ, h, R, .refl ..⟩
  | t :: ts, p :: ps, l, σ, K, s, _, h, R, .cons va r => by
    refine assignInOrder_cons (wpAny_mono (As.run h s _ R va) (fun _ s1 x => ?_) fun _ _ x => x)
    obtain ⟨l1, σ1, h1, R1, S1⟩ := x
    refine wpAny_mono (asL_run h1 R1 (r.mv S1.mv)) (fun _ s2 x => ?_) fun _ _ x => x
    obtain ⟨l2, σ2, h2, R2, S2⟩ := x
    exact ⟨l2, σ2, h2, R2, S1.trans S2⟩
  | [], _ :: _, _, _, _, _, _, h, _, _ => h.elim
  | _ :: _, [], _, _, _, _, _, h, _, _ => h.elim
theorem as_tuple {elts : List Expr} {ps : List PV} {k : Nat} {pos : Pos} (hh : fm.A.handled = none) (h : AsL c fm elts ps loc σ K) (hlen : elts.length = ps.length := by rfl) (hst : elts.all starless = true := by rfl) : As c fm (.Tuple elts k pos) (.tup ps) loc σ K := ⟨fun s v R va => by
  cases va with
  | tup e ec ed eq r =>
    rename_i a o vs n
    have it : s.heap.IsTuple a vs.toArray := ⟨_, e, ec, _, eq⟩
    rw [arm_assign_Tuple]
    refine wpAny_bind (wpAny_standAt ?_)
    unfold unpack
    have hn : (assignEach elts fm.env).length = vs.toArray.size := by rw [assignEach_map hst, List.length_map, hlen]; show _ = vs.length; rw [r.length]
    have hs : (assignEach elts fm.env).findIdx? (·.1) = none := by
      rw [assignEach_map hst, List.findIdx?_eq_none_iff]
      intro x hx
      obtain ⟨y, _, rfl⟩ := List.mem_map.mp hx
      rfl
    rw [hn, hs]
    refine wpAny_bind (wpAny_holding (wpAny_size (wpAny_unpackItems_tuple hh it fun h' x z => ?_)))
    obtain ⟨R1, S1⟩ := R.grow (h' := h') (fun b o e => x b o (Nat.ne_of_lt (Heap.lt_size e)) e) z s.toks
    rw [assignEach_map hst, List.map_map]
    refine wpAny_mono (asL_run h R1 (r.mv S1.mv)) (fun _ s2 x => ?_) fun _ _ x => x
    obtain ⟨l2, σ2, h2, R2, S2⟩ := x
    exact ⟨l2, σ2, h2, R2, S1.trans S2⟩⟩

variable {N : NXt} {Rt : NPr} {X : XPr} {rest : List Stmt} {pos : Pos}

inductive ForS (c : Cx) (fm : Fm) (σ1 : Sto) (s1 : Shared) (I : Nat → Loc → Sto → Prop) (items : List PV) (St : Nat → Heap → Prop) (Wr : Addr → Prop) (n : Nat) (s' : Shared) : Prop
  | mk (i : Nat) (l : Loc) (τ : Sto) (hn : n + i = items.length) (hi : I i l τ) (st : St i s'.heap) (R : Rel c fm l τ s') (S : Step fm σ1 s1 τ s') (nf : ∀ a, Wr a → ¬ CFoot τ a)
inductive WhS (c : Cx) (fm : Fm) (σ : Sto) (s : Shared) (I : Nat → Loc → Sto → Prop) (n : Nat) (s' : Shared) : Prop
  | mk (l : Loc) (τ : Sto) (hi : I n l τ) (R : Rel c fm l τ s') (S : Step fm σ s τ s')
inductive ForP (c : Cx) (fm : Fm) (target : Expr) (body rest : List Stmt) (loc : Loc) (I : Nat → Loc → Sto → Prop) (N : NXt) (Rt : NPr) (X : XPr) (p : PV) (σ1 : Sto) : Prop
  | mk (items : List PV) (Keep : Sto → Prop) (tg : Expr → Prop) (src : Src c p items σ1 Keep tg) (ht : tg target) (i0 : I 0 loc σ1) (ik : ∀ i l τ, I i l τ → Keep τ)
    (turn : ∀ i q l τ, items[i]? = some q → I i l τ → As c fm target q l τ fun l' τ' => SS c fm body l' τ' (TurnN I (i + 1)) Rt X)
    (fin : ∀ l τ, I items.length l τ → SS c fm rest l τ N Rt X)
theorem ss_for {target iter : Expr} {body : List Stmt} (ff : FF fm) (I : Nat → Loc → Sto → Prop)
    (h : E c fm iter loc σ (ForP c fm target body rest loc I N Rt X) X)
    (hs : ∀ x, foldedSetIterable iter fm.env x = pure x := by intro _; rfl) : SS c fm (.For target iter body [] pos :: rest) loc σ N Rt X := ss_step fun s R => by
  refine wpAny_For (wpAny_mono (h.run s R) (fun v s1 x => ?_) fun _ _ x => x) hs
  obtain ⟨p, σ1, ⟨items, Keep, tg, src, htg, i0, ik, turn, fin⟩, va, R1, S1⟩ := x
  refine src.run fm.A fm.n s1 v _ _ ff.handled R1.cr va fun Ia Wr St Md h' W st0 hI keep => ?_
  have hz : s1.heap.objs.size ≤ h'.objs.size := by
    obtain ⟨o, e, _⟩ := W.at_ _ _ Ia st0 W.here
    exact Nat.le_trans (hI _ W.here) (Nat.le_of_lt (Heap.lt_size e))
  obtain ⟨R2, S2⟩ := R1.grow keep hz s1.toks
  have hL : ¬ Wr fm.L := fun q => absurd R1.lt (Nat.not_lt.mpr (hI _ q))
  have hbase : ∀ a, Wr a → c.h₀.get? a = none := fun a q => R1.cr.base_none (none_of_le (hI a q))
  have came : ∀ {τ : Sto} {s' : Shared} {e : Value} {s'' : Shared}, Step fm σ1 s1 τ s' → XP c fm τ s' X e s'' → notedBy c.M fm.A fm.env (fun e s'' => cameBackBy c.M fm.A fm.env (XP c fm σ s X) e s'') e s'' :=
    fun S x => XP.came ff R ((x.trans S).trans S1)
  refine codeAny_forLoop_any (ForS c fm σ1 s1 I items St Wr) ?_ items.length
    ⟨0, loc, σ1, rfl, i0, st0, R2, S2, fun a w q => absurd (R1.cr.foot_lt q) (Nat.not_lt.mpr (hI a w))⟩
  rintro n s' ⟨i, l, τ, hn, hi, st, R', S', nf⟩
  have side : ∀ {h2 : Heap} {tk : Nat}, Ex Wr s'.heap h2 → s'.toks ≤ tk → Rel c fm l τ { s' with heap := h2, toks := tk } ∧ Step fm σ1 s1 τ { s' with heap := h2, toks := tk } := fun ex ht =>
    ⟨R'.side ex nf hL hbase _ ht, ⟨S'.mv.trans ex.mv fun a q => .inr (hI a q), S'.grow, Nat.le_trans S'.tk ht⟩⟩
  by_cases hlt : i < items.length
  · refine wpAny_toks <| W.item i fm.n τ s' items[i] _ _ (List.getElem?_eq_getElem hlt) st R'.cr (ik _ _ _ hi) fun v h2 tk vr md ex ht => ?_
    refine W.own (i + 1) _ _ _ _ _ htg md fun h3 st2 ex2 => ?_
    have ex3 : Ex Wr s'.heap h3 := ex.trans ex2 fun _ q => .inl q
    obtain ⟨R3, S3⟩ := side (tk := tk) ex3 ht
    refine wpAny_mono ((turn i _ l τ (List.getElem?_eq_getElem hlt) hi).run _ _ R3 (vr.mv ex2.mv)) (fun _ s4 x => ?_) fun _ _ x => x.elim
    obtain ⟨l4, τ4, h4, R4, S4⟩ := x
    refine wpAny_mono (SS.run h4 s4 R4) (fun f s5 x => ?_) fun e s5 x => came (S3.trans S4) x
    cases f with
    | next =>
      obtain ⟨l5, τ5, ⟨l6, τ6, m6, m7, h6⟩, R5, S5⟩ := x
      have S45 := S4.trans S5
      have st5 := W.frame (i + 1) h3 s5.heap _ st2 S45.mv fun a o w e => by
        obtain ⟨o', eo, nd, _⟩ := W.at_ _ _ a st2 w
        refine (S45.mv.keep _ o e fun q => q.elim (nf a w) fun q => hL (q ▸ w)).elim id fun q => absurd q.1 (by rw [eo] at e; cases e; exact nd)
      refine ⟨n - 1, by omega, i + 1, l6, τ6, by omega, h6, st5, (R5.forget m6).forgetS m7, (S3.trans S45).forget m7, fun a w q => ?_⟩
      rcases S45.grow _ (m7.foot q) with q | q
      · exact nf a w q
      · obtain ⟨o', eo, nd, _⟩ := W.at_ _ _ a st2 w
        exact absurd (Heap.lt_size eo) (Nat.not_lt.mpr q)
    | ret v =>
      obtain ⟨p5, l5, τ5, a5, b5, R5, S5⟩ := x
      exact ⟨p5, l5, τ5, a5, b5, R5, S1.trans ((S3.trans S4).trans S5)⟩
    | _ => exact x.elim
  · have hie : i = items.length := by omega
    subst hie
    refine wpAny_toks <| W.done fm.n τ s' _ _ st R'.cr (ik _ _ _ hi) fun h2 tk eb hz2 ht => ?_
    obtain ⟨R3, S3⟩ := side (tk := tk) (Ex.extBut eb hz2 fun a w => W.at_ _ _ a st w) ht
    exact wpAny_execs_nil ⟨l, τ, fin l τ hi, R3, S1.trans S3⟩

theorem ss_while {test : Expr} {body : List Stmt} (ff : FF fm) (I : Nat → Loc → Sto → Prop) (n₀ : Nat) (h0 : I n₀ loc σ)
    (turn : ∀ n l τ, I n l τ → B c fm test l τ (fun b τ' => match b with
      | true => SS c fm body l τ' (LessN I n) Rt X
      | false => SS c fm rest l τ' N Rt X) X) : SS c fm (.While test body [] pos :: rest) loc σ N Rt X := ss_step fun s R => by
  refine wpAny_While ?_
  refine codeAny_whileLoop (WhS c fm σ s I) ?_ n₀ ⟨loc, σ, h0, R, .refl ..⟩
  rintro n s' ⟨l, τ, hi, R', S'⟩
  refine wpAny_mono ((turn n l τ hi).run s' R') (fun b s2 x => ?_) fun e s2 x => XP.came ff R (x.trans S')
  obtain ⟨τ2, h2, R2, S2⟩ := x
  cases b with
  | false => exact wpAny_execs_nil ⟨l, τ2, h2, R2, S'.trans S2⟩
  | true =>
    refine wpAny_mono (SS.run h2 s2 R2) (fun f s5 x => ?_) fun e s5 x => XP.came ff R ((x.trans S2).trans S')
    cases f with
    | next =>
      obtain ⟨l5, τ5, ⟨m, l6, τ6, hm, m6, m7, h6⟩, R5, S5⟩ := x
      exact ⟨m, hm, l6, τ6, h6, (R5.forget m6).forgetS m7, ((S'.trans S2).trans S5).forget m7⟩
    | ret v =>
      obtain ⟨p5, l5, τ5, a5, b5, R5, S5⟩ := x
      exact ⟨p5, l5, τ5, a5, b5, R5, (S'.trans S2).trans S5⟩
    | _ => exact x.elim
end
end Mine
end A13
section A14
open PySem PySem.W PySem.Calls PyProof.Rows Builtin.ObjectAttr
set_option maxRecDepth 10000
set_option linter.unusedVariables false
namespace Mine

structure SetIn (K : Frag) (C : Addr) (name : PySem.Str) : Prop where
  set : findIn K (.ref C) "__setattr__" = some (some (.builtin "object.__setattr__"))
  cls : ∃ cd, clsIn K C = some cd ∧ cd.mro.isEmpty = false ∧ cd.mro.contains (.type "object") = true ∧ cd.hasDict = true ∧ ∀ self, refuseLoop self "__setattr__" cd.mro = pure ()
  taker : takerIn K C name = some none

noncomputable def setF (name : PySem.Str) (p : PV) : List (PySem.Str × PV) → List (PySem.Str × PV)
  | [] => [(name, p)]
  | (x, q) :: r => if x = name then (x, p) :: r else (x, q) :: setF name p r

theorem FsR.put {h : Heap} {name : PySem.Str} {hsh : Int} {t : Tok} {p : PV} {v : Value} : ∀ {fs : List (PySem.Str × PV)} {es : List DictEntry}, FsR h fs es → VR h p v → FsR h (setF name p fs) (putL name hsh (.str name t) v es)
  | _, _, .nil, y => .cons y .nil
  | _, _, .cons (x := x) a r, y => by
    unfold setF putL
    by_cases q : x = name
    · subst q
      rw [if_pos rfl, if_pos (show Value.isStr (.str x _) x = true from beq_self_eq_true x)]
      exact .cons y r
    · rw [if_neg q, if_neg (show ¬ Value.isStr (.str x _) name = true from by show ¬ (x == name) = true; rw [beq_eq_false_iff_ne.mpr q]; exact Bool.false_ne_true)]
      exact .cons a (r.put y)

theorem putName_dct (name : PySem.Str) (hsh : Int) (key v : Value) (es : List DictEntry) (n : Nat) (sl : Array (Option Value)) : ∃ n', Obj.putName name hsh key v (dctOf es n sl) = dctOf (putL name hsh key v es) n' sl := by
  have q := putName_dict name hsh key v es n
  rw [Obj.putName_eq] at q ⊢
  unfold Obj.putNameByArray dctOf dictOf at *
  dsimp only at q ⊢
  cases e : es.toArray.findIdx? (·.key.isStr name) with
  | none =>
    rw [e] at q
    have q1 := congrArg Obj.data q
    dsimp only at q1
    injection q1 with q1 _
    refine ⟨n + 1, ?_⟩
    dsimp only
    rw [← q1]
  | some i =>
    rw [e] at q
    have q1 := congrArg Obj.data q
    dsimp only at q1
    injection q1 with q1 _
    refine ⟨n, ?_⟩
    dsimp only
    rw [← q1]

section
variable {c : Cx} {A : Around} {n : Nat} {σ : Sto} {s : Shared} {E : Value → Shared → Prop}

theorem setattr_run {x C : Addr} {ox : Obj} {od : Option Obj} {name : PySem.Str} {v : Value} {Q : Unit → Shared → Prop} (X : c.K.In s.heap) (I : InstAt s.heap x ox C od) (S : SetIn c.K C name)
    (h : ∀ b, wpAny c.M A.in1 (storeInOwnDict (.ref x) (.ref C) (.str name s.toks) name v b) (fun fin s' => match fin with | .done (.ret _) => Q () s' | _ => False) (fun e s' => E e s') { s with toks := s.toks + 1 }) :
    wpAny c.M A (setAttr (.ref x) name v) Q E s := by
  refine set_plain X I S.set ?_
  have SF := PySem.F.store_object
  obtain ⟨cd, hc, ne, ho, hdct, hrf⟩ := S.cls
  have I' : InstAt ({ s with toks := s.toks + 1 } : Shared).heap x ox C od := I
  have sub : Looks c.M s.heap (isInstance (.ref x) (.type "object")) true := I.type.andThen (looks_mroIn X (by unfold mroIn; rw [hc, Option.bind_some, if_neg (by rw [ne]; decide), ho]))
  refine codeAny_call_builtin SF.slot.plain SF.entry (@check_slot c.M _ _ { s with toks := s.toks + 1 } "object.__setattr__" "object" "__setattr__" (.ref x) [.str name s.toks, v] [] _ SF.kind SF.split sub (SF.args (.ref x) (.str name s.toks) v) ?_)
  obtain ⟨attr, ha, hr⟩ := Option.bind_eq_some_iff.mp S.taker
  have hm : Looks c.M s.heap (mroOf (.ref C)) cd.mro := (looks_clsIn X hc).andThen .now
  have L3 : Looks c.M s.heap (storeTaker? attr) none := by
    cases attr with
    | none => exact .now
    | some a =>
      obtain ⟨b, hb, hbb⟩ := Option.map_eq_some_iff.mp hr
      refine (looks_takesIn X hb).andThen ?_
      cases b <;> first | exact .now | cases hbb
  rw [osa_eq, refuse_eq]
  refine wpAny_bind (wpAny_bind (I.type.here (s := { s with toks := s.toks + 1 }) (wpAny_bind (hm.here (s := { s with toks := s.toks + 1 }) ?_))))
  rw [hrf]
  refine wpAny_pure (wpAny_bind (I.type.here (s := { s with toks := s.toks + 1 }) (wpAny_bind ((looks_findIn X ha).here (s := { s with toks := s.toks + 1 }) (wpAny_bind (L3.here (s := { s with toks := s.toks + 1 }) ?_))))))
  refine wpAny_mono (h _) (fun fin s' z => ?_) fun _ _ z => z
  rcases fin with (_ | _ | _ | _) | _ <;> first | exact z | exact z.elim

theorem indict_run {d : Addr} {es : List DictEntry} {k : Nat} {sl : Array (Option Value)} {fs : List (PySem.Str × PV)} {name : PySem.Str} {tk : Tok} {v : Value} {p : PV} {Q : Fin → Shared → Prop} (D : s.heap.get? d = some (dctOf es k sl)) (f : FsR s.heap fs es) (hv : VR s.heap p v) (hz : fs.length < 900)
    (h : ∀ h' k' es', Ex (· = d) s.heap h' → h'.get? d = some (dctOf es' k' sl) → FsR s.heap (setF name p fs) es' → Q (.done (.ret .none)) { s with heap := h', toks := s.toks + 1 }) :
    wpAny c.M A (storeInDict d (.str name tk) name v) Q E s := by
  unfold storeInDict
  refine wpAny_bind (wpAny_pure (wpAny_bind ?_))
  unfold nsSet
  refine wpAny_bind (wpAny_bind (wpAny_askSetting (wpAny_pure (wpAny_bind (wpAny_mkText (wpAny_bind (wpAny_loadPart D ?_)))))))
  have cc : aRefKeyMayBeTheName name es.toArray = false := by
    rw [aRefKeyMayBeTheName_at]
    have := f.noref
    rw [List.any_toArray, List.any_toArray, this, Bool.and_false]
  dsimp only
  rw [cc]
  refine wpAny_updatePart D ?_
  obtain ⟨k', hp⟩ := putName_dct name (PyData.keyHash c.w.params name) (.str name s.toks) v es k sl
  have D' := Heap.get?_update_self (Obj.putName name (PyData.keyHash c.w.params name) (.str name s.toks) v) D (by rw [hp]; rfl)
  have fp := f.put (name := name) (hsh := PyData.keyHash c.w.params name) (t := s.toks) hv
  have hl : (putL name (PyData.keyHash c.w.params name) (.str name s.toks) v es).length ≤ 901 := by
    rw [fp.length]
    have : ∀ l : List (PySem.Str × PV), (setF name p l).length ≤ l.length + 1 := by
      intro l
      induction l with
      | nil => exact Nat.le_refl _
      | cons a r ih => unfold setF; split <;> simp <;> omega
    have := this fs; omega
  refine wpAny_bind (wpAny_lookBehind (s := { s with heap := s.heap.update d (Obj.putName name (PyData.keyHash c.w.params name) (.str name s.toks) v), toks := s.toks + 1 }) D' (by rw [hp]; exact pastItsLine_dict (by rw [List.size_toArray, sizeLine_eq]; omega)) ?_)
  refine wpAny_pure (h _ k' _ (Ex.update D (by rw [hp]; rfl) (fun _ => ⟨_, _, by rw [hp]⟩) fun q => type_ne (by decide) q.1) (by rw [D', hp]) fp)
end
end Mine
end A14
section A15
open PySem PySem.W PySem.Calls PyProof.Rows Builtin.ObjectAttr
set_option maxRecDepth 10000
set_option linter.unusedVariables false
namespace Mine

section
variable {c : Cx} {A : Around} {n : Nat} {σ : Sto} {s : Shared}

theorem setf_inst {x C dx : Addr} {fs : List (PySem.Str × PV)} {name : PySem.Str} {p : PV} {v : Value} (R : CRel c A n σ s) (e : σ x = some (.inst C dx fs)) (S : SetIn c.K C name) (hv : VR s.heap p v) (hz : fs.length < 900) :
    wpAny c.M A (setAttr (.ref x) name v) (fun _ s' => CRel c A n (upd σ x (.inst C dx (setF name p fs))) s' ∧ CStep σ s (upd σ x (.inst C dx (setF name p fs))) s') (fun _ _ => False) s := by
  obtain ⟨hx, es, k, sl, D, f⟩ := R.sto x _ e
  obtain ⟨cd, hc, _, _, hd', _⟩ := S.cls
  refine setattr_run (od := some (dctOf es k sl)) R.kin ⟨hx, rfl, rfl, D⟩ S fun b => ?_
  refine wpAny_bind (wpAny_pure (wpAny_bind (wpAny_bind (wpAny_loadPart (s := { s with toks := s.toks + 1 }) hx (wpAny_bind ((looks_clsIn R.kin hc).here (s := { s with toks := s.toks + 1 }) ?_))))))
  rw [hd']
  refine wpAny_pure (a := some dx) ?_
  refine indict_run (s := { s with toks := s.toks + 1 }) D f hv hz fun h' k' es' X D' f' => ?_
  have ne : x ≠ dx := fun q => obj_ne (q ▸ hx) D ref_ne_type
  exact R.write e (.inr rfl) _ X ⟨X.keep _ _ hx ne, es', k', sl, D', f'.mv X.mv⟩ rfl (Nat.le_succ_of_le (Nat.le_succ _))
theorem setf_exc {x C dx : Addr} {fresh : Bool} {fs : List (PySem.Str × PV)} {name : PySem.Str} {p : PV} {v : Value} (R : CRel c A n σ s) (e : σ x = some (.exc fresh C dx fs)) (S : SetIn c.K C name) (hv : VR s.heap p v) (hz : fs.length < 900) :
    wpAny c.M A (setAttr (.ref x) name v) (fun _ s' => CRel c A n (upd σ x (.exc fresh C dx (setF name p fs))) s' ∧ CStep σ s (upd σ x (.exc fresh C dx (setF name p fs))) s') (fun _ _ => False) s := by
  obtain ⟨⟨vs, sv, hx, h6, hf⟩, es, k, sl, D, f⟩ := R.sto x _ e
  obtain ⟨cd, hc, _, _, hd', _⟩ := S.cls
  refine setattr_run (od := some (dctOf es k sl)) R.kin ⟨hx, rfl, rfl, D⟩ S fun b => ?_
  refine wpAny_bind (wpAny_pure (wpAny_bind (wpAny_bind (wpAny_loadPart (s := { s with toks := s.toks + 1 }) hx (wpAny_bind ((looks_clsIn R.kin hc).here (s := { s with toks := s.toks + 1 }) ?_))))))
  rw [hd']
  refine wpAny_pure (a := some dx) ?_
  refine indict_run (s := { s with toks := s.toks + 1 }) D f hv hz fun h' k' es' X D' f' => ?_
  have ne : x ≠ dx := fun q => obj_ne (q ▸ hx) D ref_ne_type
  exact R.write e (.inr rfl) _ X ⟨⟨vs, sv, X.keep _ _ hx ne, h6, hf⟩, es', k', sl, D', f'.mv X.mv⟩ rfl (Nat.le_succ_of_le (Nat.le_succ _))

theorem CRel.dress {x C dx : Addr} {fs : List (PySem.Str × PV)} {h' : Heap} (R : CRel c A n σ s) (e : σ x = some (.exc0 C)) (t : Nat) (X : Ex (· = x) s.heap h') (hd : s.heap.objs.size ≤ dx) (r : ORel h' x (.exc true C dx fs)) (ht : s.toks ≤ t) :
    CRel c A n (upd σ x (.exc true C dx fs)) { s with heap := h', toks := t } ∧ CStep σ s (upd σ x (.exc true C dx fs)) { s with heap := h', toks := t } := by
  have foot : ∀ a, CFoot (upd σ x (.exc true C dx fs)) a → CFoot σ a ∨ s.heap.objs.size ≤ a := fun a f => by
    rcases f with ⟨o, q⟩ | ⟨y, o, q, z⟩
    · by_cases w : a = x
      · subst w; exact .inl (.inl ⟨_, e⟩)
      · rw [upd_ne _ _ w] at q; exact .inl (.inl ⟨o, q⟩)
    · by_cases w : y = x
      · subst w; rw [upd_same] at q; cases q; cases z; exact .inr hd
      · rw [upd_ne _ _ w] at q; exact .inl (.inr ⟨y, o, q, z⟩)
  have fx : CFoot σ x := .inl ⟨_, e⟩
  refine ⟨R.move (S := (· = x)) X (fun _ q => q ▸ R.new x fx) rfl rfl (fun y o q => ?_) (fun a f => (foot a f).elim (R.new a) fun q => R.base_none (none_of_le q)) (fun y z o p d e1 e2 d1 d2 => ?_), ⟨X.mv.mono fun _ q => q ▸ fx, foot, ht⟩⟩
  · by_cases w : y = x
    · subst w; rw [upd_same] at q; cases q; exact .inr r
    · rw [upd_ne _ _ w] at q
      refine .inl ⟨q, w, fun d hd' z => ?_⟩
      subst z; have := R.dict_none q hd'; rw [e] at this; cases this
  · have old : ∀ y p, σ y = some p → p.dict? = some d → d < s.heap.objs.size := fun y p e q => R.foot_lt (.inr ⟨y, p, e, q⟩)
    by_cases z1 : y = x
    · by_cases z2 : z = x
      · rw [z1, z2]
      · subst z1; rw [upd_same] at e1; cases e1; cases d1; rw [upd_ne _ _ z2] at e2
        exact absurd (old z p e2 d2) (Nat.not_lt.mpr hd)
    · rw [upd_ne _ _ z1] at e1
      by_cases z2 : z = x
      · subst z2; rw [upd_same] at e2; cases e2; cases d2
        exact absurd (old y o e1 d1) (Nat.not_lt.mpr hd)
      · rw [upd_ne _ _ z2] at e2
        exact R.dinj y z o p d e1 e2 d1 d2

theorem setf_exc0 {x C : Addr} {name : PySem.Str} {p : PV} {v : Value} (R : CRel c A n σ s) (e : σ x = some (.exc0 C)) (S : SetIn c.K C name) (hv : VR s.heap p v) :
    wpAny c.M A (setAttr (.ref x) name v) (fun _ s' => ∃ dx, ¬ CFoot σ dx ∧ CRel c A n (upd σ x (.exc true C dx [(name, p)])) s' ∧ CStep σ s (upd σ x (.exc true C dx [(name, p)])) s') (fun _ _ => False) s := by
  obtain ⟨vs, sv, hx, h6, hf⟩ := R.sto x _ e
  obtain ⟨cd, hc, _, _, hd', _⟩ := S.cls
  refine setattr_run (od := none) R.kin ⟨hx, rfl, rfl, trivial⟩ S fun b => ?_
  refine wpAny_bind (wpAny_pure (wpAny_bind (wpAny_bind (wpAny_loadPart (s := { s with toks := s.toks + 1 }) hx (wpAny_bind ((looks_clsIn R.kin hc).here (s := { s with toks := s.toks + 1 }) ?_))))))
  rw [hd']
  show wpAny _ _ (alloc _ >>= _) _ _ _
  refine wpAny_bind (wpAny_alloc ?_)
  have hx1 := Heap.get?_push_of_some { cls := .type "dict", data := .dict #[] } hx
  refine wpAny_bind (wpAny_update (s := ⟨_, _, _, _, _⟩) hx1 ?_)
  refine wpAny_pure (a := some s.heap.objs.size) ?_
  have ne : x ≠ s.heap.objs.size := Nat.ne_of_lt (Heap.lt_size hx)
  have X1 : Ex (· = x) s.heap (s.heap.push { cls := .type "dict", data := .dict #[] }) := .of_keeps (fun _ _ e => Heap.get?_push_of_some _ e) (push_le _ _)
  have X2 := Ex.update (f := fun o => { o with dict := some s.heap.objs.size }) hx1 rfl (fun ⟨_, _, q⟩ => nomatch q) (fun ⟨_, _, _, q⟩ => nomatch q)
  have D : ((s.heap.push { cls := .type "dict", data := .dict #[] }).update x (fun o => { o with dict := some s.heap.objs.size })).get? s.heap.objs.size = some (dctOf [] 0 #[]) :=
    (Heap.get?_update_other _ _ ne).trans (Heap.get?_push_size _ rfl)
  have X12 := X1.trans X2 fun _ q => .inl q
  refine indict_run (fs := []) (sl := #[]) (es := []) (k := 0) (s := ⟨_, _, _, _, _⟩) D .nil (hv.mv X12.mv) (by decide) fun h' k' es' X D' f' => ?_
  refine ⟨s.heap.objs.size, fun q => absurd (R.foot_lt q) (Nat.lt_irrefl _), R.dress e _ ?_ (Nat.le_refl _) ⟨⟨vs, sv, X.keep _ _ (Heap.get?_update_self _ hx1 rfl) ne, h6, fun _ => hf⟩, es', k', #[], D', f'.mv X.mv⟩ (Nat.le_succ_of_le (Nat.le_succ _))⟩
  refine ⟨fun b o e n => X.keep b o (X12.keep b o e n) (Nat.ne_of_lt (Heap.lt_size e)), fun b o e q => ?_, fun b o e q => X.tup b o (X12.tup b o e q) q, Nat.le_trans X12.size X.size⟩
  obtain ⟨o1, e1, n1⟩ := X12.nf b o e q
  exact X.nf b o1 e1 n1
end

inductive SetTo (c : Cx) (name : PySem.Str) (p : PV) (x : Addr) (σ : Sto) (Ψ : Sto → Prop) : Prop
  | inst {C dx : Addr} {fs : List (PySem.Str × PV)} : σ x = some (.inst C dx fs) → SetIn c.K C name → fs.length < 900 → Ψ (upd σ x (.inst C dx (setF name p fs))) → SetTo c name p x σ Ψ
  | exc {C dx : Addr} {fresh : Bool} {fs : List (PySem.Str × PV)} : σ x = some (.exc fresh C dx fs) → SetIn c.K C name → fs.length < 900 → Ψ (upd σ x (.exc fresh C dx (setF name p fs))) → SetTo c name p x σ Ψ
  | exc0 {C : Addr} : σ x = some (.exc0 C) → SetIn c.K C name → (∀ dx, ¬ CFoot σ dx → Ψ (upd σ x (.exc true C dx [(name, p)]))) → SetTo c name p x σ Ψ

section
variable {c : Cx} {A : Around} {n : Nat} {fm : Fm} {loc : Loc} {σ : Sto} {s : Shared} {N : NXt} {Rt : NPr} {X : XPr} {rest : List Stmt} {pos : Pos}
theorem setTo_run {name : PySem.Str} {p : PV} {x : Addr} {v : Value} {Ψ : Sto → Prop} (h : SetTo c name p x σ Ψ) (R : CRel c A n σ s) (hv : VR s.heap p v) :
    wpAny c.M A (setAttr (.ref x) name v) (fun _ s' => ∃ σ', Ψ σ' ∧ CRel c A n σ' s' ∧ CStep σ s σ' s') (fun _ _ => False) s := by
  cases h with
  | inst e S hz k => exact wpAny_mono (setf_inst R e S hv hz) (fun _ _ q => ⟨_, k, q⟩) fun _ _ q => q
  | exc e S hz k => exact wpAny_mono (setf_exc R e S hv hz) (fun _ _ q => ⟨_, k, q⟩) fun _ _ q => q
  | exc0 e S k => exact wpAny_mono (setf_exc0 R e S hv) (fun _ _ ⟨dx, nd, q⟩ => ⟨_, k dx nd, q⟩) fun _ _ q => q

inductive SetP (c : Cx) (attr : PySem.Str) (p : PV) (Ψ : Sto → Prop) (q : PV) (σ2 : Sto) : Prop
  | mk (x : Addr) (e : q = .k (.ref x)) (h : SetTo c attr p x σ2 Ψ)
theorem ss_setattr {o value : Expr} {attr : PySem.Str} {pos' : Pos} (h : E c fm value loc σ (fun p σ1 => E c fm o loc σ1 (SetP c attr p (fun σ3 => SS c fm rest loc σ3 N Rt X)) X) X)
    (hs : swapsWith value (some (.Attribute o attr pos')) pos.line fm.env = pure false := by rfl) : SS c fm (.Assign [.Attribute o attr pos'] value pos :: rest) loc σ N Rt X := ss_step fun s R => by
  refine plainObj_wpAny_Assign_Attribute (wpAny_mono (h.run s R) (fun v s1 z => ?_) fun _ _ z => z) hs
  obtain ⟨p, σ1, h1, va, R1, S1⟩ := z
  refine wpAny_mono (h1.run s1 R1) (fun u s2 z => ?_) fun _ _ z => z.trans S1
  obtain ⟨q, σ2, ⟨x, rfl, h2⟩, vu, R2, S2⟩ := z
  cases vu
  refine wpAny_mono (setTo_run h2 R2.cr (va.mv S2.mv)) (fun _ s3 z => ?_) fun _ _ z => z.elim
  obtain ⟨σ3, h3, R3, S3⟩ := z
  exact ⟨loc, σ3, h3, R2.back R3 S3, (S1.trans S2).trans S3.step⟩
end
end Mine
end A15
section A16
open PySem PySem.W PySem.Calls PyProof.Rows
set_option maxRecDepth 10000
set_option linter.unusedVariables false
namespace Mine

section
variable {c : Cx} {A : Around} {n : Nat} {σ : Sto} {s : Shared} {args : List PV} {Φ : NPr} {X : CXPr}

theorem CRel.under {C : Addr} {vs : List Value} (R : CRel c A (n + 1) σ s) : CRel c (A.under (.builtin "type.__call__" ⟨.ref C :: vs, []⟩)) n σ s := by
  refine ⟨R.cok, ⟨?_, ?_⟩, R.base, R.gens, R.os, R.frames, R.sto, R.new, R.dinj⟩
  · show A.depth + 1 + 2 * n < _; have := R.ok.depth; omega
  · show A.units + 1 + 40 * n + 100 < _; have := R.ok.units; omega
theorem CRel.around {A' : Around} {n' : Nat} {σ' : Sto} {s' : Shared} (R : CRel c A' n' σ' s') (R0 : CRel c A n σ s) (hf : A'.frames = A.frames) : CRel c A n σ' s' := by
  refine ⟨R.cok, R0.ok, R.base, R.gens, R.os, ?_, R.sto, R.new, R.dinj⟩
  rw [← hf]; exact R.frames

theorem call_make {C fI : Addr} (hm : makesIn c.K C = true) (hi : findIn c.K (.ref C) "__init__" = some (some (.ref fI))) (hf : isFn c.K (.ref fI) = true)
    (h : ∀ x dx, σ x = none → CallC c n (.ref fI) (.k (.ref x) :: args) (upd σ x (.inst C dx [])) (fun p τ => p = .k .none ∧ Φ (.k (.ref x)) τ) X) : CallC c (n + 1) (.ref C) args σ Φ X := ⟨fun A s vs hh R hv => by
  obtain ⟨hp, g, d, t, os⟩ := s
  refine make_core (makes_of R.kin hm) (looks_findIn R.kin hi) (fun self => bind_fn R.kin self (beq_iff_eq.mp hf)) (.inl rfl) ?_
  have k : ∀ b o, hp.get? b = some o → ((hp.push emptyDict).push (instObj C hp.objs.size)).get? b = some o := fun b o e => Heap.get?_push_of_some _ (Heap.get?_push_of_some _ e)
  have z : hp.objs.size ≤ ((hp.push emptyDict).push (instObj C hp.objs.size)).objs.size := by rw [push_sz, push_sz]; omega
  have hx : ((hp.push emptyDict).push (instObj C hp.objs.size)).get? (hp.objs.size + 1) = some (instObj C hp.objs.size) := by heap_get
  have hd : ((hp.push emptyDict).push (instObj C hp.objs.size)).get? hp.objs.size = some (dctOf [] 0 #[]) := Heap.get?_push_of_some _ (Heap.get?_push_size _ rfl)
  obtain ⟨R1, S1, e1⟩ := R.alloc (ao := .inst C hp.objs.size []) k z t (Nat.le_succ _) ⟨hx, [], 0, #[], hd, .nil⟩ (fun d q => by cases q; exact Nat.le_refl _)
  refine codeAny_mono ((h (hp.objs.size + 1) hp.objs.size e1).run _ _ _ hh R1.under (.cons (.k _) (hv.mv S1.mv))) fun r s' q => ?_
  rcases r with e | (v | _ | _ | _)
  · obtain ⟨a, C', dx, fs, σ', rfl, hX, R2, S2, F2⟩ := q
    exact ⟨a, C', dx, fs, σ', rfl, hX, R2.around R1 rfl, S1.trans S2, F2.back S1.mv⟩
  · exact q.elim
  · exact q.elim
  · exact q.elim
  · obtain ⟨p, σ', ⟨rfl, hΦ⟩, vr, R2, S2⟩ := q
    cases vr
    exact ⟨rfl, _, σ', hΦ, .k _, R2.around R1 rfl, S1.trans S2⟩⟩
end
end Mine
end A16
section A17
open PySem PySem.W PySem.Calls PyProof.Rows Builtin Builtin.ObjectAttr
set_option maxRecDepth 100000
set_option maxHeartbeats 1000000
set_option linter.unusedVariables false
namespace Mine

inductive ExcShape (K : Frag) (C : Addr) : Prop
  | mk (nm q : PySem.Str) (N : Addr) (bs bm : List Value) (hdct : Bool) (sn : List PySem.Str) (sub : List Value) (ab : Bool) (col : Option Bool) (dd : Option Addr) (k0 k1 k2 k3 k5 : Option Value)
    (e : K.lookup C = some (excClassObj nm q C N bs bm hdct sn sub ab col dd k0 k1 k2 k3 k5 "Exception.__new__"))
    (h1 : bm.contains (.type "Exception") = true) (h2 : bm.contains (.type "BaseException") = true) (h3 : bm.contains (.type "AttributeError") = false) (h4 : bm.contains (.type "NameError") = false)
structure ExcIn (K : Frag) (C fI : Addr) : Prop where
  shape : ExcShape K C
  call : specialIn K (.ref C) "__call__" = some (some (.builtin "type.__call__"))
  typ : instIn K (.ref C) (.type "type") = some true
  init : findIn K (.ref C) "__init__" = some (some (.ref fI))
  fn : isFn K (.ref fI) = true

section
variable {prog : Program} {w : World} {A : Around} {R : Result → Shared → Prop} {h : Heap} {g : Array GenState} {d : Drawn} {t : Nat} {os : OsState} {C : Addr}
  {nm q : PySem.Str} {N : Addr} {bs bm : List Value} {hdct : Bool} {sn : List PySem.Str} {sub : List Value} {ab : Bool} {col : Option Bool} {dd : Option Addr} {k0 k1 k2 k3 k5 : Option Value}

noncomputable abbrev rawExc (C a : Addr) : Obj := { cls := .ref C, data := .fields #[.ref a, .none, .none, .none, .bool false, .none] }

theorem excNew_code {rest : List Value} (hC : h.get? C = some (excClassObj nm q C N bs bm hdct sn sub ab col dd k0 k1 k2 k3 k5 "Exception.__new__"))
    (h1 : bm.contains (.type "Exception") = true) (h2 : bm.contains (.type "AttributeError") = false) (h3 : bm.contains (.type "NameError") = false)
    (hq : R (.ok (.ret (.ref (h.objs.size + 1)))) ⟨(h.push { cls := .type "tuple", data := .seq rest.toArray }).push (rawExc C h.objs.size), g, d, t, os⟩) (hrest : rest.length ≤ sizeLine) :
    codeAny (model prog w) A (.call (.builtin "Exception.__new__") ⟨.ref C :: rest, []⟩) R ⟨h, g, d, t, os⟩ := by
  have F := PySem.F.excBase_Exception
  have hends := F.ends
  have hstar := F.noStar
  have hcB : (Value.ref C :: bm).contains (.type "Exception") = true := by rw [List.contains_cons, h1, Bool.or_true]
  have hcA : (Value.ref C :: bm).contains (.type "AttributeError") = false := by rw [List.contains_cons, h2]; rfl
  have hcN : (Value.ref C :: bm).contains (.type "NameError") = false := by rw [List.contains_cons, h3]; rfl
  refine codeAny_call_builtin_code (Code.quiet_builtin _ F.quiet) ?_
  have check : ∀ (A' : Around) (Q : Unit → Shared → Prop) (E : Value → Shared → Prop), Q () ⟨h, g, d, t, os⟩ → wpAny (model prog w) A' (checkBuiltinCall "Exception.__new__" ⟨.ref C :: rest, []⟩) Q E ⟨h, g, d, t, os⟩ := by
    intro A' Q E hQ
    simp only [checkBuiltinCall, F.newKind, F.newSplit, F.newRow]
    repeat (first | refine wpAny_loadPart_at hC ?_ | (refine wpAny_isSubtype_exc hC ?_; rw [hcB]) | refine wpAny_staticBase_exc hC ?_ | refine wpAny_madeBy_exc hC ?_ | simp only [bne_self_eq_false, Bool.false_eq_true, if_false] | wp_step)
    exact hQ
  refine check _ _ _ ?_
  refine codeAny_builtinAt F.entry ?_
  unfold Builtin.«BaseException.__new__»
  refine PySem.wpAt_bind ?_
  show PySem.wpAt _ _ _ (stack >>= _) _ _ _
  refine PySem.wpAt_bind (PySem.wpAt_stack fun p below => PySem.wpAt_of_wpAny ?_)
  wp_walk
  refine PySem.wpAt_of_wpAny ?_
  rw [F.owner]
  repeat (first | with_reducible refine wpAny_madeHere_exc F.canon hC ?_ | with_reducible refine wpAny_loadPart_at hC ?_ | (with_reducible refine wpAny_isSubtype_exc hC ?_; first | rw [hcB] | rw [hcA] | rw [hcN]) | wp_step)
  show R _ _
  rw [Heap.size_push]
  exact hq

theorem excMake_code {rest : List Value} {K : Frag} {fI : Addr} (X : K.In h) (F : ExcIn K C fI) (hrest : rest.length ≤ sizeLine)
    (hq : codeAny (model prog w) (A.under (.builtin "type.__call__" ⟨.ref C :: rest, []⟩)) (.call (.ref fI) ⟨.ref (h.objs.size + 1) :: rest, []⟩) (InitBack (h.objs.size + 1) R) ⟨(h.push { cls := .type "tuple", data := .seq rest.toArray }).push (rawExc C h.objs.size), g, d, t, os⟩) :
    codeAny (model prog w) A (.call (.ref C) ⟨rest, []⟩) R ⟨h, g, d, t, os⟩ := by
  obtain ⟨⟨nm, q, N, bs, bm, hdct, sn, sub, ab, col, dd, k0, k1, k2, k3, k5, hl, b1, b2, b3, b4⟩, ecall, etyp, einit, efn⟩ := F
  have hC := X _ _ hl
  have call := looks_specialIn (M := model prog w) X ecall
  have typ := looks_instIn (M := model prog w) X etyp
  have hi := looks_findIn (M := model prog w) X einit
  have hb := fun self => bind_fn (M := model prog w) X (f := fI) self (beq_iff_eq.mp efn)
  refine codeAny_of_tree ?_
  show wpAny _ _ (callAny (.ref C) _) _ _ _
  refine nd_load hC ?_
  show wpAny _ _ (callAny.viaDunder (.ref C) _) _ _ _
  unfold callAny.viaDunder
  refine wpAny_bind (call.at ?_)
  dsimp only
  rw [tc_bind]
  refine wpAny_bind (wpAny_pure (wpAny_bind (wpAny_pure ?_)))
  refine wpAny_pure (a := Fin.again (.call (.builtin "type.__call__") ⟨.ref C :: rest, []⟩)) (And.intro rfl ?_)
  refine codeAny_call_builtin_at (Code.quiet_builtin _ (by decide +kernel)) entry_typeCall (check_slot tc_kind tc_split typ (tc_args _ _ _) ?_)
  repeat (first | with_reducible refine wpAny_loadPart_at hC ?_ | with_reducible refine wpAny_madeBy_exc hC ?_ | wp_step)
  refine excNew_code hC b1 b3 b4 ?_ hrest
  show wpAny _ _ _ _ _ _
  have k : ∀ b o, h.get? b = some o → ((h.push { cls := .type "tuple", data := .seq rest.toArray }).push (rawExc C h.objs.size)).get? b = some o := fun b o e => Heap.get?_push_of_some _ (Heap.get?_push_of_some _ e)
  have hC₁ := k _ _ hC
  have hget : ((h.push { cls := .type "tuple", data := .seq rest.toArray }).push (rawExc C h.objs.size)).get? (h.objs.size + 1) = some (rawExc C h.objs.size) := by heap_get
  have hcC : (Value.ref C :: bm).contains (.ref C) = true := by simp
  have i1 := hi.keeps k
  have b1 := (hb (.ref (h.objs.size + 1))).keeps k
  unfold isInstance
  repeat (first | with_reducible refine wpAny_loadPart_at hget ?_ | (with_reducible refine wpAny_isSubtype_exc hC₁ ?_; rw [hcC]) | wp_step)
  show wpAny _ _ (typeLookup (.ref C) _) _ _ _
  refine i1.at ?_
  refine wpAny_holding (wpAny_bind (b1.at ?_))
  refine wpAny_bind (wpAny_call ?_)
  refine codeAny_mono hq fun r s' z => ?_
  rcases r with e | (v | _ | _ | _) <;> first | exact z | exact z.elim | skip
  obtain ⟨rfl, z⟩ := z
  wp_walk
  exact z
end

section
variable {c : Cx} {A : Around} {n : Nat} {σ : Sto} {s : Shared} {args : List PV} {Φ : NPr} {X : CXPr}
theorem call_makeX {C fI : Addr} (F : ExcIn c.K C fI) (hz : args.length < 100)
    (h : ∀ x, ¬ CFoot σ x → CallC c n (.ref fI) (.k (.ref x) :: args) (upd σ x (.exc0 C)) (fun p τ => p = .k .none ∧ Φ (.k (.ref x)) τ) X) : CallC c (n + 1) (.ref C) args σ Φ X := ⟨fun A s vs hh R hv => by
  obtain ⟨hp, g, d, t, os⟩ := s
  refine excMake_code R.kin F (by rw [hv.length, sizeLine_eq]; omega) ?_
  have k : ∀ b o, hp.get? b = some o → ((hp.push { cls := .type "tuple", data := .seq vs.toArray }).push (rawExc C hp.objs.size)).get? b = some o := fun b o e => Heap.get?_push_of_some _ (Heap.get?_push_of_some _ e)
  have z : hp.objs.size ≤ ((hp.push { cls := .type "tuple", data := .seq vs.toArray }).push (rawExc C hp.objs.size)).objs.size := by rw [push_sz, push_sz]; omega
  have hx : ((hp.push { cls := .type "tuple", data := .seq vs.toArray }).push (rawExc C hp.objs.size)).get? (hp.objs.size + 1) = some (rawExc C hp.objs.size) := by heap_get
  obtain ⟨R1, S1, e1⟩ := R.alloc (ao := .exc0 C) k z t (Nat.le_succ _) ⟨_, _, hx, Nat.le_refl 6, rfl⟩ (fun d q => by cases q)
  refine codeAny_mono ((h (hp.objs.size + 1) (fun q => absurd (R.foot_lt q) (Nat.not_lt.mpr (Nat.le_succ _)))).run _ _ _ hh R1.under (.cons (.k _) (hv.mv S1.mv))) fun r s' q => ?_
  rcases r with e | (v | _ | _ | _)
  · obtain ⟨a, C', dx, fs, σ', rfl, hX, R2, S2, F2⟩ := q
    exact ⟨a, C', dx, fs, σ', rfl, hX, R2.around R1 rfl, S1.trans S2, F2.back S1.mv⟩
  · exact q.elim
  · exact q.elim
  · exact q.elim
  · obtain ⟨p, σ', ⟨rfl, hΦ⟩, vr, R2, S2⟩ := q
    cases vr
    exact ⟨rfl, _, σ', hΦ, .k _, R2.around R1 rfl, S1.trans S2⟩⟩
end
end Mine
end A17
section A18
open PySem PySem.W PySem.Calls PyProof.Rows
set_option maxRecDepth 100000
set_option linter.unusedVariables false
namespace Mine

structure Gm (c : Cx) (p : PV) (name : PySem.Str) (σ : Sto) (f : Value) (ps : List PV) : Prop where
  run : ∀ A n s v pl (Q : Value × List Value → Shared → Prop) (E : Value → Shared → Prop), CRel c A n σ s → VR s.heap p v → (∀ first t, VRs s.heap ps first → Q (f, first) { s with toks := t }) → wpAny c.M A (getMethod v name pl) Q E s

section
variable {c : Cx} {fm : Fm} {loc : Loc} {σ : Sto} {Φ : NPr} {X : XPr}

theorem Es.mono {X : XPr} {P Q : List PV → Sto → Prop} (k : ∀ as τ, P as τ → Q as τ) : ∀ {es : List Expr} {τ : Sto}, Es c fm loc X es τ P → Es c fm loc X es τ Q := by
  intro es
  induction es generalizing P Q with
  | nil => intro τ h; exact k _ _ h
  | cons e r ih => intro τ h; exact E.mono h fun a τ h' => ih (fun as τ => k _ _) h'

inductive GmP (c : Cx) (fm : Fm) (loc : Loc) (X : XPr) (name : PySem.Str) (args : List Expr) (Φ : NPr) (p : PV) (σ1 : Sto) : Prop
  | mk (f : Value) (ps : List PV) (g : Gm c p name σ1 f ps) (h : Es c fm loc X args σ1 (CallQ c fm.n f ps Φ (atL X loc)))
theorem ev_methG {o : Expr} {name : PySem.Str} {apos pos : Pos} {args : List Expr}
    (h : E c fm o loc σ (GmP c fm loc X name args Φ) X)
    (hh : fm.A.handled = none) (hs : args.all starless = true := by rfl)
    (hbase : attributeBase o name fm.env (eval o fm.env) = eval o fm.env := by with_unfolding_all rfl) (hline : (apos.endLine == pos.line) = true := by rfl) (hlen : (decide (args.length < 30)) = true := by rfl) :
    E c fm (.Call (.Attribute o name apos) args [] pos) loc σ Φ X := ⟨fun s R => by
  show wpAny _ _ (do
    let ov ← attributeBase o name fm.env (eval o fm.env)
    standAt apos.atName
    methodCall o name apos pos fm.env ov (args.length + ([] : List Keyword).length) (backTo pos (starEach args fm.env)) (backToKw pos (keywordEach [] fm.env))) _ _ _
  rw [hbase]
  refine wpAny_bind (wpAny_mono (h.run s R) (fun v s1 y => ?_) fun _ _ x => x)
  obtain ⟨p, σ1, ⟨f, ps, G, h1⟩, va, R1, S1⟩ := y
  refine wpAny_bind (wpAny_standAt ?_)
  unfold methodCall
  rw [few_form hs hlen]
  refine wpAny_bind (wpAny_holding ?_)
  show wpAny _ _ (getMethod v name _) _ _ _
  refine wpAny_toks <| G.run _ _ _ _ _ _ _ R1.cr va fun first t hv ht => ?_
  have hp : methodCallPos true o fm.env apos pos = pure pos := by
    unfold methodCallPos
    rw [hline]; rfl
  dsimp only
  rw [hp]
  refine wpAny_bind (wpAny_pure ?_)
  exact callWith_es hs hh h1 (R1.toks t) hv (S1.trans (.toks ..))⟩

theorem gm_inst {x C dx f : Addr} {fs : List (PySem.Str × PV)} {name : PySem.Str} (hx : σ x = some (.inst C dx fs)) (K : MethIn c.K C name f) (hno : fs.lookup name = none) : Gm c (.k (.ref x)) name σ (.ref f) [.k (.ref x)] := ⟨fun A n s v pl Q E R hv h => by
  cases hv
  obtain ⟨es, k, sl, I, fr⟩ := R.instAt hx
  exact method_fn R.kin I (plainGet_of K.get).1 (plainGet_of K.get).2 K.find (beq_iff_eq.mp K.fn) (by show (getL name es).map _ = _; rw [fr.getL_none hno]; rfl) (h _ _ (.cons (.k _) .nil))⟩

theorem gm_append {a : Addr} {l : List PV} (ha : σ a = some (.list l)) : Gm c (.k (.ref a)) "append" σ (.builtin "list.append") [.k (.ref a)] := ⟨fun A n s v pl Q E R hv h => by
  cases hv
  obtain ⟨vs, k, e, r⟩ := R.listAt ha
  exact Calls.getMethod_list_append e rfl rfl (h _ _ (.cons (.k _) .nil))⟩

theorem gm_str {x : PySem.Str} {name : PySem.Str} {id : String} (slot : Slot "str" name id) (hty : typeOf (.builtin id) = pure (.type "method_descriptor")) : Gm c (.str x) name σ (.builtin id) [.str x] := ⟨fun A n s v pl Q E R hv h => by
  cases hv
  exact getMethod_builtin (typeIs_str s _ _) PySem.F.plainAttrs_str slot hty (fun a q => by cases q) (h _ _ (.cons (.str _ _) .nil))⟩

theorem gm_type {T : String} {name : PySem.Str} {v : Value} (ht : typeOf (.type T) = pure (.type "type")) (hs : Manifest.isStub T = false) (e : findCls c.K (.type T) (.type "type") name = some (.val v)) (hh : handedIn v = true) : Gm c (.k (.type T)) name σ v [] := ⟨fun A n s u pl Q E R hv h => by
  cases hv
  have X := R.kin
  have hstub : opaqueClassAbove (.type T) = pure none := by unfold opaqueClassAbove; dsimp only; rw [hs]; rfl
  have L0 : Looks c.M s.heap (typeOf (.type T)) (.type "type") := Looks.of_pure ht
  have hg : findIn c.K (.type "type") "__getattribute__" = some (some (.builtin "type.__getattribute__")) := type_tga
  unfold getMethod specialOf
  refine wpAny_bind (wpAny_bind (L0.here ((looks_findIn X hg).here ?_)))
  dsimp only
  rw [if_pos canon_tga]
  refine wpAny_bind (wpAny_mono (Q := fun v => Q (v, [])) (E := E) ?_ (fun _ _ z => wpAny_pure z) fun _ _ z => z)
  have LO : Looks c.M s.heap (opaqueClassAbove (.type T)) none := Looks.of_pure hstub
  exact cls_open X LO L0 hg (looks_hook X (r := none) (by rfl)) (by show subIn c.K _ _ = _; rfl) e
    (wpAny_pure (by show wpAny _ _ (handedOut v) _ _ _; rw [handedOut_of hh]; exact wpAny_pure (h _ _ .nil)))⟩
end
end Mine
end A18
section A19
open PySem PySem.W PySem.Calls PyProof.Rows
set_option maxRecDepth 100000
set_option linter.unusedVariables false
namespace Mine

noncomputable def PV.plain : PV → Bool
  | .k v => v == .none
  | _ => true
noncomputable def PV.isStr : PV → Bool
  | .str _ => true
  | _ => false
noncomputable def PV.isInt : PV → Bool
  | .int _ => true
  | _ => false
noncomputable def PV.isTup : PV → Bool
  | .tup _ => true
  | _ => false

section
variable {c : Cx} {n : Nat} {σ : Sto} {Φ : NPr} {X : CXPr} {a b : Int} {x y : PySem.Str} {p : PV}

theorem VR.tupObj {h : Heap} {l : List PV} {v : Value} (r : VR h (.tup l) v) : ∃ a o vs k, v = .ref a ∧ h.get? a = some o ∧ o.cls = .type "tuple" ∧ o.dict = none ∧ o.data = .seq (List.toArray vs) k ∧ VRs h l vs := by
  cases r with
  | tup e c d q r => exact ⟨_, _, _, _, rfl, e, c, d, q, r⟩

theorem c_len_str (hz : (x.length : Int) < 9223372036854775808) (h : Φ (.int x.length) σ) : Call c n (.builtin "len") [.str x] σ Φ X := ⟨fun A s vs hh R hv => by
  cases hv with
  | cons v r =>
    cases r; cases v
    exact SBL.len hz ⟨_, _, h, .int _ _, R.toks _, .toks ..⟩⟩
theorem c_len_list {l : Addr} {ps : List PV} (ha : σ l = some (.list ps)) (hz : (ps.length : Int) < 2 ^ 63) (h : Φ (.int ps.length) σ) : Call c n (.builtin "len") [.k (.ref l)] σ Φ X := ⟨fun A s vs hh R hv => by
  cases hv with
  | cons v r =>
    cases r; cases v
    obtain ⟨ws, k, e, r⟩ := R.listAt ha
    have hl := isList_of e
    have hs : (List.toArray ws).size = ps.length := by rw [List.size_toArray, r.length]
    exact Calls.call_len_list hl (by rw [hs]; exact hz) ⟨_, _, h, by rw [hs]; exact .int _ _, R.toks _, .toks ..⟩⟩
theorem c_int_int (h : Φ (.int a) σ) : Call c n (.type "int") [.int a] σ Φ X := ⟨fun A s vs hh R hv => by
  cases hv with
  | cons v r =>
    cases r; cases v
    exact call_int_int ⟨_, _, h, .int _ _, R, .refl ..⟩⟩
theorem c_int_bool {b : Bool} (h : Φ (.int (if b then 1 else 0)) σ) : Call c n (.type "int") [.k (.bool b)] σ Φ X := ⟨fun A s vs hh R hv => by
  cases hv with
  | cons v r =>
    cases r; cases v
    exact call_int_bool ⟨_, _, h, .int _ _, R.toks _, .toks ..⟩⟩
theorem c_abs (h : Φ (.int (if a < 0 then -a else a)) σ) : Call c n (.builtin "abs") [.int a] σ Φ X := ⟨fun A s vs hh R hv => by
  cases hv with
  | cons v r =>
    cases r; cases v
    exact wpAny_toks <| PyProof.Rows.call_abs_int fun u tk ht => ⟨_, _, h, .int _ _, R.toks _, .toks _ _ _ ht⟩⟩
theorem c_str_int (ha : a.natAbs.log2 < 1920) (h : Φ (.str (PySem.Str.ofString (toString a))) σ) : Call c n (.type "str") [.int a] σ Φ X := ⟨fun A s vs hh R hv => by
  cases hv with
  | cons v r =>
    cases r; cases v
    exact PySem.P.str_of_int ha ⟨_, _, h, .str _ _, R.toks _, .toks ..⟩⟩
theorem c_ord {k : Nat} (h : Φ (.int k) σ) : Call c n (.builtin "ord") [.str (T [k])] σ Φ X := ⟨fun A s vs hh R hv => by
  cases hv with
  | cons v r =>
    cases r; cases v
    exact PySem.P.ord_of_char ⟨_, _, h, .int _ _, R.toks _, .toks ..⟩⟩
theorem c_chr {k : Nat} (hk : k < 1114112) (h : Φ (.str (T [k])) σ) : Call c n (.builtin "chr") [.int k] σ Φ X := ⟨fun A s vs hh R hv => by
  cases hv with
  | cons v r =>
    cases r; cases v
    exact PySem.P.chr_of_int (by rw [Bool.or_eq_false_iff]; exact ⟨decide_eq_false (by omega), decide_eq_false (by omega)⟩) ⟨_, _, h, .str _ _, R.toks _, .toks ..⟩⟩
theorem c_min (h : Φ (.int (if b < a then b else a)) σ) : Call c n (.builtin "min") [.int a, .int b] σ Φ X := ⟨fun A s vs hh R hv => by
  cases hv with
  | cons v r =>
    cases r with
    | cons u r =>
      cases r; cases v; cases u
      refine wpAny_toks <| wpAny_size <| min_two_ints hh fun h' tk hk z ht => ?_
      obtain ⟨R1, S1⟩ := R.grow hk z tk ht
      refine ⟨_, _, h, ?_, R1, S1⟩
      split <;> exact .int _ _⟩
theorem c_max (h : Φ (.int (if b > a then b else a)) σ) : Call c n (.builtin "max") [.int a, .int b] σ Φ X := ⟨fun A s vs hh R hv => by
  cases hv with
  | cons v r =>
    cases r with
    | cons u r =>
      cases r; cases v; cases u
      refine wpAny_toks <| wpAny_size <| max_two_ints hh fun h' tk hk z ht => ?_
      obtain ⟨R1, S1⟩ := R.grow hk z tk ht
      refine ⟨_, _, h, ?_, R1, S1⟩
      split <;> exact .int _ _⟩

theorem c_isi_str (hp : p.plain = true) (h : Φ (.k (.bool p.isStr)) σ) : Call c n (.builtin "isinstance") [p, .k (.type "str")] σ Φ X := ⟨fun A s vs hh R hv => by
  cases hv with
  | cons v r =>
    cases r with
    | cons u r =>
      cases r; cases u
      cases p with
      | k w => have hw : w = Value.none := beq_iff_eq.mp hp; subst hw; cases v; exact IsiPair.NoneType_str ⟨_, _, h, .k _, R.toks _, .toks ..⟩
      | int i => cases v; exact IsiPair.int_str ⟨_, _, h, .k _, R.toks _, .toks ..⟩
      | str i => cases v; exact IsiPair.str_str ⟨_, _, h, .k _, R, .refl ..⟩
      | tup l =>
        obtain ⟨t, o, ws, k, rfl, e, ec, ed, eq, r⟩ := v.tupObj
        exact IsiPair.tuple_str e ec ⟨_, _, h, .k _, R.toks _, .toks ..⟩⟩
theorem c_isi_int (hp : p.plain = true) (h : Φ (.k (.bool p.isInt)) σ) : Call c n (.builtin "isinstance") [p, .k (.type "int")] σ Φ X := ⟨fun A s vs hh R hv => by
  cases hv with
  | cons v r =>
    cases r with
    | cons u r =>
      cases r; cases u
      cases p with
      | k w => have hw : w = Value.none := beq_iff_eq.mp hp; subst hw; cases v; exact IsiPair.NoneType_int ⟨_, _, h, .k _, R.toks _, .toks ..⟩
      | int i => cases v; exact IsiPair.int_int ⟨_, _, h, .k _, R, .refl ..⟩
      | str i => cases v; exact IsiPair.str_int ⟨_, _, h, .k _, R.toks _, .toks ..⟩
      | tup l =>
        obtain ⟨t, o, ws, k, rfl, e, ec, ed, eq, r⟩ := v.tupObj
        exact IsiPair.tuple_int e ec ⟨_, _, h, .k _, R.toks _, .toks ..⟩⟩
theorem c_isi_tuple (hp : p.plain = true) (h : Φ (.k (.bool p.isTup)) σ) : Call c n (.builtin "isinstance") [p, .k (.type "tuple")] σ Φ X := ⟨fun A s vs hh R hv => by
  cases hv with
  | cons v r =>
    cases r with
    | cons u r =>
      cases r; cases u
      cases p with
      | k w => have hw : w = Value.none := beq_iff_eq.mp hp; subst hw; cases v; exact IsiPair.NoneType_tuple ⟨_, _, h, .k _, R.toks _, .toks ..⟩
      | int i => cases v; exact IsiPair.int_tuple ⟨_, _, h, .k _, R.toks _, .toks ..⟩
      | str i => cases v; exact IsiPair.str_tuple ⟨_, _, h, .k _, R.toks _, .toks ..⟩
      | tup l =>
        obtain ⟨t, o, ws, k, rfl, e, ec, ed, eq, r⟩ := v.tupObj
        exact IsiPair.tuple_tuple e ec ⟨_, _, h, .k _, R, .refl ..⟩⟩
end
end Mine
end A19
section A20
open PySem PySem.W PySem.Calls PyProof.Rows
set_option maxRecDepth 100000
set_option linter.unusedVariables false
namespace Mine

section
variable {c : Cx} {fm : Fm} {loc : Loc} {σ : Sto} {Φ : NPr} {X : XPr}

theorem ev_list {es : List Expr} {pos : Pos} (h : Es c fm loc X es σ (fun as σ1 => ∀ a, σ1 a = none → Φ (.k (.ref a)) (upd σ1 a (.list as)))) (hl : (decide (es.length < 1000)) = true := by rfl) (hs : es.all starless = true := by rfl) : E c fm (.List es pos) loc σ Φ X := ⟨fun s R => by
  rw [arm_eval_List]
  refine wpAny_bind (wpAny_standAt (wpAny_bind (wpAny_mono (es_len hs h R) (fun vs s1 x => ?_) fun _ _ x => x)))
  obtain ⟨hz, as, σ1, h1, v1, R1, S1⟩ := x
  refine PySem.wpAny_newList (hsz := by have := of_decide_eq_true hl; rw [sizeLine_eq]; omega) ?_
  obtain ⟨R2, S2, e2⟩ := R1.alloc (ao := .list as) (fun b o e => Heap.get?_push_of_some { cls := .type "list", data := .seq vs.toArray } e) (push_le _ _) s1.toks (Nat.le_refl _)
    ⟨vs, 0, Heap.get?_push_size _ rfl, v1.mv (Mv.push (fun _ => False) _ _)⟩ (fun d q => by cases q)
  exact ⟨_, _, h1 _ e2, .k _, R2, S1.trans S2⟩⟩
where
  es_len {pos : Pos} : ∀ {es : List Expr} {σ : Sto} {Φ : List PV → Sto → Prop} {s : Shared}, es.all starless = true → Es c fm loc X es σ Φ → Rel c fm loc σ s →
      wpAny c.M fm.A (spliced (backTo pos (starEach es fm.env))) (fun vs s' => vs.length = es.length ∧ LP c fm loc σ s Φ vs s') (XP c fm σ s X) s
    | [], σ, Φ, s, _, h, R => wpAny_pure ⟨rfl, [], σ, h, .nil, R, .refl ..⟩
    | e :: r, σ, Φ, s, a, h, R => by
      obtain ⟨a1, a2⟩ := Bool.and_eq_true_iff.mp (List.all_cons ▸ a)
      rw [starEach_cons a1]
      refine wpAny_bind (wpAny_mono (E.run h s R) (fun v s1 x => ?_) fun _ _ x => x)
      obtain ⟨p, σ1, h1, v1, R1, S1⟩ := x
      refine wpAny_bind (wpAny_pure (a := [v]) (wpAny_bind (wpAny_holding ?_)))
      refine wpAny_mono (es_len a2 h1 R1) (fun vs s2 x => ?_) fun _ _ x => x.trans S1
      obtain ⟨hz, ps, σ2, h2, v2, R2, S2⟩ := x
      exact wpAny_pure ⟨by simp [hz], p :: ps, σ2, h2, .cons (v1.mv S2.mv) v2, R2, S1.trans S2⟩

theorem ev_tuple {es : List Expr} {k : Nat} {pos : Pos} (h : Es c fm loc X es σ (fun as σ1 => Φ (.tup as) σ1)) (hl : (decide (es.length < 1000)) = true := by rfl) (hs : es.all starless = true := by rfl) : E c fm (.Tuple es k pos) loc σ Φ X := ⟨fun s R => by
  rw [arm_eval_Tuple]
  refine wpAny_bind (wpAny_standAt (wpAny_bind (wpAny_mono (ev_list.es_len hs h R) (fun vs s1 x => ?_) fun _ _ x => x)))
  obtain ⟨hz, as, σ1, h1, v1, R1, S1⟩ := x
  refine PySem.wpAny_newTuple (hsz := by have := of_decide_eq_true hl; rw [sizeLine_eq]; omega) ?_
  obtain ⟨R2, S2⟩ := R1.grow (fun b o e => Heap.get?_push_of_some { cls := .type "tuple", data := .seq vs.toArray } e) (push_le _ _) s1.toks
  exact ⟨_, _, h1, .tup (Heap.get?_push_size _ rfl) rfl rfl rfl (v1.mv (Mv.push (fun _ => False) _ _)), R2, S1.trans S2⟩⟩
end

section
variable {c : Cx} {n : Nat} {σ : Sto} {Φ : NPr} {X : CXPr} {a b : Int} {x y : PySem.Str} {p : PV}

theorem c_tuple_list {l : Addr} {ps : List PV} (ha : σ l = some (.list ps)) (hz : ps.length ≤ sizeLine) (h : Φ (.tup ps) σ) : Call c n (.type "tuple") [.k (.ref l)] σ Φ X := ⟨fun A s vs hh R hv => by
  cases hv with
  | cons v r =>
    cases r; cases v
    obtain ⟨ws, k, e, r⟩ := R.listAt ha
    have hl := isList_of e
    refine wpAny_size <| PySem.call_tuple_list hl (hsz := by rw [List.size_toArray, r.length]; exact hz) fun h' hk z => ?_
    have k2 : ∀ b o, s.heap.get? b = some o → (h'.push { cls := .type "tuple", data := .seq (List.toArray ws) }).get? b = some o := fun b o q => Heap.get?_push_of_some _ (hk b o q)
    obtain ⟨R1, S1⟩ := R.grow k2 z s.toks
    exact ⟨_, _, h, .tup (Heap.get?_push_size _ rfl) rfl rfl rfl (r.mv S1.mv), R1, S1⟩⟩

theorem c_range (h : ∀ l, σ l = none → Φ (.k (.ref l)) (upd σ l (.range a))) : Call c n (.type "range") [.int a] σ Φ X := ⟨fun A s vs hh R hv => by
  cases hv with
  | cons v r =>
    cases r; cases v
    refine PySem.call_range_1 ?_
    obtain ⟨R1, S1, e1⟩ := R.alloc (ao := .range a) (fun b o e => Heap.get?_push_of_some { cls := .type "range", data := .fields #[.int 0 s.toks, .int a _, .int 1 (s.toks + 1)] } e) (push_le _ _) (s.toks + 1 + 1) (Nat.le_refl _)
      ⟨_, _, _, Heap.get?_push_size _ rfl⟩ (fun d q => by cases q) (Nat.le_succ_of_le (Nat.le_succ _))
    exact ⟨_, _, h _ e1, .k _, R1, S1⟩⟩

theorem c_append {l : Addr} {ps : List PV} (ha : σ l = some (.list ps)) (hz : ps.length ≤ sizeLine) (h : Φ (.k .none) (upd σ l (.list (ps ++ [p])))) : Call c n (.builtin "list.append") [.k (.ref l), p] σ Φ X := ⟨fun A s vs hh R hv => by
  cases hv with
  | cons v r =>
    cases r with
    | cons u r =>
      rename_i uv _
      cases r; cases v
      obtain ⟨ws, k, e, rl⟩ := R.listAt ha
      have hT : s.TypeIs (.ref l) "list" := ⟨_, e, rfl⟩
      refine call_meets PySem.slot_list_append hT PySem.entry_list_append (PySem.args_list_append _ _) (PySem.list_append l (List.toArray ws) k _ (by rw [List.size_toArray, rl.length]; exact hz)) ⟨e, ?_⟩
      have X1 : Ex (· = l) s.heap (s.heap.update l (Obj.mapSeq fun x => x.push uv)) := Ex.update e rfl (fun q => absurd q (fun ⟨_, _, q⟩ => nomatch q)) (fun q => type_ne (by decide) q.1)
      obtain ⟨R1, S1⟩ := R.write (ao' := .list (ps ++ [p])) ha (.inl rfl) s.toks X1 ⟨ws ++ [uv], _, (IsL.update (n := k) (items := List.toArray ws) e (·.push uv)).trans (by rw [List.push_toArray]), (rl.mv X1.mv).snoc (u.mv X1.mv)⟩ rfl
      exact ⟨_, _, h, .k _, R1, S1⟩⟩

theorem strs_are {h : Heap} : ∀ {l : List PySem.Str} {vs : List Value}, VRs h (l.map .str) vs → StrsAre vs l
  | [], _, .nil => .nil
  | _ :: _, _, .cons v r => by cases v; exact .cons _ _ (strs_are r)
theorem c_join {l : Addr} {ps : List PySem.Str} (ha : σ l = some (.list (ps.map .str))) (hz : (ps.map (·.length)).sum + ps.length * x.length ≤ 16777216) (h : Φ (.str (Txt.join x ps)) σ) : Call c n (.builtin "str.join") [.str x, .k (.ref l)] σ Φ X := ⟨fun A s vs hh R hv => by
  cases hv with
  | cons v r =>
    cases r with
    | cons u r =>
      cases r; cases v; cases u
      obtain ⟨ws, k, e, rl⟩ := R.listAt ha
      exact wpAny_toks <| PyProof.Rows.join_list (isList_of e) (strs_are rl) hz fun t' tk ht => ⟨_, _, h, .str _ _, R.toks _, .toks _ _ _ ht⟩⟩
theorem c_index {i : Nat} {rest : List Nat} (ho : Builtin.Str.occurrences x y 0 x.length 1 = i :: rest) (h : Φ (.int i) σ) : Call c n (.builtin "str.index") [.str x, .str y] σ Φ X := ⟨fun A s vs hh R hv => by
  cases hv with
  | cons v r =>
    cases r with
    | cons u r =>
      cases r; cases v; cases u
      exact SC.index ho ⟨_, _, h, .int _ _, R.toks _, .toks ..⟩⟩
theorem c_int_str (hn : PySem.intText? x = some a) (hl : x.length ≤ 640) (h : Φ (.int a) σ) : Call c n (.type "int") [.str x] σ Φ X := ⟨fun A s vs hh R hv => by
  cases hv with
  | cons v r =>
    cases r; cases v
    exact KIN.call_text hn hl ⟨_, _, h, .int _ _, R.toks _, .toks ..⟩⟩

theorem ints_are {h : Heap} : ∀ {l : List Int} {vs : List Value}, VRs h (l.map .int) vs → IntsAre vs l
  | [], _, .nil => .nil
  | _ :: _, _, .cons v r => by cases v; exact .cons _ _ (ints_are r)
theorem c_sum {l : Addr} {is : List Int} (ha : σ l = some (.list (is.map .int))) (h : Φ (.int is.sum) σ) : Call c n (.builtin "sum") [.k (.ref l)] σ Φ X := ⟨fun A s vs hh R hv => by
  cases hv with
  | cons v r =>
    cases r; cases v
    obtain ⟨ws, k, e, rl⟩ := R.listAt ha
    have hi := ints_are rl
    obtain ⟨xs, hx⟩ := hi.allInts.items
    have hl := isList_of e
    rw [hx] at hl
    have hs : preSum (numAt xs) xs.size = is.sum := by
      rw [← hi.numsOf]
      have e2 : ws = (intItems xs).toList := by rw [← hx]
      rw [e2, nums_intItems, preSum_eq, List.take_of_length_le (by simp)]
    refine wpAny_toks <| wpAny_size <| PySem.sum_intListG hh hl fun h' tk t' hk z ht => ?_
    obtain ⟨R1, S1⟩ := R.grow hk z tk ht
    exact ⟨_, _, h, by rw [hs]; exact .int _ _, R1, S1⟩⟩

theorem op_lists {l m : Addr} {ps qs : List PV} (ha : σ l = some (.list ps)) (hb : σ m = some (.list qs)) (hz : ps.length + qs.length ≤ sizeLine) (h : ∀ r, σ r = none → Φ (.k (.ref r)) (upd σ r (.list (ps ++ qs)))) : Op2 c (binaryOp .Add) (.k (.ref l)) (.k (.ref m)) σ Φ := ⟨fun A n s v u R hv hu => by
  cases hv; cases hu
  obtain ⟨ws, k, e, rl⟩ := R.listAt ha
  obtain ⟨us, k', e', rm⟩ := R.listAt hb
  refine PySem.P.add_list e e' (hsz := by rw [List.size_toArray, List.size_toArray, rl.length, rm.length]; exact hz) ?_
  obtain ⟨R1, S1, e1⟩ := R.alloc (ao := .list (ps ++ qs)) (fun b o e => Heap.get?_push_of_some { cls := .type "list", data := .seq (List.toArray ws ++ List.toArray us) } e) (push_le _ _) s.toks (Nat.le_refl _)
    ⟨ws ++ us, 0, by rw [List.append_toArray]; exact Heap.get?_push_size _ rfl, (rl.append rm).mv (Mv.push (fun _ => False) _ _)⟩ (fun d q => by cases q)
  exact ⟨_, _, h _ e1, .k _, R1, S1⟩⟩
theorem op_mulstr (hok : MulOk x a) (h : Φ (.str (Txt.mul x a)) σ) : Op2 c (binaryOp .Mult) (.str x) (.int a) σ Φ := ⟨fun A n s v u R hv hu => by
  cases hv; cases hu
  exact wpAny_toks <| SB.mul hok fun t' k ht => ⟨_, _, h, .str _ _, R.toks _, .toks _ _ _ ht⟩⟩
end
end Mine
end A20
section A21
open PySem PySem.W PySem.Calls PyProof.Rows
set_option maxRecDepth 100000
set_option linter.unusedVariables false
namespace Mine

section
variable {c : Cx} {fm : Fm} {loc : Loc} {σ : Sto} {Φ : NPr} {X : XPr} {s : Shared} {s' : Shared}

theorem Rel.up {t : Nat} (R : Rel c fm loc σ s) (ht : t ≤ s.toks) : Rel c { fm with t0 := t } loc σ s := ⟨R.cr, R.ns, R.lnew, R.lfoot, ht⟩
theorem Rel.down {t : Nat} (R : Rel c { fm with t0 := t } loc σ s) (ht : fm.t0 ≤ s.toks) : Rel c fm loc σ s := ⟨R.cr, R.ns, R.lnew, R.lfoot, ht⟩
theorem Step.down {σ' : Sto} {t : Nat} (S : Step { fm with t0 := t } σ s σ' s') : Step fm σ s σ' s' := ⟨S.mv, S.grow, S.tk⟩
theorem NP.down {t : Nat} {v : Value} (ht : fm.t0 ≤ s.toks) (x : NP c { fm with t0 := t } loc σ s Φ v s') : NP c fm loc σ s Φ v s' :=
  let ⟨p, σ', a, b, d, e⟩ := x; ⟨p, σ', a, b, d.down (Nat.le_trans ht e.tk), e.down⟩
theorem XP.down {t : Nat} {v : Value} (ht : fm.t0 ≤ s.toks) (x : XP c { fm with t0 := t } σ s X v s') : XP c fm σ s X v s' :=
  let ⟨a, C, dx, fs, l, σ', e, b, d, g, f⟩ := x; ⟨a, C, dx, fs, l, σ', e, b, d.down (Nat.le_trans ht g.tk), g.down, f⟩

theorem ev_upop {i : PySem.Str} {k : Nat} {p pos : Pos} {r : Expr} {op : Operator} (h0 : fm.t0 = 0) (h : E c { fm with t0 := 1 } r loc σ (fun b σ2 => Op2 c (binaryOp op) (.str i) b σ2 Φ) X) : E c fm (.BinOp (.Constant (.str i) k p) op r pos) loc σ Φ X := ⟨fun s R => by
  refine wpAny_BinOp (wpAny_Constant_str ?_)
  have R1 := (R.toks (s.toks + 1)).up (t := 1) (Nat.succ_pos _)
  have z : fm.t0 ≤ s.toks + 1 := by rw [h0]; exact Nat.zero_le _
  have S1 : Step fm σ s σ { s with toks := s.toks + 1 } := .toks ..
  refine wpAny_mono (h.run _ R1) (fun u s2 x => ?_) fun _ _ x => (x.down z).trans S1
  obtain ⟨b, σ2, h2, vb, R2, S2⟩ := NP.down z x
  exact wpAny_mono (h2.run _ _ _ _ _ R2.cr (.str _ _) vb) (fun _ _ x => ((x.lift R2).trans S2).trans S1) fun _ _ x => x.elim⟩

theorem ev_replace {o : Expr} {y z : PySem.Str} {k1 k2 : Nat} {p1 p2 apos pos : Pos} (h0 : 0 < fm.t0)
    (h : E c fm o loc σ (fun p σ1 => ∃ x, p = .str x ∧ x.length + (x.length + 1) * z.length ≤ 16777216 ∧ Φ (.str (Txt.replace x y z)) σ1) X) (hyz : (y == z) = false)
    (hbase : attributeBase o "replace" fm.env (eval o fm.env) = eval o fm.env := by with_unfolding_all rfl) (hline : (apos.endLine == pos.line) = true := by rfl) :
    E c fm (.Call (.Attribute o "replace" apos) [.Constant (.str y) k1 p1, .Constant (.str z) k2 p2] [] pos) loc σ Φ X := ⟨fun s R => by
  show wpAny _ _ (do
    let ov ← attributeBase o "replace" fm.env (eval o fm.env)
    standAt apos.atName
    methodCall o "replace" apos pos fm.env ov 2 (backTo pos (starEach [.Constant (.str y) k1 p1, .Constant (.str z) k2 p2] fm.env)) (backToKw pos (keywordEach [] fm.env))) _ _ _
  rw [hbase]
  refine wpAny_bind (wpAny_mono (h.run s R) (fun v s1 q => ?_) fun _ _ x => x)
  obtain ⟨p, σ1, ⟨x, rfl, hz, h1⟩, va, R1, S1⟩ := q
  refine wpAny_bind (wpAny_standAt ?_)
  unfold methodCall
  have few : methodCallForm 2 (backTo pos (starEach [.Constant (.str y) k1 p1, .Constant (.str z) k2 p2] fm.env)) (backToKw pos (keywordEach [] fm.env)) = true := rfl
  rw [few]
  refine wpAny_bind (wpAny_holding ?_)
  show wpAny _ _ (getMethod v "replace" _) _ _ _
  have hp : methodCallPos true o fm.env apos pos = pure pos := by
    unfold methodCallPos
    rw [hline]; rfl
  cases va with
  | str _ t =>
  refine getMethod_builtin (typeIs_str s1 _ _) PySem.F.plainAttrs_str PySem.F.slot_str_replace PySem.F.type_str_replace (fun a q => by cases q) ?_
  dsimp only
  rw [hp]
  refine wpAny_bind (wpAny_pure ?_)
  rw [starEach_cons rfl, starEach_cons rfl]
  refine Calls.callWith_builtin rfl (Calls.evalArgs_plain ?_)
  refine wpAny_bind (wpAny_Constant_str (k := k1) (pos := p1) (wpAny_bind (wpAny_pure (a := [Value.str y s1.toks]) (wpAny_bind (wpAny_holding ?_)))))
  refine wpAny_bind (wpAny_Constant_str (k := k2) (pos := p2) (wpAny_bind (wpAny_pure (a := [Value.str z (s1.toks + 1)]) (wpAny_bind (wpAny_holding ?_)))))
  have tk := R1.tk
  refine wpAny_pure (a := []) (wpAny_pure (wpAny_pure ?_))
  have u0 : s1.toks ≠ 0 := by omega
  have R2 := (R1.toks (s1.toks + 1)).toks (s1.toks + 1 + 1)
  have S2 : Step fm σ1 s1 σ1 { s1 with toks := s1.toks + 1 + 1 } := .toks _ _ _ _ (by omega)
  refine wpAny_toks <| SC.replace (s := { s1 with toks := s1.toks + 1 + 1 }) u0 (Nat.succ_ne_zero _) (Nat.ne_of_lt (Nat.lt_succ_self _)) hyz hz fun t' k ht => ?_
  exact ⟨_, _, h1, .str _ _, R2.toks k ht, (S1.trans S2).trans (.toks _ _ _ k ht)⟩⟩
end
end Mine
end A21
section A22
open PySem PySem.W PySem.Calls PyProof.Rows
set_option maxRecDepth 100000
set_option linter.unusedVariables false
namespace Mine

section
variable {c : Cx} {A : Around} {n : Nat} {fm : Fm} {loc : Loc} {σ : Sto} {s : Shared} {N : NXt} {Rt : NPr} {X : XPr} {rest : List Stmt} {pos : Pos} {Φ : NPr}

theorem setitem_run {l : Addr} {ps : List PV} {i : Int} {t : Tok} {p : PV} {v : Value} (R : CRel c A n σ s) (ha : σ l = some (.list ps)) (h0 : 0 ≤ i) (hi : i < 2 ^ 63) (hn : i < ps.length) (hv : VR s.heap p v) :
    wpAny c.M A (setItem (.ref l) (.int i t) v) (fun _ s' => CRel c A n (upd σ l (.list (ps.set i.toNat p))) s' ∧ CStep σ s (upd σ l (.list (ps.set i.toNat p))) s') (fun _ _ => False) s := by
  obtain ⟨ws, k, e, rl⟩ := R.listAt ha
  have hl := isList_of e
  have hz : (List.toArray ws).size = ps.length := by rw [List.size_toArray, rl.length]
  unfold setItem
  try with_reducible refine wpAny_holding ?_
  first | refine wpAny_bind (wpAny_pure ?_) | skip
  refine wpAny_bind (wpAny_sequenceKey hl.typeIs (by decide) ?_)
  refine wpAny_bind (wpAny_callSpecial?_slot (name := PySem.Str.ofString "__setitem__") hl.typeIs slot_list_setitem
    (wpAny_call_entry slot_list_setitem hl.typeIs entry_list_setitem ?_ (args_list_setitem _ _ _)))
  show wpAny _ _ (Builtin.List.listSubscript? (.int i t) >>= _) _ _ s
  refine wpAny_bind (wpAny_listSubscript_int (fitsIndex_of h0 hi) ?_)
  obtain ⟨j, rfl⟩ := Int.eq_ofNat_of_zero_le h0
  have hj : j < (List.toArray ws).size := by rw [hz]; omega
  have hx' : (List.toArray ws)[j]? = some (List.toArray ws)[j] := Array.getElem?_eq_getElem hj
  show wpAny _ _ ((seqItemAt l j >>= fun r => pure (r.map (j, ·))) >>= _) _ _ s
  refine wpAny_bind (wpAny_bind (wpAny_seqItemAt e rfl (wpAny_pure ?_)))
  rw [hx']
  show wpAny _ _ (setSeqItemAt l j v >>= _) _ _ s
  have X1 : Ex (· = l) s.heap (s.heap.update l (Obj.mapSeq (·.setIfInBounds j v))) := Ex.update e rfl (fun q => absurd q (fun ⟨_, _, q⟩ => nomatch q)) (fun q => type_ne (by decide) q.1)
  have fin := R.write (ao' := .list (ps.set j p)) ha (.inl rfl) s.toks X1 ⟨ws.set j v, _, (IsL.update (n := k) (items := List.toArray ws) e (·.setIfInBounds j v)).trans (by rw [List.setIfInBounds_toArray]), (rl.mv X1.mv).set (hv.mv X1.mv)⟩ rfl
  refine wpAny_bind (wpAny_setSeqItemAt e rfl ?_)
  first
    | exact wpAny_bind (wpAny_pure (wpAny_pure ⟨.none, rfl, wpAny_pure fin⟩))
    | exact wpAny_pure ⟨.none, rfl, wpAny_pure fin⟩

theorem ss_setitem {o i value : Expr} {pos' : Pos} (h : E c fm value loc σ (fun p σ1 => E c fm o loc σ1 (fun q σ2 => E c fm i loc σ2 (fun r σ3 => ∃ l ps k, q = .k (.ref l) ∧ r = .int k ∧ σ3 l = some (.list ps) ∧ 0 ≤ k ∧ k < ps.length ∧ ps.length < 2 ^ 62 ∧
    SS c fm rest loc (upd σ3 l (.list (ps.set k.toNat p))) N Rt X) X) X) X)
    (hs : swapsWith value (some (.Subscript o i pos')) pos.line fm.env = pure false := by rfl) : SS c fm (.Assign [.Subscript o i pos'] value pos :: rest) loc σ N Rt X := ss_step fun s R => by
  refine wpAny_Assign_Subscript (wpAny_mono (h.run s R) (fun v s1 z => ?_) fun _ _ z => z) hs
  obtain ⟨p, σ1, h1, va, R1, S1⟩ := z
  refine wpAny_mono (h1.run s1 R1) (fun u s2 z => ?_) fun _ _ z => z.trans S1
  obtain ⟨q, σ2, h2, vu, R2, S2⟩ := z
  refine wpAny_mono (h2.run s2 R2) (fun w s3 z => ?_) fun _ _ z => (z.trans S2).trans S1
  obtain ⟨r, σ3, ⟨l, ps, k, rfl, rfl, ha, h0, hk, hz, h3⟩, vw, R3, S3⟩ := z
  cases vu; cases vw
  refine wpAny_mono (setitem_run R3.cr ha h0 (by omega) hk ((va.mv S2.mv).mv S3.mv)) (fun _ s4 z => ?_) fun _ _ z => z.elim
  exact ⟨loc, _, h3, R3.back z.1 z.2, ((S1.trans S2).trans S3).trans z.2.step⟩
end

structure DictIn (c : Cx) (d : Addr) : Prop where
  obj : ∃ es n, c.K.lookup d = some ⟨.type "dict", none, .dict es n, #[]⟩ ∧ KeysLit c.w.params es.toList
  low : (d == sysModules) = false

section
variable {c : Cx} {σ : Sto} {Φ : NPr} {d : Addr} {x : PySem.Str} {P : Bool → Prop}
theorem cmp_indict {r : Option Value} (D : DictIn c d) (e : nsIn c.K d x = some r) (h : P r.isSome) : Cmp c .In (.str x) (.k (.ref d)) σ P := ⟨fun A n s v u R hv hu => by
  cases hu
  cases hv with
  | str _ t =>
  obtain ⟨es, k, hl, hk⟩ := D.obj
  exact wpAny_in_of (strKind_is c.prog c.w x t) D.low (mapOf_K (prog := c.prog) R.kin hl hk) (by rw [find_K hl e]; exact ⟨_, rfl, h, R.toks _, .toks ..⟩)⟩
theorem it_dict {v : Value} {p : PV} (D : DictIn c d) (e : nsIn c.K d x = some (some v)) (hv : ∀ h, VR h p v) (h : Φ p σ) : It c (.k (.ref d)) (.str x) σ Φ := ⟨fun value slice A n s u w R hu hw hs => by
  cases hu
  cases hw with
  | str _ t =>
  obtain ⟨es, k, hl, hk⟩ := D.obj
  have hm := mapOf_K (prog := c.prog) (w := c.w) R.kin hl hk
  exact tail_any hm.typeIs slot_dict_getitem.lookup (wpAny_getItem_of (strKind_is c.prog c.w x t) hm (find_K hl e) ⟨_, _, h, hv _, R.toks _, .toks ..⟩) hs⟩

theorem sl_base {a : Addr} {vs : List Value} {is : List Int} {up : Nat} (ha : c.h₀.IsList a (List.toArray vs)) (hi : IntsAre vs is) (hz : vs.length ≤ sizeLine)
    (h : ∀ b, σ b = none → Φ (.k (.ref b)) (upd σ b (.list ((is.take up).map .int)))) : Sl c (.k (.ref a)) none (some (up : Int)) σ Φ := ⟨fun value slice A n s v vl vu R hv pl pu hs => by
  cases hv
  have hl : s.heap.IsList a (List.toArray vs) := let ⟨o, e, q⟩ := ha; ⟨o, R.base _ _ e, q⟩
  have G := R.grow (h' := s.heap.push { cls := .type "slice", data := .fields #[vl, vu, .none] }) (fun b o q => Heap.get?_push_of_some _ q) (push_le _ _) s.toks
  have hl' : (s.heap.push { cls := .type "slice", data := .fields #[vl, vu, .none] }).IsList a vs.toArray := let ⟨o, e, q⟩ := hl; ⟨o, Heap.get?_push_of_some _ e, q⟩
  refine tail_any (hl'.typeIs (s := { s with heap := s.heap.push _ })) slot_list_getitem.lookup (wpAny_getItem_list_slice (s := { s with heap := s.heap.push { cls := .type "slice", data := .fields #[vl, vu, .none] } }) hl' ⟨_, Heap.get?_push_size _ rfl, rfl, rfl⟩ pl pu .none (by decide) ?_ (by rw [List.size_toArray]; exact hz)) hs
  have hz' : (s.heap.push { cls := .type "slice", data := .fields #[vl, vu, .none] }).objs.size = s.heap.objs.size + 1 := Heap.size_push ..
  have sp : slicePick vs.toArray none (some (up : Int)) none = List.toArray (vs.take up) := by
    rw [slicePick_plain, List.size_toArray]
    show List.toArray ((vs.drop 0).take (clipAt vs.length (up : Int) - 0)) = _
    rw [clip_min, cut_min vs 0 up]; rfl
  have r' : ∀ {h : Heap} {vs : List Value} {is : List Int} (k : Nat), IntsAre vs is → VRs h ((is.take k).map .int) (vs.take k) := by
    intro h vs is k hi
    induction hi generalizing k with
    | nil => simp only [List.take_nil, List.map_nil]; exact .nil
    | cons i t r ih =>
      cases k with
      | zero => exact .nil
      | succ k => exact .cons (.int _ _) (ih k)
  have Al := G.1.alloc (h' := (s.heap.push { cls := .type "slice", data := .fields #[vl, vu, .none] }).push { cls := .type "list", data := .seq (slicePick vs.toArray none (some (up : Int)) none) })
    (a := (s.heap.push { cls := .type "slice", data := .fields #[vl, vu, .none] }).objs.size) (ao := .list ((is.take up).map .int)) (fun b o q => Heap.get?_push_of_some _ q) (push_le _ _) s.toks (Nat.le_refl _)
    ⟨_, 0, by rw [sp]; exact Heap.get?_push_size _ rfl, r' up hi⟩ (fun d q => by cases q)
  exact ⟨_, _, h _ Al.2.2, .k _, Al.1, G.2.trans Al.2.1⟩⟩
end
end Mine
end A22
section A23
open PySem PySem.W PySem.Calls PyProof.Rows PySem.SeqAt
set_option maxRecDepth 100000
set_option linter.unusedVariables false
namespace Mine

mutual
noncomputable def PV.dat : PV → PyData
  | .k (.bool b) => .bool b
  | .k _ => .none
  | .int i => .int i
  | .str s => .str s
  | .tup l => .tuple (dats l)
noncomputable def dats : List PV → List PyData
  | [] => []
  | p :: r => p.dat :: dats r
end
mutual
noncomputable def PV.okD : Nat → PV → Bool
  | _, .k v => v == .none
  | _, .int _ => true
  | _, .str s => s.cps.all (· < 0x110000)
  | 0, .tup _ => false
  | n + 1, .tup l => okDs n l
noncomputable def okDs : Nat → List PV → Bool
  | _, [] => true
  | n, p :: r => p.okD n && okDs n r
end

theorem okD_k {n : Nat} {w : Value} (e : (PV.k w).okD n = true) : w = .none := by cases n <;> (unfold PV.okD at e; exact beq_iff_eq.mp e)
theorem okD_tup {n : Nat} {l : List PV} (e : (PV.tup l).okD n = true) : ∃ k, n = k + 1 ∧ okDs k l = true := by
  cases n with
  | zero => unfold PV.okD at e; cases e
  | succ k => unfold PV.okD at e; exact ⟨k, rfl, e⟩
mutual
theorem VR.reads {h : Heap} : ∀ {p : PV} {v : Value}, VR h p v → ∀ n, p.okD n = true → ∃ as, Reads h v p.dat as
  | _, _, .k w => fun n e => ⟨[], by have q := okD_k e; subst q; exact .none⟩
  | _, _, .int i t => fun n e => ⟨[], by unfold PV.dat; exact .int i t⟩
  | _, _, .str x t => fun n e => ⟨[], by unfold PV.dat; exact .str x t⟩
  | _, _, .tup a b c d r => fun n e => by
    obtain ⟨k, rfl, e⟩ := okD_tup e
    obtain ⟨as, q⟩ := VRs.reads r k e
    exact ⟨as, by unfold PV.dat; exact .tuple a b d q⟩
theorem VRs.reads {h : Heap} : ∀ {ps : List PV} {vs : List Value}, VRs h ps vs → ∀ n, okDs n ps = true → ∃ as, ReadsAll h vs (dats ps) as
  | _, _, .nil => fun n e => ⟨[], by unfold dats; exact .nil⟩
  | _, _, .cons a r => fun n e => by
    unfold okDs at e
    obtain ⟨e1, e2⟩ := Bool.and_eq_true_iff.mp e
    obtain ⟨as, q1⟩ := VR.reads a n e1
    obtain ⟨bs, q2⟩ := VRs.reads r n e2
    exact ⟨as ++ bs, by unfold dats; exact .cons q1 q2⟩
end
mutual
theorem okD_can : ∀ {n : Nat} {p : PV}, p.okD n = true → p.dat.canLay0 = true
  | n, .k w, e => by have q := okD_k e; subst q; rfl
  | _, .int _, _ => rfl
  | n, .str _, e => by cases n <;> exact e
  | n + 1, .tup l, e => by unfold PV.okD at e; unfold PV.dat; show PyData.canLayAll0 _ = true; exact okDs_can e
  | 0, .tup l, e => by unfold PV.okD at e; cases e
theorem okDs_can : ∀ {n : Nat} {ps : List PV}, okDs n ps = true → PyData.canLayAll0 (dats ps) = true
  | _, [], _ => rfl
  | n, _ :: _, e => by
    unfold okDs at e
    obtain ⟨e1, e2⟩ := Bool.and_eq_true_iff.mp e
    unfold dats
    show (_ && _) = true
    rw [okD_can e1, okDs_can e2]; rfl
end
mutual
theorem okD_depth : ∀ {n : Nat} {p : PV}, p.okD n = true → p.dat.depth ≤ n
  | n, .k w, e => by have q := okD_k e; subst q; exact Nat.zero_le _
  | _, .int _, _ => Nat.zero_le _
  | _, .str _, _ => Nat.zero_le _
  | n + 1, .tup l, e => by
    unfold PV.okD at e; unfold PV.dat
    have := okDs_depth e
    simp only [PyData.depth]; omega
  | 0, .tup l, e => by unfold PV.okD at e; cases e
theorem okDs_depth : ∀ {n : Nat} {ps : List PV}, okDs n ps = true → PyData.depthAll (dats ps) ≤ n
  | _, [], _ => by unfold dats; simp [PyData.depthAll]
  | n, _ :: _, e => by
    unfold okDs at e
    obtain ⟨e1, e2⟩ := Bool.and_eq_true_iff.mp e
    unfold dats
    have h1 := okD_depth e1
    have h2 := okDs_depth e2
    simp only [PyData.depthAll]; omega
end
mutual
theorem eqv_self0 : ∀ {n : Nat} {p : PV}, p.okD n = true → PyData.eqv p.dat p.dat = true
  | n, .k w, e => by have q := okD_k e; subst q; rfl
  | _, .int _, _ => by unfold PV.dat; simp [PyData.eqv]
  | _, .str _, _ => by unfold PV.dat; simp [PyData.eqv]
  | n + 1, .tup l, e => by unfold PV.okD at e; unfold PV.dat; simp only [PyData.eqv]; exact eqvs_self0 e
  | 0, .tup l, e => by unfold PV.okD at e; cases e
theorem eqvs_self0 : ∀ {n : Nat} {ps : List PV}, okDs n ps = true → PyData.eqvAll (dats ps) (dats ps) = true
  | _, [], _ => by unfold dats; simp [PyData.eqvAll]
  | n, _ :: _, e => by
    unfold okDs at e
    obtain ⟨e1, e2⟩ := Bool.and_eq_true_iff.mp e
    unfold dats
    simp only [PyData.eqvAll, eqv_self0 e1, eqvs_self0 e2, Bool.and_self]
end
theorem okDs_shaped {n : Nat} {ps : List PV} (hn : n ≤ 60) (e : okDs n ps = true) : shaped (.list (dats ps)) = true := by
  unfold shaped
  rw [Bool.and_eq_true]
  refine ⟨okDs_can e, decide_eq_true ?_⟩
  have := okDs_depth e
  simp only [PyData.depth]; omega

section
variable {c : Cx} {A : Around} {n : Nat} {σ : Sto} {s : Shared} {P : Bool → Prop}
theorem CRel.reads {a : Addr} {l : List PV} {k : Nat} (R : CRel c A n σ s) (ha : σ a = some (.list l)) (hl : okDs k l = true) : ∃ as, Reads s.heap (.ref a) (.list (dats l)) as := by
  obtain ⟨vs, m, e, r⟩ := R.listAt ha
  obtain ⟨as, q⟩ := r.reads _ hl
  exact ⟨_, .list e rfl rfl q⟩

theorem cmp_eql {a b : Addr} {l m : List PV} {k : Nat} (hk : k ≤ 60) (ha : σ a = some (.list l)) (hb : σ b = some (.list m)) (hl : okDs k l = true) (hm : okDs k m = true) (h : P (PyData.eqvAll (dats l) (dats m))) : Cmp c .Eq (.k (.ref a)) (.k (.ref b)) σ P := ⟨fun A n s v u R hv hu => by
  cases hv; cases hu
  obtain ⟨as, ra⟩ := R.reads ha hl
  obtain ⟨bs, rb⟩ := R.reads hb hm
  exact compareEq_shaped ra rb (okDs_shaped hk hl) (okDs_shaped hk hm) (by have := R.ok.units; omega) ⟨_, rfl, h, R, .refl ..⟩⟩
theorem cmp_nel {a b : Addr} {l m : List PV} {k : Nat} (hk : k ≤ 60) (ha : σ a = some (.list l)) (hb : σ b = some (.list m)) (hl : okDs k l = true) (hm : okDs k m = true) (h : P (!PyData.eqvAll (dats l) (dats m))) : Cmp c .NotEq (.k (.ref a)) (.k (.ref b)) σ P := ⟨fun A n s v u R hv hu => by
  cases hv; cases hu
  obtain ⟨as, ra⟩ := R.reads ha hl
  obtain ⟨bs, rb⟩ := R.reads hb hm
  exact compareNe_shaped ra rb (okDs_shaped hk hl) (okDs_shaped hk hm) (by have := R.ok.units; omega) ⟨_, rfl, h, R, .refl ..⟩⟩

theorem cmp_inl {a : Addr} {l : List PV} {p : PV} {k : Nat} (hk : k ≤ 60) (ha : σ a = some (.list l)) (hl : okDs k l = true) (hp : p.okD k = true) (h : P ((dats l).any fun y => PyData.eqv y p.dat)) : Cmp c .In p (.k (.ref a)) σ P := ⟨fun A n s v u R hv hu => by
  cases hu
  obtain ⟨as, ra⟩ := R.reads ha hl
  obtain ⟨bs, rb⟩ := hv.reads _ hp
  refine in_list_reads ra rb (okDs_can hl) (okD_can hp) ?_ ⟨_, rfl, h, R, .refl ..⟩
  have := R.ok.units
  have h2 : min (PyData.depthAll (dats l)) p.dat.depth ≤ p.dat.depth := Nat.min_le_right _ _
  have h3 := okD_depth hp
  omega⟩
theorem cmp_int {l : List PV} {p : PV} {k : Nat} (hk : k ≤ 60) (hl : okDs k l = true) (hp : p.okD k = true) (h : P ((dats l).any fun y => PyData.eqv y p.dat)) : Cmp c .In p (.tup l) σ P := ⟨fun A n s v u R hv hu => by
  obtain ⟨as, ra⟩ := hu.reads (k + 1) (by unfold PV.okD; exact hl)
  obtain ⟨bs, rb⟩ := hv.reads _ hp
  unfold PV.dat at ra
  refine in_tuple_reads ra rb (okDs_can hl) (okD_can hp) ?_ ⟨_, rfl, h, R, .refl ..⟩
  have := R.ok.units
  have h2 : min (PyData.depthAll (dats l)) p.dat.depth ≤ p.dat.depth := Nat.min_le_right _ _
  have h3 := okD_depth hp
  omega⟩
end
end Mine
end A23
section A24
open PySem PySem.W PySem.Calls PyProof.Rows
set_option maxRecDepth 100000
set_option linter.unusedVariables false
namespace Mine

structure EI (c : Cx) (fm : Fm) (iter : Expr) (loc : Loc) (σ : Sto) (Ψ : List PV → (Sto → Prop) → (Expr → Prop) → Sto → Prop) (X : XPr) : Prop where
  run : ∀ s (Q : Value → Shared → Prop) (E : Value → Shared → Prop), fm.A.handled = none → Rel c fm loc σ s →
    (∀ items Keep tg σ1 s1 I W St Md, Ψ items Keep tg σ1 → Rel c fm loc σ1 s1 → Step fm σ s σ1 s1 → ItW c fm.A I W tg items Keep St Md → St 0 s1.heap → (∀ a, W a → s.heap.objs.size ≤ a ∧ a < s1.heap.objs.size ∧ ¬ CFoot σ1 a) → Q (.ref I) s1) →
    (∀ e s1, XP c fm σ s X e s1 → E e s1) → wpAny c.M fm.A (eval iter fm.env) (fun v s1 => wpAny c.M fm.A (pyIter v) Q E s1) E s

section
variable {c : Cx} {fm : Fm} {loc : Loc} {σ : Sto} {X : XPr}

inductive SrcP (c : Cx) (Ψ : List PV → (Sto → Prop) → (Expr → Prop) → Sto → Prop) (p : PV) (σ1 : Sto) : Prop
  | mk (items : List PV) (Keep : Sto → Prop) (tg : Expr → Prop) (s : Src c p items σ1 Keep tg) (h : Ψ items Keep tg σ1)
theorem ei_of {iter : Expr} {Ψ : List PV → (Sto → Prop) → (Expr → Prop) → Sto → Prop} (h : E c fm iter loc σ (SrcP c Ψ) X) : EI c fm iter loc σ Ψ X := ⟨fun s Q E hh R k kx => by
  refine wpAny_mono (h.run s R) (fun v s1 x => ?_) fun e s1 x => kx e s1 x
  obtain ⟨p, σ1, ⟨items, Keep, tg, src, hψ⟩, va, R1, S1⟩ := x
  refine src.run fm.A fm.n s1 v Q E hh R1.cr va fun I W St Md h' it st0 hW keep => ?_
  have hz : s1.heap.objs.size ≤ h'.objs.size := by
    obtain ⟨o, e, _⟩ := it.at_ _ _ I st0 it.here
    exact Nat.le_trans (hW _ it.here) (Nat.le_of_lt (Heap.lt_size e))
  obtain ⟨R2, S2⟩ := R1.grow keep hz s1.toks
  refine k items Keep tg σ1 _ I W St Md hψ R2 (S1.trans S2) it st0 fun a w => ⟨Nat.le_trans S1.mv.size (hW a w), ?_, fun q => absurd (R1.cr.foot_lt q) (Nat.not_lt.mpr (hW a w))⟩
  obtain ⟨o, e, _⟩ := it.at_ _ _ a st0 w
  exact Heap.lt_size e⟩

noncomputable def Ts (c : Cx) (fm : Fm) (loc : Loc) : List Expr → Sto → (Bool → Sto → Prop) → Prop
  | [], σ, P => P true σ
  | [e], σ, P => B c fm e loc σ P (fun _ _ _ _ => False)
  | _, _, _ => False
theorem ts_run {ifs : List Expr} {P : Bool → Sto → Prop} {s : Shared} {E : Value → Shared → Prop} (h : Ts c fm loc ifs σ P) (R : Rel c fm loc σ s) :
    wpAny c.M fm.A (forIn ifs true fun c r => if r = true then do let ok ← isTrue c fm.env (eval c fm.env); pure (ForInStep.yield ok) else pure (ForInStep.yield r)) (BP c fm loc σ s P) E s := by
  match ifs, h with
  | [], h => exact wpAny_tests_nil ⟨σ, h, R, .refl ..⟩
  | [e], h => exact wpAny_tests_one (wpAny_mono (B.run h s R) (fun _ _ x => x) fun e s' x => by obtain ⟨_, _, _, _, _, _, _, z, _⟩ := x; exact z.elim)

noncomputable abbrev fmC (fm : Fm) (scope : Scope) (cl : List (PySem.Str × Addr)) (C : Addr) : Fm := ⟨compEnvC scope cl C fm.env, fm.A, fm.n, fm.t0⟩

structure CompI (c : Cx) (fm : Fm) (scope : Scope) (cl : List (PySem.Str × Addr)) (target elt : Expr) (ifs : List Expr) (items : List PV) (Keep : Sto → Prop) (tg : Expr → Prop) (I : Nat → List PV → Sto → Prop) : Prop where
  tg : tg target
  len : items.length ≤ sizeLine
  keep : ∀ i l τ, I i l τ → Keep τ
  turn : ∀ C i q acc τ, items[i]? = some q → I i acc τ → As c (fmC fm scope cl C) target q [] τ fun l' τ' => Ts c (fmC fm scope cl C) l' ifs τ' fun b τ2 => match b with
    | false => ∃ τ3, Sub τ3 τ2 ∧ I (i + 1) acc τ3
    | true => E c (fmC fm scope cl C) elt l' τ2 (fun y τ4 => ∃ τ3, Sub τ3 τ4 ∧ I (i + 1) (acc ++ [y]) τ3) (fun _ _ _ _ => False)

inductive CompP (c : Cx) (fm : Fm) (scope : Scope) (cl : List (PySem.Str × Addr)) (target elt : Expr) (ifs : List Expr) (Ψ : Addr → Sto → Prop) (items : List PV) (Keep : Sto → Prop) (tg : Expr → Prop) (σ1 : Sto) : Prop
  | mk (I : Nat → List PV → Sto → Prop) (i0 : I 0 [] σ1) (ci : CompI c fm scope cl target elt ifs items Keep tg I) (last : ∀ D acc τ, I items.length acc τ → τ D = none → Ψ D (upd τ D (.list acc)))
theorem Rel.inner {fm' : Fm} {loc' : Loc} {s' : Shared} (R : Rel c fm' loc' σ s') (hA : fm.A = fm'.A) (hn : fm.n = fm'.n) : CRel c fm.A fm.n σ s' := by rw [hA, hn]; exact R.cr

theorem CRel.adopt {A : Around} {n : Nat} {s : Shared} {D : Addr} {l : List PV} (R : CRel c A n σ s) (hD : ¬ CFoot σ D) (hb : c.h₀.get? D = none) (r : ORel s.heap D (.list l)) : CRel c A n (upd σ D (.list l)) s := by
  have foot : ∀ b, CFoot (upd σ D (.list l)) b → CFoot σ b ∨ b = D := fun b f => by
    rcases f with ⟨o, e⟩ | ⟨x, o, e, q⟩
    · by_cases z : b = D
      · exact .inr z
      · rw [upd_ne _ _ z] at e; exact .inl (.inl ⟨o, e⟩)
    · by_cases z : x = D
      · subst z; rw [upd_same] at e; cases e; cases q
      · rw [upd_ne _ _ z] at e; exact .inl (.inr ⟨x, o, e, q⟩)
  refine ⟨R.cok, R.ok, R.base, R.gens, R.os, R.frames, fun b o e => ?_, fun b f => ?_, fun x y o p d e1 e2 d1 d2 => ?_⟩
  · by_cases z : b = D
    · subst z; rw [upd_same] at e; cases e; exact r
    · rw [upd_ne _ _ z] at e; exact R.sto b o e
  · rcases foot b f with f | rfl
    · exact R.new b f
    · exact hb
  · by_cases z1 : x = D
    · subst z1; rw [upd_same] at e1; cases e1; cases d1
    · rw [upd_ne _ _ z1] at e1
      by_cases z2 : y = D
      · subst z2; rw [upd_same] at e2; cases e2; cases d2
      · rw [upd_ne _ _ z2] at e2; exact R.dinj x y o p d e1 e2 d1 d2

inductive CompS (c : Cx) (fm : Fm) (scope : Scope) (cl : List (PySem.Str × Addr)) (C D : Addr) (σ σ1 : Sto) (s s1 : Shared) (I : Nat → List PV → Sto → Prop) (items : List PV) (St : Nat → Heap → Prop) (n : Nat) (s' : Shared) : Prop
  | mk (i : Nat) (acc : List PV) (τ : Sto) (vs : List Value) (k : Nat) (hn : n + i = items.length) (hI : I i acc τ) (st : St i s'.heap) (Rc : Rel c (fmC fm scope cl C) [] τ s') (S' : Step fm σ s τ s') (g1 : ∀ a, CFoot τ a → CFoot σ1 a ∨ D ≤ a)
    (ML : Mv (fun a => a ≠ fm.L) s1.heap s'.heap) (nD : ¬ CFoot τ D) (eD : s'.heap.get? D = some (W.listOf (List.toArray vs) k)) (va : VRs s'.heap acc vs) (la : acc.length ≤ i)
theorem comp_run {elt target iter : Expr} {ifs : List Expr} {scope : Scope} {cl : List (PySem.Str × Addr)} {pos p0 : Pos} {s : Shared} {E : Value → Shared → Prop} {use : Option (Value → Sem Unit)} {Q : Value → Shared → Prop} {Ψ : Addr → Sto → Prop}
    (hh : fm.A.handled = none) (hclos : closureFor scope fm.env = pure cl) (hcell : ∀ y ∈ scope.names, y.2 ≠ .cell) (hkind : scope.kind = .function) (hnames : ∀ y ∈ scope.names, y.2 = .local → scope.names.lookup y.1 = some .local)
    (h : EI c fm iter loc σ (CompP c fm scope cl target elt ifs Ψ) X) (R : Rel c fm loc σ s)
    (fin : ∀ D C τ s' m, Ψ D τ → Rel c fm loc τ s' → Step fm σ s τ s' → s.heap.objs.size ≤ C → ¬ CFoot τ C → D ≠ C → s'.heap.Ns C m → compPost c.M fm.A E use Q (.ref D) C (.ok .next) s')
    (ex : ∀ e s1, XP c fm σ s X e s1 → E e s1) (hs : ∀ x, foldedSetIterable iter fm.env x = pure x := by intro _; rfl) :
    wpAny c.M fm.A (comprehension (.ListComp elt [⟨target, iter, ifs, 0⟩] scope pos) scope fm.env p0 (newList []) false (eval iter fm.env) use) Q E s := by
  refine wpAny_comprehension_free rfl hs hclos hkind hnames (h.run s _ _ hh R (fun items Keep tg σ1 s1 Ia Wr St Md hψ R1 S1 it st0 hW => ?_) ex)
  obtain ⟨I, i0, ci, last⟩ := hψ
  refine wpAny_newObj_type (hd := by size_fits) (wpAny_newFunctionEnv hcell (by intro y hy; simp at hy) (fun h₁ hns₁ hsb₁ => ?_) hkind)
  dsimp only at hns₁ hsb₁ ⊢
  generalize hH2 : s1.heap.push { cls := .type "list", dict := none, data := .seq ([] : List Value).toArray } = H2 at hns₁ hsb₁ ⊢
  have hC : H2.objs.size = s1.heap.objs.size + 1 := by rw [← hH2, Heap.size_push]
  have hDC : s1.heap.objs.size ≠ H2.objs.size := by rw [hC]; exact Nat.ne_of_lt (Nat.lt_succ_self _)
  have old : ∀ b o, s1.heap.get? b = some o → h₁.get? b = some o := fun b o e => hsb₁.extBut b o (Nat.ne_of_lt (by rw [hC]; exact Nat.lt_succ_of_lt (Heap.lt_size e))) (Heap.get?_push_of_some _ (hH2 ▸ Heap.get?_push_of_some _ e))
  have hacc : h₁.get? s1.heap.objs.size = some (W.listOf (List.toArray []) 0) := hsb₁.extBut _ _ hDC (Heap.get?_push_of_some _ (hH2 ▸ Heap.get?_push_size _ rfl))
  obtain ⟨oC, esC, epC, eC, dC, _⟩ := id hns₁
  have hz₁ : s1.heap.objs.size ≤ h₁.objs.size := Nat.le_trans (by rw [hC]; exact Nat.le_succ _) (Nat.le_of_lt (Heap.lt_size eC))
  generalize hCe : H2.objs.size = C at *
  have hCn : s1.heap.objs.size ≤ C := by rw [hC]; exact Nat.le_succ _
  generalize hDe : s1.heap.objs.size = D at *
  obtain ⟨R2, S2⟩ := R1.grow old (by rw [hDe]; exact hz₁) (s1.toks + ([] : List (PySem.Str × Value)).length)
  have ndC : ∀ {τ : Sto} {s' : Shared}, Step fm σ1 s1 τ s' → True := fun _ => trivial
  have alive : ∀ {a : Addr}, a < D → s1.heap.get? a = none ∨ ∃ o, s1.heap.get? a = some o := fun {a} _ => by cases q : s1.heap.get? a <;> simp
  have nfC : ¬ CFoot σ1 C := fun q => absurd (R1.cr.foot_lt q) (by rw [hDe]; exact Nat.not_lt.mpr hCn)
  have nfD : ¬ CFoot σ1 D := fun q => absurd (R1.cr.foot_lt q) (by rw [hDe]; exact Nat.lt_irrefl _)
  have hbD : c.h₀.get? D = none := R1.cr.base_none (none_of_le (Nat.le_of_eq hDe))
  have hbC : c.h₀.get? C = none := R1.cr.base_none (none_of_le (by rw [hDe]; exact hCn))
  have hbW : ∀ a, Wr a → c.h₀.get? a = none := fun a w => R.cr.base_none (none_of_le (hW a w).1)
  have LC : fm.L ≠ C := Nat.ne_of_lt (Nat.lt_of_lt_of_le R1.lt (by rw [hDe]; exact hCn))
  have LD : fm.L ≠ D := Nat.ne_of_lt (by have := R1.lt; rw [hDe] at this; exact this)
  have WC : ¬ Wr C := fun w => absurd (hW C w).2.1 (Nat.not_lt.mpr hCn)
  have WD : ¬ Wr D := fun w => absurd (hW D w).2.1 (Nat.lt_irrefl _)
  have loop : ∀ s₃ : Shared, s₃ = { s1 with heap := h₁, toks := s1.toks + ([] : List (PySem.Str × Value)).length } →
      codeAny c.M fm.A (.compLoop (.ListComp elt [⟨target, iter, ifs, 0⟩] scope pos) 0 (.ref Ia) (.ref D) (compEnvC scope cl C fm.env)) (compPost c.M fm.A E use Q (.ref D) C) s₃ := by
    rintro s₃ rfl
    refine codeAny_loop rfl (CompS c fm scope cl C D σ σ1 s s1 I items St) ?_ items.length
      ⟨0, [], σ1, [], 0, rfl, i0, it.frame 0 s1.heap h₁ (fun _ => False) st0 (Mv.of_keeps old (by rw [hDe]; exact hz₁)) fun a o w e => old _ _ e, ⟨R2.cr, ⟨_, hns₁, fun p hp => nomatch hp⟩, hbC, nfC, R2.tk⟩, S1.trans S2, fun a f => .inl f,
        Mv.of_keeps old (by rw [hDe]; exact hz₁), nfD, hacc, .nil, Nat.le_refl _⟩
    rintro n s' ⟨i, acc, τ, vs, k, hn, hI, st, Rc, S', g1, ML, nD, eD, va, la⟩
    show wpAny _ fm.A ((compTurn (.ListComp elt [⟨target, iter, ifs, 0⟩] scope pos) 0 (.ref Ia) (.ref D) (compEnvC scope cl C fm.env)).onRaise (fun x => do noteFrame x (compEnvC scope cl C fm.env); theTreesLotGoes x)) _ _ s'
    refine wpAny_noted ?_
    rw [compTurn_list]
    have nL : ∀ {τ : Sto}, (∀ a, CFoot τ a → CFoot σ1 a ∨ D ≤ a) → ¬ CFoot τ fm.L := fun g q => (g _ q).elim R1.lfoot fun q => absurd R1.lt (by rw [hDe]; exact Nat.not_lt.mpr q)
    have nW : ∀ {τ : Sto}, (∀ a, CFoot τ a → CFoot σ1 a ∨ D ≤ a) → ∀ a, Wr a → ¬ CFoot τ a := fun g a w q => (g _ q).elim (hW a w).2.2 fun q => absurd (hW a w).2.1 (Nat.not_lt.mpr q)
    have hCs : s.heap.objs.size ≤ C := Nat.le_trans S1.mv.size (by rw [hDe]; exact hCn)
    have hDs : s.heap.objs.size ≤ D := Nat.le_trans S1.mv.size (by rw [hDe]; exact Nat.le_refl _)
    have hDlt : ∀ {s' : Shared} {o : Obj}, s'.heap.get? D = some o → D < s'.heap.objs.size := fun e => Heap.lt_size e
    refine wpAny_bind (wpAny_standAt (wpAny_bind ?_))
    by_cases hlt : i < items.length
    · refine wpAny_toks <| it.item i fm.n τ s' items[i] _ _ (List.getElem?_eq_getElem hlt) st Rc.cr (ci.keep _ _ _ hI) fun v h2 tk vr md ex ht => ?_
      dsimp only
      refine wpAny_bind (it.own (i + 1) _ _ _ _ _ ci.tg md fun h3 st2 ex2 => ?_)
      have ex3 : Ex Wr s'.heap h3 := ex.trans ex2 fun _ q => .inl q
      have R3 : Rel c (fmC fm scope cl C) [] τ { s' with heap := h3, toks := tk } := Rc.side ex3 (nW g1) WC hbW tk ht
      have S3 : Step fm σ s τ { s' with heap := h3, toks := tk } := ⟨S'.mv.trans ex3.mv fun a q => .inr (hW a q).1, S'.grow, Nat.le_trans S'.tk ht⟩
      have M3 : Mv (fun a => a ≠ fm.L) s1.heap h3 := ML.trans ex3.mv fun a q => .inl fun z => absurd R.lt (z ▸ Nat.not_lt.mpr (hW a q).1)
      have eD3 : h3.get? D = some (W.listOf (List.toArray vs) k) := ex3.keep _ _ eD WD
      have va3 := va.mv ex3.mv
      refine wpAny_bind (wpAny_mono ((ci.turn C i _ acc τ (List.getElem?_eq_getElem hlt) hI).run _ _ R3 (vr.mv ex2.mv)) (fun _ s4 x => ?_) fun _ _ x => x.elim)
      obtain ⟨l4, τ4, h4, R4, S4⟩ := x
      refine wpAny_bind (wpAny_mono (ts_run h4 R4) (fun ok s5 x => ?_) fun _ _ x => x)
      obtain ⟨τ5, h5, R5, S5⟩ := x
      have adv : ∀ {τ' : Sto} {s'' : Shared}, Step (fmC fm scope cl C) τ { s' with heap := h3, toks := tk } τ' s'' → Step fm σ s τ' s'' ∧ (∀ a, CFoot τ' a → CFoot σ1 a ∨ D ≤ a) ∧ Mv (fun a => a ≠ fm.L) s1.heap s''.heap ∧ ¬ CFoot τ' D ∧
          s''.heap.get? D = some (W.listOf (List.toArray vs) k) ∧ VRs s''.heap acc vs ∧ St (i + 1) s''.heap := by
        intro τ' s'' Z
        refine ⟨⟨S3.mv.trans Z.mv fun a f => f.elim (fun q => (S3.grow a q).elim (fun z => .inl (.inl z)) .inr) fun q => .inr (by have q' : a = C := q; rw [q']; exact hCs), fun a f => ?_, Nat.le_trans S3.tk Z.tk⟩, fun a f => ?_, M3.trans Z.mv fun a f => .inl fun z => f.elim (fun q => nL g1 (z ▸ q)) fun q => LC (z ▸ q), fun f => ?_, ?_, va3.mv Z.mv, ?_⟩
        · rcases Z.grow a f with f | f
          · exact S3.grow a f
          · exact .inr (Nat.le_trans S3.mv.size f)
        · rcases Z.grow a f with f | f
          · exact g1 a f
          · exact .inr (Nat.le_of_lt (Nat.lt_of_lt_of_le (Heap.lt_size eD3) f))
        · rcases Z.grow D f with f | f
          · exact nD f
          · exact absurd (Heap.lt_size eD3) (Nat.not_lt.mpr f)
        · exact (Z.mv.keep D _ eD3 fun f => f.elim nD hDC).of_ne fun _ _ q => nomatch q
        · refine it.frame (i + 1) h3 s''.heap _ st2 Z.mv fun a o w e => ?_
          obtain ⟨o', eo, nd, _⟩ := it.at_ _ _ a st2 w
          refine (Z.mv.keep _ o e fun q => q.elim (nW g1 a w) fun q => by have q' : a = C := q; rw [q'] at w; exact WC w).elim id fun q => absurd q.1 (by rw [eo] at e; cases e; exact nd)
      cases ok with
      | false =>
        obtain ⟨τ6, m6, h6⟩ := h5
        obtain ⟨b1, b2, b3, b4, b5, b6, b7⟩ := adv (S4.trans S5)
        exact wpAny_pure ⟨rfl, n - 1, by omega, i + 1, acc, τ6, vs, k, by omega, h6, b7, (R5.forget (loc' := []) fun p hp => nomatch hp).forgetS m6, b1.forget m6, fun a f => b2 a (m6.foot f), b3, fun f => b4 (m6.foot f), b5, b6, by omega⟩
      | true =>
        refine wpAny_bind (wpAny_bind (wpAny_mono (Mine.E.run h5 s5 R5) (fun y s6 x => ?_) fun e s' x => by obtain ⟨_, _, _, _, _, _, _, z, _⟩ := x; exact z.elim))
        obtain ⟨py, τ6, ⟨τ7, m7, h7⟩, vy, R6, S6⟩ := x
        obtain ⟨b1, b2, b3, b4, b5, b6, b7⟩ := adv ((S4.trans S5).trans S6)
        have hT : s6.TypeIs (.ref D) "list" := ⟨_, b5, rfl⟩
        have lv : vs.length = acc.length := va.length
        refine wpAny_bind (call_meets PySem.slot_list_append hT PySem.entry_list_append (PySem.args_list_append _ _) (PySem.list_append D (List.toArray vs) k y (by rw [List.size_toArray, lv]; have := ci.len; omega)) ⟨b5, ?_⟩)
        have X1 : Ex (· = D) s6.heap (s6.heap.update D (Obj.mapSeq fun x => x.push y)) := Ex.update b5 rfl (fun q => absurd q (fun ⟨_, _, q⟩ => nomatch q)) (fun q => type_ne (by decide) q.1)
        have R7 := R6.side X1 (fun a q => q ▸ b4) (fun q => hDC q.symm) (fun a q => q ▸ hbD) s6.toks (Nat.le_refl _)
        refine wpAny_pure (wpAny_pure ⟨rfl, n - 1, by omega, i + 1, acc ++ [py], τ7, vs ++ [y], _, by omega, h7, ?_, (R7.forget (loc' := []) fun p hp => nomatch hp).forgetS m7, ?_, fun a f => b2 a (m7.foot f), ?_, fun f => b4 (m7.foot f),
          (IsL.update (n := k) (items := List.toArray vs) b5 (·.push y)).trans (by rw [List.push_toArray]), (b6.mv X1.mv).snoc (vy.mv X1.mv), by rw [List.length_append]; simp; omega⟩)
        · refine it.frame (i + 1) s6.heap _ _ b7 X1.mv fun a o w e => X1.keep _ _ e fun q => WD (q ▸ w)
        · exact (⟨b1.mv.trans X1.mv fun a q => .inr (q ▸ hDs), b1.grow, b1.tk⟩ : Step fm σ s τ6 { s6 with heap := s6.heap.update D (Obj.mapSeq fun x => x.push y) }).forget m7
        · exact b3.trans X1.mv fun a q => .inl fun z => LD (z.symm.trans q)
    · have hie : i = items.length := by omega
      subst hie
      refine wpAny_toks <| it.done fm.n τ s' _ _ st Rc.cr (ci.keep _ _ _ hI) fun h2 tk eb hz2 ht => ?_
      have ex3 := Ex.extBut eb hz2 fun a w => it.at_ _ _ a st w
      have R3 : Rel c (fmC fm scope cl C) [] τ { s' with heap := h2, toks := tk } := Rc.side ex3 (nW g1) WC hbW tk ht
      have S3 : Step fm σ s τ { s' with heap := h2, toks := tk } := ⟨S'.mv.trans ex3.mv fun a q => .inr (hW a q).1, S'.grow, Nat.le_trans S'.tk ht⟩
      have M3 : Mv (fun a => a ≠ fm.L) s1.heap h2 := ML.trans ex3.mv fun a q => .inl fun z => absurd R.lt (z ▸ Nat.not_lt.mpr (hW a q).1)
      have eD3 : h2.get? D = some (W.listOf (List.toArray vs) k) := ex3.keep _ _ eD WD
      have va3 := va.mv ex3.mv
      refine wpAny_pure ?_
      obtain ⟨mC, hmC, _⟩ := R3.ns
      have RA := (R3.inner (fm := fm) rfl rfl).adopt nD hbD ⟨vs, k, eD3, va3⟩
      have nDτ : τ D = none := by
        cases q : τ D with
        | none => rfl
        | some o => exact absurd (.inl ⟨o, q⟩) nD
      have footD : ∀ a, CFoot (upd τ D (.list acc)) a → CFoot τ a ∨ a = D := fun a f => by
        rcases f with ⟨o, e⟩ | ⟨x, o, e, q⟩
        · by_cases z : a = D
          · exact .inr z
          · rw [upd_ne _ _ z] at e; exact .inl (.inl ⟨o, e⟩)
        · by_cases z : x = D
          · subst z; rw [upd_same] at e; cases e; cases q
          · rw [upd_ne _ _ z] at e; exact .inl (.inr ⟨x, o, e, q⟩)
      obtain ⟨m, hm, hl⟩ := R1.ns
      refine fin D C _ _ mC (last D acc τ hI nDτ) ⟨RA, ⟨m, ns_kp hm fun o e => M3.keep _ o e fun z => z rfl, fun p hp => ?_⟩, R1.lnew, fun f => (footD _ f).elim (nL g1) LD, Nat.le_trans R.tk S3.tk⟩
        ⟨S3.mv, fun a f => (footD a f).elim (S3.grow a) fun q => .inr (q ▸ hDs), S3.tk⟩ hCs (fun f => (footD _ f).elim R3.lfoot fun q => hDC q.symm) hDC hmC
      obtain ⟨a1, v, a2, a3⟩ := hl p hp
      exact ⟨a1, v, a2, a3.mv M3⟩
  exact codeAny_compStart_list (loop _ rfl) (it.self 0 _ _ _ (it.frame 0 s1.heap h₁ (fun _ => False) st0 (Mv.of_keeps old (by rw [hDe]; exact hz₁)) fun a o w e => old _ _ e) (loop _ rfl))
end
end Mine
end A24
section A25
open PySem PySem.W PySem.Calls PyProof.Rows
set_option maxRecDepth 100000
set_option linter.unusedVariables false
namespace Mine

theorem Step.after {fm : Fm} {σ τ : Sto} {s s' : Shared} {h' : Heap} {C : Addr} (S : Step fm σ s τ s') (sb : Heap.SameBut C s'.heap h') (hC : s.heap.objs.size ≤ C) : Step fm σ s τ { s' with heap := h' } := by
  have lt : ∀ {b o}, s.heap.get? b = some o → b ≠ C := fun e q => absurd (Heap.lt_size e) (q ▸ Nat.not_lt.mpr hC)
  refine ⟨⟨fun b o e n => ?_, fun b o e n => ?_, fun b o e t => (sb.2 b (lt e)).trans (S.mv.tup b o e t), ?_⟩, S.grow, S.tk⟩
  · rcases S.mv.keep b o e n with q | ⟨d, sl, q⟩
    · exact .inl ((sb.2 b (lt e)).trans q)
    · exact .inr ⟨d, sl, (sb.2 b (lt e)).trans q⟩
  · obtain ⟨o', e', d⟩ := S.mv.nf b o e n
    exact ⟨o', (sb.2 b (lt e)).trans e', d⟩
  · show _ ≤ h'.objs.size
    rw [sb.1]; exact S.mv.size

theorem CRel.after {c : Cx} {A : Around} {n : Nat} {σ τ : Sto} {s s' : Shared} {h' : Heap} {C : Addr} (R0 : CRel c A n σ s) (R : CRel c A n τ s') (m : Mv (fun _ => True) s.heap s'.heap) (sb : Heap.SameBut C s'.heap h') (hC : s.heap.objs.size ≤ C) (hf : ¬ CFoot τ C) {mC : PySem.Str → Option Value} (hn : s'.heap.Ns C mC) : CRel c A n τ { s' with heap := h' } := by
  have lt : ∀ {b o}, s.heap.get? b = some o → b ≠ C := fun e q => absurd (Heap.lt_size e) (q ▸ Nat.not_lt.mpr hC)
  refine ⟨R.cok, R.ok, fun b o e => (sb.2 b (lt (R0.base b o e))).trans (R.base b o e), R.gens, R.os, ?_, fun a o e => ?_, R.new, R.dinj⟩
  · obtain ⟨frs, hf, hl⟩ := R0.frames
    refine ⟨frs, hf, fun env he => ?_⟩
    obtain ⟨a, L, o, b, d, e, f⟩ := hl env he
    obtain ⟨o', e', f'⟩ := m.nf L o e f
    exact ⟨a, L, o', b, d, (sb.2 L (lt e)).trans e', f'⟩
  · have mk : Mk (fun b => b = C) s'.heap h' := ⟨fun b o e n => .inl ((sb.2 b n).trans e), fun b o e t => ?_⟩
    · exact (R.sto a o e).mk mk (fun q => hf (q ▸ .inl ⟨o, e⟩)) fun d hd q => hf (q ▸ .inr ⟨a, o, e, hd⟩)
    · by_cases q : b = C
      · subst q
        obtain ⟨o2, es, ep, e2, d2, _⟩ := hn
        rw [e] at e2; cases e2
        obtain ⟨_, _, _, t⟩ := t
        rw [d2] at t; cases t
      · exact (sb.2 b q).trans e

theorem Rel.after {c : Cx} {fm : Fm} {loc : Loc} {σ τ : Sto} {s s' : Shared} {h' : Heap} {C : Addr} (R0 : CRel c fm.A fm.n σ s) (R : Rel c fm loc τ s') (S : Step fm σ s τ s') (sb : Heap.SameBut C s'.heap h') (hC : s.heap.objs.size ≤ C) (hf : ¬ CFoot τ C) (hL : fm.L ≠ C)
    {mC : PySem.Str → Option Value} (hn : s'.heap.Ns C mC) : Rel c fm loc τ { s' with heap := h' } := by
  obtain ⟨m, hm, hl⟩ := R.ns
  have mk : Mk (fun b => b = C) s'.heap h' := ⟨fun b o e n => .inl ((sb.2 b n).trans e), fun b o e t => ?_⟩
  · refine ⟨R0.after R.cr (S.mv.mono fun _ _ => trivial) sb hC hf hn, ⟨m, ns_kp hm fun o e => .inl ((sb.2 _ hL).trans e), fun p hp => ?_⟩, R.lnew, R.lfoot, R.tk⟩
    obtain ⟨a, v, b, d⟩ := hl p hp
    exact ⟨a, v, b, d.mk mk⟩
  · by_cases q : b = C
    · subst q
      obtain ⟨o2, es, ep, e2, d2, _⟩ := hn
      rw [e] at e2; cases e2
      obtain ⟨_, _, _, t⟩ := t
      rw [d2] at t; cases t
    · exact (sb.2 b q).trans e

section
variable {c : Cx} {fm : Fm} {loc : Loc} {σ : Sto} {Φ : NPr} {X : XPr} {N : NXt} {Rt : NPr} {rest : List Stmt}

theorem ev_comp {elt target iter : Expr} {ifs : List Expr} {scope : Scope} (cl : List (PySem.Str × Addr)) {pos : Pos}
    (h : EI c fm iter loc σ (CompP c fm scope cl target elt ifs (fun D τ => Φ (.k (.ref D)) τ)) X)
    (hh : fm.A.handled = none) (hclos : closureFor scope fm.env = pure cl := by with_unfolding_all rfl) (hcell : (scope.names.all fun y => !(y.2 == .cell)) = true := by rfl) (hkind : scope.kind = .function := by rfl) (hnames : (scope.names.all fun y => !(y.2 == .local) || decide (scope.names.lookup y.1 = some .local)) = true := by decide +kernel)
    (hs : ∀ x, foldedSetIterable iter fm.env x = pure x := by intro _; rfl) : E c fm (.ListComp elt [⟨target, iter, ifs, 0⟩] scope pos) loc σ Φ X := ⟨fun s R => by
  rw [eval_ListComp]
  refine comp_run (use := none) (Ψ := fun D τ => Φ (.k (.ref D)) τ) hh hclos (fun y hy => ?_) hkind (fun y hy q => ?_) h R (fun D C τ s' m hΨ R' S' hC hf hDC hm => ?_) (fun _ _ x => x) hs
  · have := List.all_eq_true.mp hcell y hy
    intro z; rw [z] at this; simp at this
  · have := List.all_eq_true.mp hnames y hy
    rw [q] at this; simpa using this
  · have LC : fm.L ≠ C := fun q => absurd R.lt (q ▸ Nat.not_lt.mpr hC)
    exact ⟨m, hm, fun h' sb => ⟨_, τ, hΨ, .k _, R'.after R.cr S' sb hC hf LC hm, S'.after sb hC⟩⟩⟩

theorem ss_letcomp {elt target iter : Expr} {ifs : List Expr} {scope : Scope} (cl : List (PySem.Str × Addr)) {pos pos' spos : Pos} {y : PySem.Str}
    (h : EI c fm iter loc σ (CompP c fm scope cl target elt ifs (fun D τ => As c fm (.Name y pos') (.k (.ref D)) loc τ fun l' τ' => (∀ a, CFoot τ' a → CFoot τ a) ∧ SS c fm rest l' τ' N Rt X)) X)
    (hh : fm.A.handled = none) (hsw : swapsWith (.ListComp elt [⟨target, iter, ifs, 0⟩] scope pos) (some (.Name y pos')) spos.line fm.env = pure true := by with_unfolding_all rfl)
    (hclos : closureFor scope fm.env = pure cl := by with_unfolding_all rfl) (hcell : (scope.names.all fun y => !(y.2 == .cell)) = true := by rfl) (hkind : scope.kind = .function := by rfl) (hnames : (scope.names.all fun y => !(y.2 == .local) || decide (scope.names.lookup y.1 = some .local)) = true := by decide +kernel)
    (hs : ∀ x, foldedSetIterable iter fm.env x = pure x := by intro _; rfl) : SS c fm (.Assign [.Name y pos'] (.ListComp elt [⟨target, iter, ifs, 0⟩] scope pos) spos :: rest) loc σ N Rt X := ss_step fun s R => by
  rw [exec_Assign_Name_used _ _ _ _ hsw]
  refine wpAny_bind (wpAny_standAt (wpAny_bind ?_))
  show wpAny _ _ (do let _ ← comprehension (.ListComp elt [⟨target, iter, ifs, 0⟩] scope pos) scope fm.env _ (newList []) false (eval iter fm.env) (some (assign (.Name y pos') fm.env))) _ _ s
  refine wpAny_bind (wpAny_mono (comp_run (use := some (assign (.Name y pos') fm.env)) (Q := fun _ s' => FP c fm σ s (fun l τ => SS c fm rest l τ N Rt X) Rt .next s')
    (Ψ := fun D τ' => As c fm (.Name y pos') (.k (.ref D)) loc τ' fun l' τ'' => (∀ a, CFoot τ'' a → CFoot τ' a) ∧ SS c fm rest l' τ'' N Rt X) hh hclos (fun y hy => ?_) hkind (fun y hy q => ?_) h R (fun D C τ s' m hΨ R' S' hC hf hDC hm => ?_) (fun _ _ x => x) hs)
    (fun _ s' hq => wpAny_pure (wpAny_pure hq)) fun _ _ e => e)
  · have := List.all_eq_true.mp hcell y hy
    intro z; rw [z] at this; simp at this
  · have := List.all_eq_true.mp hnames y hy
    rw [q] at this; simpa using this
  · have LC : fm.L ≠ C := fun q => absurd R.lt (q ▸ Nat.not_lt.mpr hC)
    refine wpAny_mono (hΨ.run s' _ R' (.k _)) (fun _ s'' x => ?_) fun _ _ x => x.elim
    obtain ⟨l', τ', ⟨hft, hrest⟩, R2, S2⟩ := x
    have kC : ∀ o, s'.heap.get? C = some o → Kp s''.heap C o := fun o e => S2.mv.keep C o e fun q => q.elim hf fun q => LC q.symm
    have hm2 := ns_kp hm kC
    exact ⟨m, hm2, fun h' sb => ⟨l', τ', hrest, R2.after R.cr (S'.trans S2) sb hC (fun q => hf (hft _ q)) LC hm2, (S'.trans S2).after sb hC⟩⟩

theorem as_name_foot {loc' : Loc} {x : PySem.Str} {p : PV} {pos : Pos} (hs : SetL x p loc loc') (h : SS c fm rest loc' σ N Rt X) (hx : fm.env.kindOf x = some .local := by rfl) (hk : fm.env.scope.kind = .function := by rfl) :
    As c fm (.Name x pos) p loc σ (fun l' τ' => (∀ a, CFoot τ' a → CFoot σ a) ∧ SS c fm rest l' τ' N Rt X) := as_name hs ⟨fun _ f => f, h⟩ hx hk
end
end Mine
end A25
section A26
open PySem PySem.W PySem.Calls PyProof.Rows
set_option maxRecDepth 100000
set_option maxHeartbeats 1000000
set_option linter.unusedVariables false
namespace Mine

section
variable {c : Cx} {A : Around} {n : Nat} {fm : Fm} {loc : Loc} {σ : Sto} {s : Shared} {N : NXt} {Rt : NPr} {X : XPr} {rest : List Stmt} {pos : Pos} {Φ : NPr}

theorem raiseStmt_run {M : Model} {env : Env} {E : Value → Shared → Prop} {Q : Flow → Shared → Prop} {x : Sem Value} {C : Addr} {K : Frag} (S : ExcShape K C) (hh : A.handled = none)
    (h : wpAny M A x (fun v s₁ => ∃ e dx vs sl, v = .ref e ∧ K.In s₁.heap ∧ s₁.heap.get? e = some ⟨.ref C, some dx, .fields vs, sl⟩ ∧ vs[1]? = some .none ∧ E (.ref e) s₁) E s) :
    wpAny M A (raiseStmt env (some x) none) Q E s := by
  obtain ⟨nm, q, N, bs, bm, hdct, sn, sub, ab, col, dd, k0, k1, k2, k3, k5, hl, b1, hbase, b3, b4⟩ := S
  have hcB : (Value.ref C :: bm).contains (.type "BaseException") = true := by rw [List.contains_cons, hbase, Bool.or_true]
  unfold raiseStmt
  refine wpAny_bind (wpAny_mono h (fun v s₁ h₁ => ?_) fun _ _ x => x)
  obtain ⟨e, dx, vs, sl, rfl, XK, he, h1, hE⟩ := h₁
  have hC := XK _ _ hl
  obtain ⟨hp, g, d, tk, os⟩ := s₁
  repeat (first | with_reducible refine wpAny_loadPart_at he ?_ | with_reducible refine wpAny_loadPart_at hC ?_ | (with_reducible refine wpAny_isSubtype_exc hC ?_; rw [hcB]) | with_reducible refine wpAny_field he rfl h1 ?_ | wp_step)
  exact wpAny_raiseNew_none hh hE

inductive RaiseP (C : Addr) (σ : Sto) (loc : Loc) (X : XPr) (p : PV) (σ1 : Sto) : Prop
  | mk (a dx : Addr) (fs : List (PySem.Str × PV)) (σ2 : Sto) (q : p = .k (.ref a)) (e : σ1 = upd σ2 a (.exc true C dx fs)) (n1 : ¬ CFoot σ2 a) (n2 : ¬ CFoot σ2 dx) (n3 : ¬ CFoot σ a) (n4 : ¬ CFoot σ dx) (h : X C fs loc σ2)
theorem ss_raise {e : Expr} {C : Addr} (S : ExcShape c.K C) (hh : fm.A.handled = none)
    (h : E c fm e loc σ (RaiseP C σ loc X) X) : SS c fm (.Raise (some e) none pos :: rest) loc σ N Rt X := ss_step fun s R => by
  rw [arm_exec_Raise]
  show wpAny _ _ (do standAt pos; raiseStmt fm.env (some (do let v ← eval e fm.env; standAt pos; pure v)) none) _ _ s
  refine wpAny_bind (wpAny_standAt (raiseStmt_run S hh (wpAny_bind (wpAny_mono (h.run s R) (fun v s1 x => wpAny_bind (wpAny_standAt (wpAny_pure ?_))) fun _ _ x => x))))
  obtain ⟨p, σ1, ⟨a, dx, fs, σ2, rfl, rfl, na, nd, na0, nd0, hX⟩, va, R1, S1⟩ := x
  cases va
  obtain ⟨⟨vs, sl, ea, h6, hf⟩, es, k, sd, ed, fr⟩ := R1.cr.sto a _ (upd_same _ _ _)
  have sub : Sub σ2 (upd σ2 a (.exc true C dx fs)) := fun b o q => by
    by_cases z : b = a
    · subst z; exact absurd (.inl ⟨o, q⟩) na
    · rw [upd_ne _ _ z]; exact q
  refine ⟨a, dx, vs, sl, rfl, R1.cr.kin, ea, hf rfl, a, C, dx, fs, loc, σ2, rfl, hX, R1.forgetS sub, S1.forget sub, ?_, ?_, na, nd, ⟨vs, sl, ea, h6, .inl ⟨rfl, hf rfl⟩⟩, es, k, sd, ed, fr⟩
  · exact (S1.grow a (.inl ⟨_, upd_same _ _ _⟩)).elim (fun q => absurd q na0) id
  · exact (S1.grow dx (.inr ⟨a, _, upd_same _ _ _, rfl⟩)).elim (fun q => absurd q nd0) id

theorem Rel.renamed {h' : Heap} {m' : PySem.Str → Option Value} (R : Rel c fm loc σ s) (hn : h'.Ns fm.L m') (hb : Heap.SameBut fm.L s.heap h') (t : Nat) (ht : s.toks ≤ t) :
    Rel c fm [] σ { s with heap := h', toks := t } ∧ Step fm σ s σ { s with heap := h', toks := t } := by
  obtain ⟨m₀, hm₀, hl⟩ := R.ns
  obtain ⟨o, es, ep, ho, hd, _⟩ := hm₀
  obtain ⟨o', es', ep', ho', hd', r'⟩ := hn
  have X : Ex (· = fm.L) s.heap h' := by
    refine ⟨fun b o' e' n => (hb.2 b n).trans e', fun b o1 e1 n' => ?_, fun b o1 e1 t => ?_, Nat.le_of_eq hb.1.symm⟩
    · by_cases q : b = fm.L
      · subst q; exact ⟨_, ho', _, _, hd'⟩
      · exact ⟨o1, (hb.2 b q).trans e1, n'⟩
    · by_cases q : b = fm.L
      · subst q; rw [ho] at e1; cases e1
        obtain ⟨_, vs, n, t⟩ := t
        rw [hd] at t; cases t
      · exact (hb.2 b q).trans e1
  exact ⟨⟨R.cr.move (s' := { s with heap := h', toks := t }) X (fun a q => q ▸ R.lnew) rfl rfl (fun a o e => .inl ⟨e, fun q => R.lfoot (q ▸ .inl ⟨o, e⟩), fun d hd q => R.lfoot (q ▸ .inr ⟨a, o, e, hd⟩)⟩) R.cr.new R.cr.dinj,
    ⟨_, ⟨o', es', ep', ho', hd', r'⟩, fun q hq => nomatch hq⟩, R.lnew, R.lfoot, Nat.le_trans R.tk ht⟩, ⟨X.mv.mono fun _ q => .inr q, fun _ f => .inl f, ht⟩⟩

noncomputable abbrev fmH (fm : Fm) (a : Addr) : Fm := { fm with A := fm.A.mark (some (.ref a)) }
theorem CRel.marked (R : CRel c A n σ s) (a : Addr) : CRel c (A.mark (some (.ref a))) n σ s := ⟨R.cok, ⟨R.ok.depth, R.ok.units⟩, R.base, R.gens, R.os, R.frames, R.sto, R.new, R.dinj⟩
theorem CRel.unmarked {a : Addr} (R : CRel c (A.mark (some (.ref a))) n σ s) : CRel c A n σ s := ⟨R.cok, ⟨R.ok.depth, R.ok.units⟩, R.base, R.gens, R.os, R.frames, R.sto, R.new, R.dinj⟩
theorem Rel.marked (R : Rel c fm loc σ s) (a : Addr) : Rel c (fmH fm a) loc σ s := ⟨R.cr.marked a, R.ns, R.lnew, R.lfoot, R.tk⟩
theorem Rel.unmarked {a : Addr} (R : Rel c (fmH fm a) loc σ s) : Rel c fm loc σ s := ⟨R.cr.unmarked, R.ns, R.lnew, R.lfoot, R.tk⟩
theorem Step.unmarked {a : Addr} {σ' : Sto} {s' : Shared} (S : Step (fmH fm a) σ s σ' s') : Step fm σ s σ' s' := ⟨S.mv, S.grow, S.tk⟩

theorem CRel.adoptX {a C dx : Addr} {fs : List (PySem.Str × PV)} (R : CRel c A n σ s) (na : ¬ CFoot σ a) (nd : ¬ CFoot σ dx) (ba : c.h₀.get? a = none) (bd : c.h₀.get? dx = none) (r : ORel s.heap a (.exc false C dx fs)) : CRel c A n (upd σ a (.exc false C dx fs)) s ∧ (∀ b, CFoot (upd σ a (.exc false C dx fs)) b → CFoot σ b ∨ b = a ∨ b = dx) := by
  have foot : ∀ b, CFoot (upd σ a (.exc false C dx fs)) b → CFoot σ b ∨ b = a ∨ b = dx := fun b f => by
    rcases f with ⟨o, e⟩ | ⟨x, o, e, q⟩
    · by_cases z : b = a
      · exact .inr (.inl z)
      · rw [upd_ne _ _ z] at e; exact .inl (.inl ⟨o, e⟩)
    · by_cases z : x = a
      · subst z; rw [upd_same] at e; cases e; cases q; exact .inr (.inr rfl)
      · rw [upd_ne _ _ z] at e; exact .inl (.inr ⟨x, o, e, q⟩)
  refine ⟨⟨R.cok, R.ok, R.base, R.gens, R.os, R.frames, fun b o e => ?_, fun b f => ?_, fun x y o p d e1 e2 d1 d2 => ?_⟩, foot⟩
  · by_cases z : b = a
    · subst z; rw [upd_same] at e; cases e; exact r
    · rw [upd_ne _ _ z] at e; exact R.sto b o e
  · rcases foot b f with f | rfl | rfl
    · exact R.new b f
    · exact ba
    · exact bd
  · by_cases z1 : x = a
    · by_cases z2 : y = a
      · rw [z1, z2]
      · subst z1; rw [upd_same] at e1; cases e1; cases d1; rw [upd_ne _ _ z2] at e2
        exact absurd (.inr ⟨y, p, e2, d2⟩) nd
    · rw [upd_ne _ _ z1] at e1
      by_cases z2 : y = a
      · subst z2; rw [upd_same] at e2; cases e2; cases d2
        exact absurd (.inr ⟨x, o, e1, d1⟩) nd
      · rw [upd_ne _ _ z2] at e2
        exact R.dinj x y o p d e1 e2 d1 d2

theorem ss_try {body : List Stmt} {x y : PySem.Str} {np hpos : Pos} {b₀ : Stmt} {suite : List Stmt} {C : Addr} {Xb : XPr} (S : ExcShape c.K C) (ff : FF fm)
    (hm : nsIn c.K mainGlobals x = some (some (.ref C)))
    (h : SS c fm body loc σ (fun l τ => SS c fm rest l τ N Rt X) Rt Xb)
    (hx : ∀ C' fs l τ, Xb C' fs l τ → C' = C ∧ ∀ a dx, ¬ CFoot τ a → ¬ CFoot τ dx → ∃ l', SetL y (.k (.ref a)) l l' ∧ SS c (fmH fm a) (b₀ :: suite) l' (upd τ a (.exc false C dx fs)) (fun _ τ' => SS c fm rest [] τ' N Rt X) Rt (fun _ _ _ _ => False))
    (hy : fm.env.kindOf y = some .local := by rfl) (hk : fm.env.scope.kind = .function := by rfl) (hxk : fm.env.kindOf x = some .globalImplicit := by rfl) (hg : fm.env.globals = mainGlobals := by rfl)
    (hd : (x == ("__debug__" : PySem.Str)) = false := by decide +kernel) :
    SS c fm (.Try body [.ExceptHandler (some (.Name x np)) (some y) (b₀ :: suite) hpos] [] [] pos :: rest) loc σ N Rt X := ss_step fun s R => by
  obtain ⟨outer, hfr⟩ := ff.frames
  refine wpAny_Try_except (wpAny_mono (h.run s R) (fun f s1 z => ?_) fun e s1 z => ?_)
  · cases f with
    | next => exact wpAny_execs_nil z
    | ret v => exact z
    | _ => exact z.elim
  · obtain ⟨a, C', dx, fs, l, σ', rfl, hxb, R', S', fl⟩ := z
    obtain ⟨rfl, hsuite⟩ := hx _ _ _ _ hxb
    have hb0 : ∀ b o, c.h₀.get? b = some o → ∃ o', s.heap.get? b = some o' := fun b o e => ⟨o, R.cr.base b o e⟩
    refine note_run (h0 := s.heap) R'.cr hfr ff.frame hb0 S'.mv.size fl fun h1 R1 m1 f1 => ?_
    have RR1 := R'.offed R1 m1 R.lt
    refine flight_run (s := { s1 with heap := h1 }) (h0 := s.heap) (fr := none) R1 rfl hb0 f1 fun h2 R2 m2 _ f2 => ?_
    have RR2 := RR1.offed R2 m2 R.lt
    have T2 : Step fm σ s σ' { s1 with heap := h2 } := ⟨(S'.mv.trans m1 fun b q => .inr q.1).trans m2 fun b q => .inr q.1, S'.grow, S'.tk⟩
    have M2 := RR2.marked a
    obtain ⟨nm, q, N', bs, bm, hdct, sn, sub, ab, col, dd, k0, k1, k2, k3, k5, hl, b1, hbase, b3, b4⟩ := S
    refine wpAny_handleBy_cons (codeAny_handlers_test ?_) (by intro q; cases q)
    have T := R2.cok.T
    refine Calls.Name_function_global hk hxk (Calls.loadGlobal_global (by rw [hg]; exact T.g.keeps R2.base) (mg_of R2.cok.X T.g hm) ?_) hd
    obtain ⟨a1, a2, a3, a4, ⟨vs, sl, c1, c2, c3⟩, c4⟩ := id f2
    refine wpAny_excMatches_sub_self (R2.kin _ _ hl) c1 rfl hbase ?_
    refine codeAny_handlers_suite_as ?_
    refine flight_run (s := { s1 with heap := h2 }) (h0 := s.heap) (fr := none) M2.cr rfl hb0 f2 fun h3 R3 m3 _ f3 => ?_
    have RR3 := M2.offed R3 m3 R.lt
    obtain ⟨m, hmn, _⟩ := RR3.ns
    refine wpAny_storeName_local hy hmn (fun h4 hn4 hb4 => ?_) (by rw [hk]; rfl)
    obtain ⟨d1, d2, d3, d4, ⟨vs', sl', e1, e2, e3⟩, es, kk, sld, e4, e5⟩ := f3
    obtain ⟨l', hset, hsuite'⟩ := hsuite a dx d3 d4
    obtain ⟨R4, S4⟩ := RR3.store (v := .ref a) (p := .k (.ref a)) hy hset (.k _) hmn hn4 hb4 (s1.toks + 1)
    have na : a ≠ fm.L := fun q => absurd R.lt (q ▸ Nat.not_lt.mpr a1)
    have nd : dx ≠ fm.L := fun q => absurd R.lt (q ▸ Nat.not_lt.mpr a2)
    have X4 : Ex (· = fm.L) h3 h4 := by
      obtain ⟨oL, esL, epL, eL, dL, _⟩ := hmn
      obtain ⟨oL', esL', epL', eL', dL', _⟩ := hn4
      exact Ex.sameBut hb4 eL eL' (fun _ => ⟨_, _, dL'⟩) fun ⟨_, _, _, t⟩ => by rw [dL] at t; cases t
    have or : ORel h4 a (.exc false C' dx fs) := ⟨⟨vs', sl', X4.keep _ _ e1 na, e2, fun z => by cases z⟩, es, kk, sld, X4.keep _ _ e4 nd, e5.mv X4.mv⟩
    obtain ⟨RX, foot⟩ := R4.cr.adoptX d3 d4 (R.cr.base_none (none_of_le a1)) (R.cr.base_none (none_of_le a2)) or
    have R5 : Rel c (fmH fm a) l' (upd σ' a (.exc false C' dx fs)) { s1 with heap := h4, toks := s1.toks + 1 } := ⟨RX, R4.ns, R4.lnew, fun f => (foot _ f).elim R4.lfoot fun q => q.elim (fun q => na q.symm) fun q => nd q.symm, R4.tk⟩
    have T5 : Step fm σ s (upd σ' a (.exc false C' dx fs)) { s1 with heap := h4, toks := s1.toks + 1 } := by
      refine ⟨(T2.mv.trans m3 fun b q => .inr q.1).trans X4.mv fun b q => .inl (.inr q), fun b f => ?_, Nat.le_trans T2.tk (Nat.le_succ _)⟩
      rcases foot b f with f | rfl | rfl
      · exact T2.grow b f
      · exact .inr a1
      · exact .inr a2
    refine wpAny_mono (hsuite'.run _ R5) (fun f s6 z => ?_) fun e s6 z => by obtain ⟨_, _, _, _, _, _, _, z, _⟩ := z; exact z.elim
    cases f with
    | next =>
      obtain ⟨l6, τ6, h6, R6, S6⟩ := z
      obtain ⟨m6, hm6, _⟩ := R6.ns
      refine wpAny_nameGoes hy hm6 (by rw [hk]; rfl) fun h7 m7 hn7 hb7 => ?_
      obtain ⟨R7, S7⟩ := R6.unmarked.renamed hn7 hb7 (s6.toks + 1) (Nat.le_succ _)
      exact ⟨[], τ6, h6, R7, (T5.trans S6.unmarked).trans S7⟩
    | ret v =>
      obtain ⟨p6, l6, τ6, h6, v6, R6, S6⟩ := z
      obtain ⟨m6, hm6, _⟩ := R6.ns
      refine wpAny_nameGoes hy hm6 (by rw [hk]; rfl) fun h7 m7 hn7 hb7 => ?_
      obtain ⟨R7, S7⟩ := R6.unmarked.renamed hn7 hb7 (s6.toks + 1) (Nat.le_succ _)
      exact ⟨p6, [], τ6, h6, v6.mv S7.mv, R7, (T5.trans S6.unmarked).trans S7⟩
    | _ => exact z.elim
end
end Mine
end A26
section A27
open PySem PySem.W PySem.Calls PyProof.Rows Builtin Builtin.ObjectAttr
set_option maxRecDepth 100000
set_option maxHeartbeats 1000000
set_option linter.unusedVariables false
namespace Mine

structure AttrX (K : Frag) (C : Addr) (name : PySem.Str) : Prop where
  ga : findIn K (.ref C) "__getattribute__" = some (some (.builtin "BaseException.__getattribute__"))
  hook : findIn K (.ref C) "__getattr__" = some none
  base : subIn K (.ref C) (.type "BaseException") = some true
  dict : hasDictIn K C = true
  none : findIn K (.ref C) name = some none

section
variable {c : Cx} {A : Around} {n : Nat} {fm : Fm} {loc : Loc} {σ : Sto} {s : Shared} {X : XPr} {pos : Pos} {Φ : NPr}

theorem oga_eq (self : Value) (name : PySem.Str) (tk : Tok) : ∃ k : Value → Value → Found → Sem PySem.Fin, Builtin.«object.__getattribute__» ⟨[self, .str name tk], []⟩ = (typeOf self >>= fun tp => find self tp name >>= fun r => match r with | .value v => ret v | r => k self tp r) := by
  refine ⟨fun self tp r => match r with
    | .value v => ret v
    | .bind g a => bindTo g a self tp
    | .missing => do
      if tp == .type "module" then
        if ← isOpaqueModuleObj self then
          let byTheModulesOwnEntry := match (← stack).drop 1 with
            | (.builtin "module.__getattribute__" ⟨m :: _, _⟩, _) :: _ => m == self
            | _ => false
          if !byTheModulesOwnEntry then unsupported "thirdparty:object.__getattribute__:a-miss-on-an-opaque-module"
      if tp == .type "type" then
        if let some key ← opaqueClassAbove self then unsupported s!"thirdparty:{key.toString}.{name.toString}:object.__getattribute__-misses-on-an-opaque-class"
      noSuchAttribute self name, ?_⟩
  show (typeOf self >>= fun tp => find self tp name >>= _) = _
  congr 1; funext tp; congr 1; funext r
  cases r <;> rfl

theorem exc_get {x C : Addr} {ox od : Obj} {name : PySem.Str} {v : Value} {expr : Bool} {Q : Value → Shared → Prop} {E : Value → Shared → Prop} (X : c.K.In s.heap) (I : InstAt s.heap x ox C (some od)) (K : AttrX c.K C name) (hl : lookIn name od = some (some v)) (hh : handedIn v = true)
    (h : Q v { s with toks := s.toks + 1 }) : wpAny c.M A (getAttr (.ref x) name expr) Q E s := by
  have hf := findObj_own K.dict K.none rfl hl
  obtain ⟨hh', g, d, t, os⟩ := s
  have L0 := I.type (M := c.M)
  have L1 := looks_findIn (M := c.M) X K.ga
  have L2 := looks_find (M := c.M) X I hf
  have FX := PySem.F.attr_Exception
  refine wpAny_bind (wpAny_mkText (wpAny_holding (wpAny_bind (L0.at (wpAny_bind (L1.at ?_))))))
  dsimp only
  rw [show (onTheHeap (.ref C) && Value.builtin "BaseException.__getattribute__" == Value.builtin "object.__getattribute__") = false from by rw [show (Value.builtin "BaseException.__getattribute__" == Value.builtin "object.__getattribute__") = false from by decide +kernel, Bool.and_false], if_neg (by decide)]
  refine wpAny_bind ((looks_hook (mc := .ref C) X (r := none) (by show findIn c.K (.ref C) _ = _; exact K.hook)).at (wpAny_bind (wpAny_attempt (wpAny_holding ?_))))
  unfold callGetattribute
  rw [show (expr && onTheHeap (Value.builtin "BaseException.__getattribute__")) = false from Bool.and_false _, if_neg (by decide)]
  unfold boundAndCalled
  rw [FX.ga.bind]
  refine wpAny_bind (wpAny_pure ?_)
  show wpAny _ _ (call (.builtin "BaseException.__getattribute__") [.ref x, .str name t]) _ _ _
  refine wpAny_call ?_
  refine codeAny_call_builtin FX.ga.plain PySem.F.entry_bexc_ga ?_
  refine @check_slot c.M _ _ ⟨hh', g, d, t + 1, os⟩ "BaseException.__getattribute__" "BaseException" "__getattribute__" (.ref x) [.str name t] [] _ (by decide +kernel) (by decide +kernel) (L0.andThen (looks_subIn X K.base)) (PySem.F.args_bexc_ga (.ref x) (.str name t)) ?_
  obtain ⟨k, hk⟩ := oga_eq (.ref x) name t
  rw [hk]
  refine wpAny_bind (L0.at (wpAny_bind (L2.at ?_)))
  dsimp only
  refine wpAny_pure ?_
  show wpAny _ _ (handedOut v) _ _ _
  rw [handedOut_of hh]; exact wpAny_pure h

inductive AttrXP (c : Cx) (attr : PySem.Str) (Φ : NPr) (p : PV) (σ1 : Sto) : Prop
  | mk (x C dx : Addr) (fs : List (PySem.Str × PV)) (fresh : Bool) (q : PV) (e : p = .k (.ref x)) (e1 : σ1 x = some (.exc fresh C dx fs)) (K : AttrX c.K C attr) (l : fs.lookup attr = some q) (hd : q.handed = true) (h : Φ q σ1)
theorem ev_attrX {value : Expr} {attr : PySem.Str} (h : E c fm value loc σ (AttrXP c attr Φ) X)
    (he : eval (.Attribute value attr pos) fm.env = (do let o ← eval value fm.env; standAt pos.atName; let r ← holding [o] (getAttr o attr true); letTemporaryGo value o r; pure r) := by with_unfolding_all rfl) :
    E c fm (.Attribute value attr pos) loc σ Φ X := ⟨fun s R => by
  refine Attribute_any_ (wpAny_mono (h.run s R) (fun v s1 x => ?_) fun _ _ x => x) he
  obtain ⟨p, σ1, ⟨y, C, dx, fs, fresh, q, rfl, hx, K, hl, hh, hq⟩, va, R1, S1⟩ := x
  cases va
  obtain ⟨ox, es, k, sl, I, f⟩ := R1.cr.excAt hx
  obtain ⟨u, e, r⟩ := f.find hl
  exact exc_get R1.cr.kin I K (by exact e) (r.handed hh) ⟨q, σ1, hq, r, R1.toks _, S1.trans (.toks ..)⟩⟩
end

section
variable {c : Cx} {n : Nat} {σ : Sto} {Φ : NPr} {X : CXPr} {p : PV}
theorem c_excinit {a C : Addr} (S : ExcShape c.K C) (ha : σ a = some (.exc0 C)) (h : Φ (.k .none) σ) : Call c n (.builtin "Exception.__init__") [.k (.ref a), p] σ Φ X := ⟨fun A s vs hh R hv => by
  cases hv with
  | cons v r =>
    cases r with
    | cons u r =>
      cases r; cases v
      rename_i uv
      obtain ⟨nm, q, N', bs, bm, hdct, sn, sub, ab, col, dd, k0, k1, k2, k3, k5, hl, b1, hbase, b3, b4⟩ := S
      obtain ⟨vs, sl, e, h6, h1⟩ := R.sto a _ ha
      have F := PySem.F.excBase_Exception
      have hC := R.kin _ _ hl
      have hcB : (Value.ref C :: bm).contains (.type "Exception") = true := by rw [List.contains_cons, b1, Bool.or_true]
      have hshort := F.noStar
      obtain ⟨hp, g, d, t, os⟩ := s
      have check : ∀ (A' : Around) (Q : Unit → Shared → Prop) (E : Value → Shared → Prop), Q () ⟨hp, g, d, t, os⟩ → wpAny c.M A' (checkBuiltinCall "Exception.__init__" ⟨[.ref a, uv], []⟩) Q E ⟨hp, g, d, t, os⟩ := by
        intro A' Q E hQ
        simp only [checkBuiltinCall, F.initKind, F.initSplit, F.initRow]
        repeat (first | with_reducible refine wpAny_loadPart_at e ?_ | with_reducible refine wpAny_loadPart_at hC ?_ | (with_reducible refine wpAny_isSubtype_exc hC ?_; rw [hcB]) | wp_step)
        exact hQ
      refine wpAny_call (codeAny_call_builtin F.init.plain F.initEntry (check _ _ _ ?_))
      have h0 : vs[0]? = some vs[0] := Array.getElem?_eq_getElem (by omega)
      have e1 := Heap.get?_push_of_some { cls := .type "tuple", data := .seq [uv].toArray } e
      show wpAny _ _ ((newTuple [uv] >>= fun t => field (.ref a) 0 >>= fun old => setField (.ref a) 0 t >>= fun _ => (match old with | .ref _ => letGo [old] [] | _ => pure ())) >>= fun _ => ret .none) _ _ _
      refine wpAny_bind (wpAny_bind (PySem.wpAny_newTuple (hsz := by show 1 ≤ sizeLine; decide) (wpAny_bind (wpAny_field e1 rfl h0 (wpAny_bind (wpAny_setField e1 rfl (by omega) ?_))))))
      have X1 : Ex (· = a) hp (hp.push { cls := .type "tuple", data := .seq [uv].toArray }) := .of_keeps (fun _ _ e => Heap.get?_push_of_some _ e) (push_le _ _)
      have X2 := Ex.update (f := Obj.mapFields (·.setIfInBounds 0 (Value.ref hp.objs.size))) e1 rfl (fun ⟨_, _, q⟩ => nomatch q) (fun ⟨_, _, _, q⟩ => nomatch q)
      obtain ⟨R1, S1⟩ := R.write (ao' := .exc0 C) ha (.inl rfl) t (X1.trans X2 fun _ q => .inl q) ⟨_, sl, Heap.get?_update_self _ e1 rfl, by rw [Array.size_setIfInBounds]; exact h6, by rw [Array.getElem?_setIfInBounds_ne (by decide)]; exact h1⟩ rfl
      have es : upd σ a (.exc0 C) = σ := by
        funext b
        by_cases z : b = a
        · subst z; rw [upd_same, ha]
        · rw [upd_ne _ _ z]
      rw [es] at R1 S1
      have fin : CNP c A n σ ⟨hp, g, d, t, os⟩ Φ .none _ := ⟨_, _, h, .k _, R1, S1⟩
      split
      · unfold letGo
        refine wpAny_bind (wpAny_holding (wpAny_point ?_))
        unfold letGo
        exact wpAny_pure (wpAny_pure fin)
      · exact wpAny_pure (wpAny_pure fin)⟩
end
end Mine
end A27
section A28
open PySem PySem.W PySem.Calls PyProof.Rows
set_option maxRecDepth 100000
set_option linter.unusedVariables false
namespace Mine

section
variable {prog : Program} {w : World} {A : Around} {E : Value → Shared → Prop}
theorem isi_nested {P : Shared → Prop} (hP : ∀ s tk, P s → P { s with toks := tk }) {x : Value} {Tx : String} {tp : Addr} {cs : List Value} {vs : List Bool} {k : Nat} {sl : Array (Option Value)} {tk : Tok} {s : Shared} {Q : Fin → Shared → Prop}
    (hx : s.TypeIs x Tx) (htp : s.heap.get? tp = some ⟨.type "tuple", none, .seq cs.toArray k, sl⟩) (ha : AnswersAll P x cs vs) (hs : P s)
    (hq : ∀ tk', Q (.done (.ret (.bool (vs.any id)))) { s with toks := tk' }) : wpAny (model prog w) A (Builtin.«isinstance.nested» ⟨[x, .ref tp, .int 0 tk], []⟩) Q E s := by
  obtain ⟨h, g, d, t, os⟩ := s
  have ty : (⟨h, g, d, t, os⟩ : Shared).TypeIs (.ref tp) "tuple" := ⟨_, htp, rfl⟩
  have st := PySem.F.isi_sub_tuple
  repeat (any_goals (first | assumption | wp_step))
  refine wpAny_arrayLoop ?_
  simp only [Option.getD_some, List.toList_toArray]
  refine isinstance_items (dep := 0) hP cs vs _ _ ha hs fun tk' => ?_
  cases hv : vs.any id
  · simp only [Bool.false_eq_true, if_false]
    repeat (any_goals (first | assumption | wp_step))
    exact hv ▸ hq tk'
  · simp only [if_true]
    repeat (any_goals (first | assumption | wp_step))
    exact hv ▸ hq tk'

theorem isi_tupleOf {x : Value} {Tx : String} {tp : Addr} {cs : List Value} {vs : List Bool} {k : Nat} {sl : Array (Option Value)} {s : Shared} {Q : Value → Shared → Prop} (ha : AnswersAll (fun s => s.TypeIs x Tx) x cs vs) (hx : s.TypeIs x Tx)
    (ht : s.heap.get? tp = some ⟨.type "tuple", none, .seq cs.toArray k, sl⟩) (h : ∀ tk, Q (.bool (vs.any id)) { s with toks := tk }) :
    wpAny (model prog w) A (call (.builtin "isinstance") [x, .ref tp]) Q E s :=
  call_isinstance (S := fun _ R s => s.TypeIs x Tx ∧ s.heap.get? tp = some ⟨.type "tuple", none, .seq cs.toArray k, sl⟩ ∧ ∀ tk, R (.ok (.ret (.bool (vs.any id)))) { s with toks := tk })
    (fun _ _ _ _ _ hs => isinstance_outer (isi_nested (fun _ tk h => h.toks tk) hs.1 hs.2.1 ha hs.1 hs.2.2) (Shared.TypeIs.not_mainsLoader hs.1)) ⟨hx, ht, h⟩
end

section
variable {c : Cx} {n : Nat} {σ : Sto} {Φ : NPr} {X : CXPr} {p : PV}
theorem c_isi_seq (hp : p.plain = true) (h : Φ (.k (.bool p.isTup)) σ) : Call c n (.builtin "isinstance") [p, .tup [.k (.type "tuple"), .k (.type "list")]] σ Φ X := ⟨fun A s vs hh R hv => by
  cases hv with
  | cons v r =>
    cases r with
    | cons u r =>
      cases r
      cases u with
      | tup e ec ed eq r =>
        rename_i oo us k
        obtain ⟨oc, od, odt, sl⟩ := oo
        cases ec; cases ed; cases eq
        cases r with
        | cons r1 r =>
          cases r1
          cases r with
          | cons r1 r =>
            cases r1; cases r
            refine wpAny_toks ?_
            cases p with
            | k w =>
              have hw : w = Value.none := beq_iff_eq.mp hp
              subst hw; cases v
              exact isi_tupleOf (Tx := "NoneType") (vs := [false, false]) (.cons (Answers.of_false_none (by decide +kernel) PySem.F.isi_meta_tuple PySem.F.sub_NoneType_tuple) (.cons (Answers.of_false_none (by decide +kernel) PySem.F.isi_meta_list PySem.F.sub_NoneType_list) .nil)) rfl e fun tk ht => ⟨_, _, h, .k _, R.toks _, .toks _ _ _ ht⟩
            | int i =>
              cases v
              exact isi_tupleOf (Tx := "int") (vs := [false, false]) (.cons (Answers.of_false_int (by decide +kernel) PySem.F.isi_meta_tuple PySem.F.sub_int_tuple) (.cons (Answers.of_false_int (by decide +kernel) PySem.F.isi_meta_list PySem.F.sub_int_list) .nil)) rfl e fun tk ht => ⟨_, _, h, .k _, R.toks _, .toks _ _ _ ht⟩
            | str i =>
              cases v
              exact isi_tupleOf (Tx := "str") (vs := [false, false]) (.cons (Answers.of_false_str (by decide +kernel) PySem.F.isi_meta_tuple PySem.F.sub_str_tuple) (.cons (Answers.of_false_str (by decide +kernel) PySem.F.isi_meta_list PySem.F.sub_str_list) .nil)) rfl e fun tk ht => ⟨_, _, h, .k _, R.toks _, .toks _ _ _ ht⟩
            | tup l =>
              obtain ⟨t, o, ws, k', rfl, e', ec, ed, eq, r⟩ := v.tupObj
              exact isi_tupleOf (Tx := "tuple") (vs := [true, false]) (.cons (Answers.of_true PySem.F.isi_meta_tuple PySem.F.sub_tuple_tuple) (.cons (Answers.of_false_tuple (by decide +kernel) PySem.F.isi_meta_list PySem.F.sub_tuple_list) .nil)) ⟨o, e', ec⟩ e fun tk ht => ⟨_, _, h, .k _, R.toks _, .toks _ _ _ ht⟩⟩
end
end Mine
end A28
section A29
open PySem PySem.W PySem.Calls PyProof.Rows
set_option maxRecDepth 100000
set_option linter.unusedVariables false
namespace Mine

section
variable {c : Cx} {A : Around} {n : Nat} {fm : Fm} {loc : Loc} {σ : Sto} {s : Shared} {Φ : NPr} {X : XPr}

theorem ev_lambda {params : Arguments} {body : Expr} {scope : Scope} {pos : Pos} {cd P : Addr} {ps : Array Value} (clos : List (PySem.Str × Addr))
    (C : codeHdIn c.K cd P = true) (hP : σ P = some (.tab ps)) (ht : TriplesOk ps.toList) (hnf : codeAmong pos ps.toList = none)
    (h : ∀ f c' pm ctv, σ f = none → σ c' = none → f ≠ c' → Φ (.k (.ref f)) (upd (upd (upd σ P (.tab (ps ++ #[rawInt pos.line, rawInt pos.col, .ref c']))) c' (.code (fm.env.qual ++ "<lambda>"))) f (.lam (kla_fn "<lambda>" (fm.env.qual ++ "<lambda>") params body scope clos pm (.ref c') ctv))))
    (hcode : fm.env.code = .ref cd := by rfl) (hcl : closureFor scope fm.env = pure clos := by with_unfolding_all rfl) (hge0 : fm.env.globals = mainGlobals := by rfl) (hdef : defaultsOf params fm.env = ([], []) := by rfl) : E c fm (.Lambda params body scope pos) loc σ Φ X := ⟨fun s R => by
  have C := codeHd_of_K R.cr.cok.X C
  obtain ⟨bm, ob, b1, b2, b3, b4, b5, b6⟩ := R.cr.cok.bm
  have hgs := R.cr.cok.T.g.keeps R.cr.base
  have hPs := R.cr.sto _ _ hP
  have hPb : c.h₀.get? P = none := R.cr.new P (.inl ⟨_, hP⟩)
  have hgP : mainGlobals ≠ P := fun q => by
    obtain ⟨o, es, ep, e, hd, _⟩ := R.cr.cok.T.g
    rw [q, hPb] at e; cases e
  have hbP : bm ≠ P := fun q => by rw [q, hPb] at b3; cases b3
  have hbG : bm ≠ mainGlobals := fun q => by
    obtain ⟨o, es, ep, e, hd, _⟩ := R.cr.cok.T.g
    rw [q, e] at b3; cases b3; rw [hd] at b6; cases b6
  refine wpAny_toks (kla_eval hdef (kla_makeFunction (mg := c.mg) hcl hge0 hgs hcode (C.keeps R.cr.base) hPs ht hnf hgP ⟨bm, ob, b1, b2, hbG, hbP, R.cr.base _ _ b3, b4, b5, b6⟩ fun c' ctv h' tk hx hge hlt hrec htb htk => ?_))
  obtain ⟨c₂, oc, vs, t, e2, hoc, hd, hv⟩ := hrec
  cases e2
  have hsz : s.heap.objs.size < h'.objs.size := Nat.lt_of_le_of_lt hge hlt
  have hfn : s.heap.get? h'.objs.size = none := none_of_le (Nat.le_of_lt hsz)
  have hcn : s.heap.get? c' = none := none_of_le hge
  have hf0 : σ h'.objs.size = none := R.cr.sto_none hfn
  have hc0 : σ c' = none := R.cr.sto_none hcn
  have hfc : h'.objs.size ≠ c' := Nat.ne_of_gt hlt
  have hPf : P ≠ h'.objs.size := fun q => by rw [q, hf0] at hP; cases hP
  have hPc : P ≠ c' := fun q => by rw [q, hc0] at hP; cases hP
  have hk := h h'.objs.size c' ((c.mg "__name__").getD .none) ctv hf0 hc0 hfc
  obtain ⟨σ2, hσ2⟩ : ∃ σ2, σ2 = upd (upd (upd σ P (.tab (ps ++ #[rawInt pos.line, rawInt pos.col, .ref c']))) c' (.code (fm.env.qual ++ "<lambda>"))) h'.objs.size (.lam (kla_fn "<lambda>" (fm.env.qual ++ "<lambda>") params body scope clos ((c.mg "__name__").getD .none) (.ref c') ctv)) := ⟨_, rfl⟩
  rw [← hσ2] at hk
  generalize hob : kla_obj "<lambda>" (fm.env.qual ++ "<lambda>") params body scope clos ((c.mg "__name__").getD .none) c' ctv = ob' at *
  have X1 : Ex (· = P) s.heap (h'.push ob') := by
    refine ⟨fun b o e q => Heap.get?_push_of_some _ (hx b o q e), fun b o e d => ⟨o, Heap.get?_push_of_some _ (hx b o (fun q => ?_) e), d⟩, fun b o e d => Heap.get?_push_of_some _ (hx b o (fun q => ?_) e), ?_⟩
    · subst q; rw [show s.heap.get? b = some (tabObj ps) from hPs] at e; cases e; obtain ⟨_, _, z⟩ := d; cases z
    · subst q; rw [show s.heap.get? b = some (tabObj ps) from hPs] at e; cases e; cases d.1
    · show _ ≤ (h'.objs.push _).size; rw [Array.size_push]; omega
  have old : ∀ a o, σ2 a = some o →
      (a = h'.objs.size ∧ o = .lam (kla_fn "<lambda>" (fm.env.qual ++ "<lambda>") params body scope clos ((c.mg "__name__").getD .none) (.ref c') ctv)) ∨ (a = c' ∧ o = .code (fm.env.qual ++ "<lambda>")) ∨ (a = P ∧ o = .tab (ps ++ #[rawInt pos.line, rawInt pos.col, .ref c'])) ∨ (σ a = some o ∧ a ≠ P) := fun a o e => by
    rw [hσ2] at e
    unfold upd at e
    split at e
    · cases e; exact .inl ⟨by assumption, rfl⟩
    · split at e
      · cases e; exact .inr (.inl ⟨by assumption, rfl⟩)
      · split at e
        · cases e; exact .inr (.inr (.inl ⟨by assumption, rfl⟩))
        · exact .inr (.inr (.inr ⟨e, by assumption⟩))
  have foot : ∀ a, CFoot σ2 a → CFoot σ a ∨ s.heap.objs.size ≤ a := fun a q => by
    rcases q with ⟨o, e⟩ | ⟨x, o, e, d⟩
    · rcases old a o e with ⟨rfl, _⟩ | ⟨rfl, _⟩ | ⟨rfl, _⟩ | ⟨e, _⟩
      · exact .inr (Nat.le_of_lt hsz)
      · exact .inr hge
      · exact .inl (.inl ⟨_, hP⟩)
      · exact .inl (.inl ⟨_, e⟩)
    · rcases old x o e with ⟨_, rfl⟩ | ⟨_, rfl⟩ | ⟨_, rfl⟩ | ⟨e, _⟩
      · cases d
      · cases d
      · cases d
      · exact .inl (.inr ⟨x, o, e, d⟩)
  have cr := R.cr.move (σ' := σ2) (s' := { s with heap := h'.push ob', toks := tk }) X1 (fun a q => q ▸ hPb) rfl rfl (fun a o e => ?_) (fun a q => ?_) (fun x y o p d e1 e2 d1 d2 => ?_)
  · have S : CStep σ s _ { s with heap := h'.push ob', toks := tk } := ⟨X1.mv.mono fun a q => q ▸ .inl ⟨_, hP⟩, foot, htk⟩
    exact ⟨_, _, hk, .k _, R.back cr S, S.step⟩
  · rcases old a o e with ⟨rfl, rfl⟩ | ⟨rfl, rfl⟩ | ⟨rfl, rfl⟩ | ⟨e, ne⟩
    · exact .inr (by rw [← hob]; exact Heap.get?_push_size _ rfl)
    · exact .inr ⟨oc, vs, t, Heap.get?_push_of_some _ hoc, hd, hv⟩
    · exact .inr (Heap.get?_push_of_some _ htb)
    · exact .inl ⟨e, ne, fun d hd q => by have := R.cr.dict_none e hd; rw [q, hP] at this; cases this⟩
  · rcases foot a q with q | q
    · exact R.cr.new a q
    · exact R.cr.base_none (none_of_le q)
  · rcases old x o e1 with ⟨_, rfl⟩ | ⟨_, rfl⟩ | ⟨_, rfl⟩ | ⟨e1, _⟩
    · cases d1
    · cases d1
    · cases d1
    · rcases old y p e2 with ⟨_, rfl⟩ | ⟨_, rfl⟩ | ⟨_, rfl⟩ | ⟨e2, _⟩
      · cases d2
      · cases d2
      · cases d2
      · exact R.cr.dinj x y o p d e1 e2 d1 d2⟩

theorem call_lam {f c' : Addr} {name qual x : PySem.Str} {params : Arguments} {body : Expr} {scope : Scope} {clos : List (PySem.Str × Addr)} {pm ctv : Value} {p : PV} {Φ : NPr} {X : CXPr}
    (hf : σ f = some (.lam (kla_fn name qual params body scope clos pm (.ref c') ctv))) (hc : σ c' = some (.code qual))
    (hbody : ∀ L A', (∀ a, L ≤ a → σ a = none) → FF ⟨envF scope L qual f (.ref c') clos, A', n, 0⟩ → E c ⟨envF scope L qual f (.ref c') clos, A', n, 0⟩ body [(x, p)] σ (UpR Φ) (UpX X))
    (hbind : ∀ v, bindArgs (kla_fn name qual params body scope clos pm (.ref c') ctv) ⟨[v], []⟩ = pure [(x, v)])
    (hx : scope.names.lookup x = some .local := by rfl) (hcell : (scope.names.all fun y => !(y.2 == .cell)) = true := by rfl) (hco : scope.isCoroutine = false := by rfl) (hgen : scope.isGenerator = false := by rfl) (hk : scope.kind = .function := by rfl) : CallC c (n + 1) (.ref f) [p] σ Φ X := ⟨fun A s vs hh R hv => by
  cases hv with
  | cons va r =>
  cases r
  rename_i v
  have room : A.depth < recursionLimit := by have := R.ok.depth; omega
  obtain ⟨oc, us, t, hoc, hd, hq⟩ := R.sto _ _ hc
  have hcell' : ∀ y ∈ scope.names, y.2 ≠ .cell := fun y hy z => by
    have := List.all_eq_true.mp hcell y hy
    rw [z] at this; simp at this
  refine codeAny_toks (kla_callFunE room (R.sto _ _ hf) rfl hco hgen rfl ⟨c', oc, us, t, rfl, hoc, hd, hq⟩ ?_)
  rw [hbind]
  refine wpAny_pure (wpAny_toks (wpAny_newFunctionEnv hcell' (fun y hy => by rw [List.mem_singleton.mp hy]; exact hx) (fun h1 hns hsb ht => ?_) hk))
  have keep : ∀ b o, s.heap.get? b = some o → h1.get? b = some o := fun b o e => (hsb.2 b (Nat.ne_of_lt (Heap.lt_size e))).trans (Heap.get?_push_of_some _ e)
  refine ⟨R.nolimit.keeps keep, ?_⟩
  show codeAny _ _ (.expr body (envF scope s.heap.objs.size qual f (.ref c') clos)) _ _
  refine kla_codeExpr ?_
  have hL : s.heap.objs.size ≤ s.heap.objs.size := Nat.le_refl _
  obtain ⟨oL, esL, epL, eL, dL, _⟩ := id hns
  have z1 : s.heap.objs.size ≤ h1.objs.size := Nat.le_of_lt (Heap.lt_size eL)
  have m1 : Mv (fun _ => False) s.heap h1 := Mv.of_keeps keep z1
  have hA : (A.deeper (envF scope s.heap.objs.size qual f (.ref c') clos)).frames = A.frames.map (envF scope s.heap.objs.size qual f (.ref c') clos :: ·) := rfl
  have Rd := R.enter (env := envF scope s.heap.objs.size qual f (.ref c') clos) (s.toks + [(x, v)].length) rfl hk keep z1 hL eL ⟨_, _, dL⟩ ht
  have R1 : Rel c ⟨envF scope s.heap.objs.size qual f (.ref c') clos, A.deeper (envF scope s.heap.objs.size qual f (.ref c') clos), n, 0⟩ [(x, p)] σ { s with heap := h1, toks := s.toks + [(x, v)].length } := by
    refine ⟨Rd, ⟨_, hns, fun q hq => ?_⟩, R.base_none (none_of_le hL), fun q => ?_, Nat.zero_le _⟩
    · rw [List.mem_singleton.mp hq]
      exact ⟨hx, v, by show List.lookup x [(x, v)] = _; rw [List.lookup_cons, beq_self_eq_true], va.mv m1⟩
    · obtain ⟨o', e', _⟩ := R.get_foot q
      rw [none_of_le hL] at e'; cases e'
  have hff : FF ⟨envF scope s.heap.objs.size qual f (.ref c') clos, A.deeper (envF scope s.heap.objs.size qual f (.ref c') clos), n, 0⟩ := by
    obtain ⟨frs, hfr, _⟩ := R.frames
    exact ⟨hh, ⟨frs, by show A.frames.map _ = _; rw [hfr]; rfl⟩, rfl⟩
  have Sc : CStep σ s σ { s with heap := h1, toks := s.toks + [(x, v)].length } := ⟨Mv.of_keeps keep z1, fun _ f => .inl f, ht⟩
  have body1 := (hbody s.heap.objs.size _ (fun a ha => R.sto_none (none_of_le ha)) hff).run _ R1
  have LC := leave_call (Φ := UpR Φ) (X := UpC X) R hff hA Sc hL
  refine wpAny_mono body1 (fun v s' y htk => ?_) (fun e s' y => ?_)
  · obtain ⟨q, σ', g1, g2, g3, g4⟩ := y
    obtain ⟨p, σ', ⟨τ', hs, h1⟩, h2, h3, h4⟩ := LC.1 (.ret v) s' ⟨q, _, σ', g1, g2, g3, g4⟩
    exact ⟨p, τ', h1, h2, h3.forget hs, h4.forget hs⟩
  · refine wpAny_mono (LC.2 e s' y) (fun _ s'' y htk => ?_) fun _ _ y => y.elim
    obtain ⟨a, C, dx, fs, σ', e1, ⟨τ', hs, h1⟩, h3, h4, f1, f2, f3, f4, f5, f6⟩ := y
    refine ⟨a, C, dx, fs, τ', e1, h1, h3.forget hs, h4.forget hs, f1, f2, fun q => f3 (hs.foot q), fun q => f4 (hs.foot q), ?_, f6⟩
    obtain ⟨vs, sl, g1, g2, g3⟩ := f5
    refine ⟨vs, sl, g1, g2, ?_⟩
    rcases g3 with g3 | ⟨T, oT, ts, fl, k1, k2, k3, k4, k5⟩
    · exact .inl g3
    · exact .inr ⟨T, oT, ts, fl, k1, k2, k3, fun q => k4 (hs.foot q), k5⟩⟩
end
end Mine
end A29
section A30
open PySem PySem.W PySem.Calls PyProof.Rows
set_option maxRecDepth 100000
set_option linter.unusedVariables false
namespace Mine

section
variable {c : Cx} {A : Around} {n : Nat} {fm : Fm} {loc : Loc} {σ : Sto} {s : Shared} {Φ : NPr} {X : XPr} {N : NXt} {Rt : NPr} {rest : List Stmt} {pos : Pos}

theorem ss_tuple {elts : List Expr} {k : Nat} {tpos : Pos} {value : Expr} (h : E c fm value loc σ (fun p σ1 => As c fm (.Tuple elts k tpos) p loc σ1 fun l τ => SS c fm rest l τ N Rt X) X)
    (hs : swapsWithSole [.Tuple elts k tpos] value pos.line fm.env = pure false := by rfl) (hw : swappedStores [.Tuple elts k tpos] value fm.env = pure none := by rfl) :
    SS c fm (.Assign [.Tuple elts k tpos] value pos :: rest) loc σ N Rt X := ss_step fun s R => by
  refine Assign_Tuple (wpAny_mono (h.run s R) (fun v s1 x => ?_) fun _ _ x => x) hs hw
  obtain ⟨p, σ1, h1, va, R1, S1⟩ := x
  refine wpAny_mono (h1.run s1 v R1 va) (fun _ s2 x => ?_) fun _ _ x => x.elim
  obtain ⟨l, σ2, h2, R2, S2⟩ := x
  exact ⟨l, σ2, h2, R2, S1.trans S2⟩

theorem ss_swap {e1 e2 : Expr} {x y : PySem.Str} {p1 p2 : Pos} {k k2 : Nat} {tpos vpos : Pos} (ff : FF fm)
    (h : E c fm (.Tuple [e1, e2] k2 vpos) loc σ (fun p σ1 => ∃ a b l1 l2, p = .tup [a, b] ∧ SetL y b loc l1 ∧ SetL x a l1 l2 ∧ SS c fm rest l2 σ1 N Rt X) X)
    (hx : fm.env.kindOf x = some .local := by rfl) (hy : fm.env.kindOf y = some .local := by rfl) (hk : fm.env.scope.kind = .function := by rfl)
    (hs : swapsWithSole [.Tuple [.Name x p1, .Name y p2] k tpos] (.Tuple [e1, e2] k2 vpos) pos.line fm.env = pure false := by rfl) (hw : swappedStores [.Tuple [.Name x p1, .Name y p2] k tpos] (.Tuple [e1, e2] k2 vpos) fm.env = pure (some [x, y]) := by rfl) :
    SS c fm (.Assign [.Tuple [.Name x p1, .Name y p2] k tpos] (.Tuple [e1, e2] k2 vpos) pos :: rest) loc σ N Rt X := ss_step fun s R => by
  refine Assign_Tuple_swapped (wpAny_mono (h.run s R) (fun v s1 q => ?_) fun _ _ q => q) hs hw
  obtain ⟨p, σ1, ⟨a, b, l1, l2, rfl, hs1, hs2, h1⟩, va, R1, S1⟩ := q
  cases va with
  | tup e ec ed eq r =>
    rename_i ad o vs n
    have it : s1.heap.IsTuple ad vs.toArray := ⟨_, e, ec, _, eq⟩
    have hn : ([x, y] : List PySem.Str).length = vs.toArray.size := by show 2 = vs.length; rw [r.length]; rfl
    rw [hn]
    refine wpAny_size (wpAny_unpackItems_tuple ff.handled it fun h' x' z => ?_)
    obtain ⟨R2, S2⟩ := R1.grow (h' := h') (fun b o e => x' b o (Nat.ne_of_lt (Heap.lt_size e)) e) z s1.toks
    have r2 := r.mv S2.mv
    cases r2 with
    | cons ra r2 =>
    cases r2 with
    | cons rb r2 =>
    cases r2
    refine assignInOrder_cons (bindName_ ?_)
    obtain ⟨m, hm, hl⟩ := R2.ns
    refine wpAny_storeName_local hy hm (fun h3 hn3 hb3 => ?_) (by rw [hk]; rfl)
    obtain ⟨R3, S3⟩ := R2.store hy hs1 rb hm hn3 hb3 (s1.toks + 1)
    refine assignInOrder_cons (bindName_ ?_)
    obtain ⟨m3, hm3, hl3⟩ := R3.ns
    refine wpAny_storeName_local hx hm3 (fun h4 hn4 hb4 => ?_) (by rw [hk]; rfl)
    obtain ⟨R4, S4⟩ := R3.store hx hs2 (ra.mv S3.mv) hm3 hn4 hb4 (s1.toks + 1 + 1)
    exact assignInOrder_nil ⟨l2, σ1, h1, R4, S1.trans (S2.trans (S3.trans S4))⟩
end
end Mine
end A30
section A31
open PySem PySem.W PySem.Calls PyProof.Rows
set_option maxRecDepth 100000
set_option linter.unusedVariables false
namespace Mine

noncomputable def enumPV (l : List PV) : List PV := (List.range l.length).map fun (i : Nat) => PV.tup [.int (i : Int), l.getD i (.k .none)]
theorem enumPV_len (l : List PV) : (enumPV l).length = l.length := by unfold enumPV; rw [List.length_map, List.length_range]
theorem enumPV_get {l : List PV} {i : Nat} {q : PV} (h : (enumPV l)[i]? = some q) : ∃ p, l[i]? = some p ∧ q = .tup [.int (i : Int), p] := by
  have hi : i < l.length := by rw [← enumPV_len l]; exact (List.getElem?_eq_some_iff.mp h).1
  unfold enumPV at h
  rw [List.getElem?_map, List.getElem?_range hi] at h
  cases h
  refine ⟨l[i], List.getElem?_eq_getElem hi, ?_⟩
  show PV.tup [.int (i : Int), l.getD i (.k .none)] = _
  rw [List.getD_eq_getElem?_getD, List.getElem?_eq_getElem hi]; rfl
noncomputable def isTupT (e : Expr) : Prop := ∃ elts k p, e = .Tuple elts k p

section
variable {c : Cx} {A : Around} {n : Nat} {fm : Fm} {loc : Loc} {σ : Sto} {s : Shared} {X : XPr}

theorem enum_itw {A : Around} {e it l : Addr} {items : List PV} (hh : A.handled = none) (hne : e ≠ it) :
    ItW c A e (fun a => a = e ∨ a = it) isTupT (enumPV items) (fun τ => τ l = some (.list items)) (fun i h => ∃ old, IsEnum h e it (i : Int) old ∧ h.IsListIter it l i)
      (fun i v h => ∃ item a, IsEnumOut h e it (i : Int) item a ∧ v = .ref a ∧ h.IsListIter it l i) := by
  have hat : ∀ (i : Nat) (h : Heap) (a : Addr), (∃ old, IsEnum h e it (i : Int) old ∧ h.IsListIter it l i) → (a = e ∨ a = it) → ∃ o, h.get? a = some o ∧ ¬ IsD o ∧ ¬ IsT o := by
    rintro i h a ⟨old, e1, o, e2, _, d⟩ (rfl | rfl)
    · exact ⟨_, e1, noD rfl, noT rfl⟩
    · exact ⟨o, e2, noD d, noT d⟩
  refine ⟨.inl rfl, hat, ?_, ?_, ?_, ?_, ?_⟩
  · rintro i h h' S ⟨old, e1, o, e2, r⟩ _ k
    exact ⟨old, k _ _ (.inl rfl) e1, o, k _ _ (.inr rfl) e2, r⟩
  · rintro i n σ s p Q E hp ⟨old, e1, e2⟩ R hk hQ
    obtain ⟨q, hq, rfl⟩ := enumPV_get hp
    obtain ⟨vs', k', e', r'⟩ := R.listAt hk
    obtain ⟨x, ex, rx⟩ := r'.get hq
    refine wpAny_pyNext_enum_item e1 e2 (isList_of e') (x := x) (by simpa using ex) hne fun h' a b d z k => ?_
    have X : Ex (fun a => a = e ∨ a = it) s.heap h' := by
      refine ⟨fun b o eb nb => k b o (fun q => nb (.inl q)) (fun q => nb (.inr q)) eb, fun b o eb db => ⟨o, ?_, db⟩, fun b o eb db => ?_, by rw [z]; exact Nat.le_succ _⟩
      · refine k b o (fun q => ?_) (fun q => ?_) eb
        · obtain ⟨o', f1, f2, _⟩ := hat i _ b ⟨old, e1, e2⟩ (.inl q)
          rw [eb] at f1; cases f1; exact f2 db
        · obtain ⟨o', f1, f2, _⟩ := hat i _ b ⟨old, e1, e2⟩ (.inr q)
          rw [eb] at f1; cases f1; exact f2 db
      · refine k b o (fun q => ?_) (fun q => ?_) eb
        · obtain ⟨o', f1, _, f2⟩ := hat i _ b ⟨old, e1, e2⟩ (.inl q)
          rw [eb] at f1; cases f1; exact f2 db
        · obtain ⟨o', f1, _, f2⟩ := hat i _ b ⟨old, e1, e2⟩ (.inr q)
          rw [eb] at f1; cases f1; exact f2 db
    exact hQ _ h' _ (.tup d rfl rfl rfl (.cons (.int _ _) (.cons (rx.mv X.mv) .nil))) ⟨x, _, by rw [show ((i + 1 : Nat) : Int) = (i : Int) + 1 by omega]; exact a, rfl, b⟩ X
  · rintro n σ s Q E ⟨old, e1, e2⟩ R hk hQ
    obtain ⟨vs', k', e', r'⟩ := R.listAt hk
    rw [enumPV_len] at e1 e2
    exact wpAny_size <| wpAny_pyNext_enum_end hh e1 e2 (isList_of e') (by rw [List.getElem?_toArray, List.getElem?_eq_none]; rw [r'.length]; exact Nat.le_refl _) fun h' x z => hQ h' s.toks (fun b o nb eb => x b o (fun q => nb (.inr q)) eb) z
  · rintro i s Q E ⟨old, e1, e2⟩ hQ
    exact wpAny_pyIter_enum e1 hQ
  · rintro i s target v Q E ⟨elts, k, p, rfl⟩ ⟨item, a, e1, rfl, e2⟩ hQ
    refine wpAny_letOwnedTupleGo_enum e1 fun h' e1' sb => hQ h' ⟨item, e1', ?_⟩ ?_
    · obtain ⟨o, eo, r⟩ := e2
      exact ⟨o, (sb.2 _ (Ne.symm hne)).trans eo, r⟩
    · have := Ex.iter sb e1 e1' rfl
      exact ⟨fun b o eb nb => this.keep b o eb fun q => nb (.inl q), this.nf, this.tup, this.size⟩

theorem ei_enum {e : Expr} {np pos : Pos} {Ψ : List PV → (Sto → Prop) → (Expr → Prop) → Sto → Prop}
    (hm : nsIn c.K mainGlobals "enumerate" = some none)
    (h : E c fm e loc σ (fun p σ1 => ∃ l items, p = .k (.ref l) ∧ σ1 l = some (.list items) ∧ Ψ (enumPV items) (fun τ => τ l = some (.list items)) isTupT σ1) X)
    (hst : ([e] : List Expr).all starless = true := by rfl)
    (hk : fm.env.scope.kind = .function := by rfl) (hx : fm.env.kindOf "enumerate" = some .globalImplicit := by rfl) (hg : fm.env.globals = mainGlobals := by rfl) (hb : fm.env.builtins = builtinsNs := by rfl)
    (he : eval (.Call (.Name "enumerate" np) [e] [] pos) fm.env = (do callWith pos (← eval (.Name "enumerate" np) fm.env) [] (backTo pos (starEach [e] fm.env)) (backToKw pos (keywordEach [] fm.env))) := by with_unfolding_all rfl) :
    EI c fm (.Call (.Name "enumerate" np) [e] [] pos) loc σ Ψ X := ⟨fun s Q E0 hh R k kx => by
  rw [he]
  have ht : E c fm (.Name "enumerate" np) loc σ (fun p τ => p = .k (.type "enumerate") ∧ τ = σ) X := ev_builtin hm (v := .type "enumerate") rfl ⟨rfl, rfl⟩ (hk := hk) (hx := hx) (hg := hg) (hb := hb)
  refine wpAny_bind (wpAny_mono (ht.run s R) (fun v s1 x => ?_) fun e s1 x => kx e s1 x)
  obtain ⟨p, σ1, ⟨rfl, rfl⟩, va, R1, S1⟩ := x
  cases va
  refine callWith_of (P := fun h => ∃ k, (k = Keeper.frame ∨ k = Keeper.machine ∨ k = Keeper.boundFrame) ∧ Looks c.M h (keeperOf (.type "enumerate")) k) (by rw [backTo_any hst]; rfl) (fun h k => k) ?_
  have hE : Es c fm loc X [e] σ1 (fun as σ2 => ∃ l items, as = [.k (.ref l)] ∧ σ2 l = some (.list items) ∧ Ψ (enumPV items) (fun τ => τ l = some (.list items)) isTupT σ2) :=
    E.mono h fun p τ ⟨l, items, a, b, d⟩ => ⟨l, items, by rw [a], b, d⟩
  refine wpAny_mono (evalArgs_es hst hE R1) (fun a s2 x => ?_) fun e s1 x => kx e s1 (x.trans S1)
  obtain ⟨vs, rfl, as, σ2, ⟨l, items, rfl, hl, hψ⟩, v1, R2, S2⟩ := x
  refine ⟨kept_looks (.inr (.inl ⟨_, rfl⟩)) R2.cr, ?_⟩
  cases v1 with
  | cons r1 r =>
  cases r1; cases r
  obtain ⟨vs, kk, el, rl⟩ := R2.cr.listAt hl
  refine call_enumerate_list (isList_of el) fun h' i1 i2 hz keep => ?_
  refine wpAny_pyIter_enum i1 ?_
  obtain ⟨R3, S3⟩ := R2.grow keep (by rw [hz]; omega) s2.toks
  refine k _ _ _ σ2 _ _ _ _ _ hψ R3 ((S1.trans S2).trans S3) (enum_itw (items := items) (l := l) hh (Nat.succ_ne_self s2.heap.objs.size)) ⟨.none, i1, i2⟩ ?_
  have z12 : s.heap.objs.size ≤ s2.heap.objs.size := Nat.le_trans S1.mv.size S2.mv.size
  have nf : ∀ a, s2.heap.objs.size ≤ a → ¬ CFoot σ2 a := fun a ha q => absurd (R2.cr.foot_lt q) (Nat.not_lt.mpr ha)
  rintro a (rfl | rfl)
  · exact ⟨by omega, by show _ < h'.objs.size; rw [hz]; omega, nf _ (Nat.le_succ _)⟩
  · exact ⟨z12, by show _ < h'.objs.size; rw [hz]; omega, nf _ (Nat.le_refl _)⟩⟩

theorem ev_chain {l r1 r2 : Expr} {op1 op2 : CmpOp} {pos : Pos} {Φ : NPr}
    (h : E c fm l loc σ (fun a σ1 => E c fm r1 loc σ1 (fun b σ2 => Cmp c op1 a b σ2 (fun x => match x with
      | false => Φ (.k (.bool false)) σ2
      | true => E c fm r2 loc σ2 (fun d σ3 => Cmp c op2 b d σ3 (fun y => Φ (.k (.bool y)) σ3)) X)) X) X)
    (hm : lastMarks [op1, op2] [r1, r2] = false := by with_unfolding_all rfl) : E c fm (.Compare l [op1, op2] [r1, r2] pos) loc σ Φ X := ⟨fun s R => by
  refine Compare_chain (wpAny_mono (h.run s R) (fun v s1 x => ?_) fun _ _ x => x) hm
  obtain ⟨a, σ1, h1, va, R1, S1⟩ := x
  refine chain_link (wpAny_mono (h1.run s1 R1) (fun u s2 x => ?_) fun _ _ x => x.trans S1)
  obtain ⟨b, σ2, h2, vb, R2, S2⟩ := x
  refine wpAny_mono (h2.run _ _ _ _ _ R2.cr (va.mv S2.mv) vb) (fun _ s3 x => ?_) fun _ _ x => x.elim
  obtain ⟨y, rfl, hy, R3, S3⟩ := x
  refine wpAny_truthy_bool ?_
  have R3' := R2.back R3 S3
  cases y with
  | false => exact ⟨_, _, hy, .k _, R3', (S1.trans S2).trans S3.step⟩
  | true =>
    refine chain_last (wpAny_mono (E.run hy s3 R3') (fun u s4 x => ?_) fun _ _ x => x.trans ((S1.trans S2).trans S3.step))
    obtain ⟨d, σ3, h3, vd, R4, S4⟩ := x
    refine wpAny_mono (h3.run _ _ _ _ _ R4.cr ((vb.mv S3.mv).mv S4.mv) vd) (fun _ s5 x => ?_) fun _ _ x => x.elim
    obtain ⟨z, rfl, hz, R5, S5⟩ := x
    exact ⟨_, _, hz, .k _, R4.back R5 S5, (((S1.trans S2).trans S3.step).trans S4).trans S5.step⟩⟩
end
end Mine
end A31
section KT
open PySem PySem.W PySem.Calls PyProof.Rows PySem.Challenge
set_option maxRecDepth 100000
set_option linter.unusedVariables false
namespace Mine

noncomputable def passS : Stmt := .Pass ⟨0, 0, 0, 0⟩
noncomputable def topSt (i : Nat) : Stmt := (pw_on0170_01.main.body[i]?).getD passS
noncomputable def inSt (i j : Nat) : Stmt := match topSt i with
  | .ClassDef _ _ _ b _ _ _ _ _ _ _ => (b[j]?).getD passS
  | _ => passS
noncomputable def fnArgs : Stmt → Arguments
  | .FunctionDef _ a _ _ _ _ _ _ _ _ => a
  | _ => { posonlyargs := [], args := [], vararg := none, kwonlyargs := [], kw_defaults := [], kwarg := none, defaults := [] }
noncomputable def fnBody : Stmt → List Stmt
  | .FunctionDef _ _ b _ _ _ _ _ _ _ => b
  | _ => []
noncomputable def fnScope : Stmt → Scope
  | .FunctionDef _ _ _ _ _ _ s _ _ _ => s
  | _ => { kind := .module, names := [], isGenerator := false, isCoroutine := false }
noncomputable abbrev fnD (name qual : PySem.Str) (st : Stmt) (pm : Nat) (mn : PySem.Str) (df cd : Value) (gl : Addr) (cl : List (PySem.Str × Addr)) (kd : Value) : Data :=
  .func { name := name, qualname := qual, params := fnArgs st, body := .stmts (fnBody st), scope := fnScope st, globals := gl, closure := cl, defaults := df, kwdefaults := kd, pyModule := .str mn pm, code := cd }
noncomputable abbrev vs (s : PySem.Str) (t : Nat) : Value := .str s t
noncomputable abbrev de (P : Params) (s : PySem.Str) (t : Nat) (v : Value) : DictEntry := ⟨PyData.keyHash P s, .str s t, v⟩
noncomputable def KK (P : Params) : Frag := [
  (2, { cls := .none, data := .dict #[de P "type.__subclasses__.Exception.0" 313 (.int 82 0), de P "type.__subclasses__.Exception.n" 314 (.int 1 0)] 2 }),
  (3, { cls := .type "dict", data := .dict #[de P "__name__" 165 (vs "law_on0170_01" 720), de P "__doc__" 166 (.none), de P "__package__" 167 (.none), de P "__loader__" 168 (.builtin "__main__.__loader__#opaque"), de P "__spec__" 169 (.none), de P "__annotations__" 170 (.ref 6), de P "__builtins__" 171 (.ref 4), de P "__file__" 173 (vs "/claim/cut.py" 172), de P "__cached__" 174 (.none), de P "_wall" 193 (.ref 21), de P "FIGURES" 197 (vs "0123456789" 196), de P "HEX_SIGNS" 200 (vs "0123456789abcdefABCDEF" 199), de P "OCTAL_SIGNS" 202 (vs "01234567" 201), de P "MOST_FIGURES_source" 204 (.int 4000 203), de P "PLAIN_ESCAPES" 226 (.ref 22), de P "Position" 266 (.ref 46), de P "position_of" 278 (.ref 57), de P "ToolError" 316 (.ref 82), de P "TableError" 332 (.ref 95), de P "Cursor" 491 (.ref 222), de P "hex_escape" 499 (.ref 233), de P "escaped_sign" 508 (.ref 240), de P "escaped" 514 (.ref 245), de P "MOST_DEPTH" 518 (.int 2 517), de P "MOST_FIGURES_lines" 520 (.int 160 519), de P "show_item" 526 (.ref 250), de P "LineWriter" 568 (.ref 279), de P "LineReader" 719 (.ref 393), de P "_law_pen" 727 (.ref 402), de P "_law_draw" 740 (.ref 409), de P "_law_pick" 748 (.ref 416), de P "_law_item" 754 (.ref 421), de P "_law_shown" 760 (.ref 426), de P "_law_line" 766 (.ref 431), de P "_law_place" 776 (.ref 438), de P "_law_wrong_holds" 782 (.ref 443), de P "_law_ends_hold" 791 (.ref 450), de P "_law_rules_hold" 797 (.ref 455), de P "law" 803 (.ref 460)] 39 }),
  (22, { cls := .type "dict", data := .dict #[de P "n" 205 (.int 10 206), de P "t" 207 (.int 9 208), de P "r" 209 (.int 13 210), de P "f" 211 (.int 12 212), de P "v" 213 (.int 11 214), de P "a" 215 (.int 7 216), de P "b" 217 (.int 8 218)] 7 }),
  (35, { cls := .type "code", data := .fields #[vs "__init__" 239, vs "Position.__init__" 240, vs "/claim/cut.py" 241, .int 12 0, .int 4 0, .int 0 0, .int 0 0, .int 3 0, .ref 30, .bool true, .int 181 0, .ref 31, .none, .ref 32, .ref 33, .ref 34, .int 246 0, .int 12 0, vs "/claim/cut.py" 247] }),
  (36, { cls := .type "function", data := fnD "__init__" "Position.__init__" (inSt 7 0) 194 "grammarmill.source" (.none) (.ref 35) 3 [] (.none) }),
  (45, { cls := .type "dict", data := .dict #[de P "__module__" 234 (vs "grammarmill.source" 194), de P "__firstlineno__" 238 (.int 10 237), de P "__init__" 248 (.ref 36), de P "told" 255 (.ref 43), de P "__static_attributes__" 259 (.ref 44), de P "__dict__" 261 (.ref 47), de P "__weakref__" 263 (.ref 48), de P "__doc__" 264 (.none)] 4 }),
  (46, { cls := .type "type", data := .cls { name := "Position", bases := [.type "object"], mro := [.ref 46, .type "object"], ns := 45, qualname := "Position" }, slots := #[none, none, some (vs "Position" 227), some (vs "Position" 235), some (.builtin "object.__new__"), some (.bool true)] }),
  (47, { cls := .type "getset_descriptor", data := .fields #[vs "__dict__" 260, .ref 46, .builtin "function.__dict__", .builtin "function.__dict__#set"] }),
  (48, { cls := .type "getset_descriptor", data := .fields #[vs "__weakref__" 262, .ref 46, .builtin "ExceptionGroup.__weakref__", .none] }),
  (56, { cls := .type "code", data := .fields #[vs "position_of" 267, vs "position_of" 268, vs "/claim/cut.py" 269, .int 19 0, .int 2 0, .int 0 0, .int 0 0, .int 3 0, .ref 51, .bool true, .int 181 0, .ref 52, .none, .ref 53, .ref 54, .ref 55, .int 276 0, .int 19 0, vs "/claim/cut.py" 277] }),
  (57, { cls := .type "function", data := fnD "position_of" "position_of" (topSt 8) 194 "grammarmill.source" (.none) (.ref 56) 3 [] (.none) }),
  (65, { cls := .type "tuple", data := .seq #[.none] }),
  (71, { cls := .type "code", data := .fields #[vs "__init__" 291, vs "ToolError.__init__" 292, vs "/claim/cut.py" 293, .int 30 0, .int 3 0, .int 0 0, .int 0 0, .int 3 0, .ref 66, .bool true, .int 181 0, .ref 67, .none, .ref 68, .ref 69, .ref 70, .int 297 0, .int 30 0, vs "/claim/cut.py" 298] }),
  (72, { cls := .type "function", data := fnD "__init__" "ToolError.__init__" (inSt 9 0) 194 "grammarmill.source" (.ref 65) (.ref 71) 3 [] (.none) }),
  (81, { cls := .type "dict", data := .dict #[de P "__module__" 286 (vs "grammarmill.source" 194), de P "__firstlineno__" 290 (.int 28 289), de P "__init__" 299 (.ref 72), de P "told" 306 (.ref 79), de P "__static_attributes__" 309 (.ref 80), de P "__weakref__" 311 (.ref 83), de P "__doc__" 312 (.none)] 3 }),
  (82, { cls := .type "type", data := .cls { name := "ToolError", bases := [.type "Exception"], mro := [.ref 82, .type "Exception", .type "BaseException", .type "object"], ns := 81, qualname := "ToolError", subclasses := [.ref 95] }, slots := #[some (.ref 58), none, some (vs "ToolError" 279), some (vs "ToolError" 287), some (.builtin "Exception.__new__"), some (.bool true)] }),
  (83, { cls := .type "getset_descriptor", data := .fields #[vs "__weakref__" 310, .ref 82, .builtin "ExceptionGroup.__weakref__", .none] }),
  (94, { cls := .type "dict", data := .dict #[de P "__module__" 324 (vs "grammarmill.source" 194), de P "__firstlineno__" 328 (.int 39 327), de P "__static_attributes__" 329 (.ref 93), de P "__doc__" 330 (.none)] 2 }),
  (95, { cls := .type "type", data := .cls { name := "TableError", bases := [.ref 82], mro := [.ref 95, .ref 82, .type "Exception", .type "BaseException", .type "object"], ns := 94, qualname := "TableError" }, slots := #[some (.ref 86), none, some (vs "TableError" 317), some (vs "TableError" 325), some (.builtin "Exception.__new__"), some (.bool true)] }),
  (105, { cls := .type "tuple", data := .seq #[.int 0 345] }),
  (111, { cls := .type "code", data := .fields #[vs "__init__" 346, vs "Cursor.__init__" 347, vs "/claim/cut.py" 348, .int 43 0, .int 3 0, .int 0 0, .int 0 0, .int 3 0, .ref 106, .bool true, .int 181 0, .ref 107, .none, .ref 108, .ref 109, .ref 110, .int 352 0, .int 43 0, vs "/claim/cut.py" 353] }),
  (112, { cls := .type "function", data := fnD "__init__" "Cursor.__init__" (inSt 11 0) 194 "grammarmill.source" (.ref 105) (.ref 111) 3 [] (.none) }),
  (118, { cls := .type "code", data := .fields #[vs "is_done" 355, vs "Cursor.is_done" 356, vs "/claim/cut.py" 357, .int 47 0, .int 1 0, .int 0 0, .int 0 0, .int 3 0, .ref 113, .bool true, .int 181 0, .ref 114, .none, .ref 115, .ref 116, .ref 117, .int 359 0, .int 47 0, vs "/claim/cut.py" 360] }),
  (119, { cls := .type "function", data := fnD "is_done" "Cursor.is_done" (inSt 11 1) 194 "grammarmill.source" (.none) (.ref 118) 3 [] (.none) }),
  (120, { cls := .type "tuple", data := .seq #[.int 0 362] }),
  (126, { cls := .type "code", data := .fields #[vs "peek" 363, vs "Cursor.peek" 364, vs "/claim/cut.py" 365, .int 50 0, .int 2 0, .int 0 0, .int 0 0, .int 3 0, .ref 121, .bool true, .int 181 0, .ref 122, .none, .ref 123, .ref 124, .ref 125, .int 369 0, .int 50 0, vs "/claim/cut.py" 370] }),
  (127, { cls := .type "function", data := fnD "peek" "Cursor.peek" (inSt 11 2) 194 "grammarmill.source" (.ref 120) (.ref 126) 3 [] (.none) }),
  (133, { cls := .type "code", data := .fields #[vs "starts" 372, vs "Cursor.starts" 373, vs "/claim/cut.py" 374, .int 56 0, .int 2 0, .int 0 0, .int 0 0, .int 3 0, .ref 128, .bool true, .int 181 0, .ref 129, .none, .ref 130, .ref 131, .ref 132, .int 377 0, .int 56 0, vs "/claim/cut.py" 378] }),
  (134, { cls := .type "function", data := fnD "starts" "Cursor.starts" (inSt 11 3) 194 "grammarmill.source" (.none) (.ref 133) 3 [] (.none) }),
  (140, { cls := .type "code", data := .fields #[vs "take" 380, vs "Cursor.take" 381, vs "/claim/cut.py" 382, .int 59 0, .int 1 0, .int 0 0, .int 0 0, .int 3 0, .ref 135, .bool true, .int 181 0, .ref 136, .none, .ref 137, .ref 138, .ref 139, .int 385 0, .int 59 0, vs "/claim/cut.py" 386] }),
  (141, { cls := .type "function", data := fnD "take" "Cursor.take" (inSt 11 4) 194 "grammarmill.source" (.none) (.ref 140) 3 [] (.none) }),
  (147, { cls := .type "code", data := .fields #[vs "skip" 388, vs "Cursor.skip" 389, vs "/claim/cut.py" 390, .int 66 0, .int 2 0, .int 0 0, .int 0 0, .int 3 0, .ref 142, .bool true, .int 181 0, .ref 143, .none, .ref 144, .ref 145, .ref 146, .int 393 0, .int 66 0, vs "/claim/cut.py" 394] }),
  (148, { cls := .type "function", data := fnD "skip" "Cursor.skip" (inSt 11 5) 194 "grammarmill.source" (.none) (.ref 147) 3 [] (.none) }),
  (154, { cls := .type "code", data := .fields #[vs "take_while" 396, vs "Cursor.take_while" 397, vs "/claim/cut.py" 398, .int 72 0, .int 2 0, .int 0 0, .int 0 0, .int 3 0, .ref 149, .bool true, .int 181 0, .ref 150, .none, .ref 151, .ref 152, .ref 153, .int 402 0, .int 72 0, vs "/claim/cut.py" 403] }),
  (155, { cls := .type "function", data := fnD "take_while" "Cursor.take_while" (inSt 11 6) 194 "grammarmill.source" (.none) (.ref 154) 3 [] (.none) }),
  (190, { cls := .type "code", data := .fields #[vs "position" 437, vs "Cursor.position" 438, vs "/claim/cut.py" 439, .int 95 0, .int 1 0, .int 0 0, .int 0 0, .int 3 0, .ref 185, .bool true, .int 181 0, .ref 186, .none, .ref 187, .ref 188, .ref 189, .int 441 0, .int 95 0, vs "/claim/cut.py" 442] }),
  (191, { cls := .type "function", data := fnD "position" "Cursor.position" (inSt 11 11) 194 "grammarmill.source" (.none) (.ref 190) 3 [] (.none) }),
  (197, { cls := .type "code", data := .fields #[vs "position_at" 444, vs "Cursor.position_at" 445, vs "/claim/cut.py" 446, .int 98 0, .int 2 0, .int 0 0, .int 0 0, .int 3 0, .ref 192, .bool true, .int 181 0, .ref 193, .none, .ref 194, .ref 195, .ref 196, .int 449 0, .int 98 0, vs "/claim/cut.py" 450] }),
  (198, { cls := .type "function", data := fnD "position_at" "Cursor.position_at" (inSt 11 12) 194 "grammarmill.source" (.none) (.ref 197) 3 [] (.none) }),
  (204, { cls := .type "code", data := .fields #[vs "coded" 452, vs "Cursor.coded" 453, vs "/claim/cut.py" 454, .int 101 0, .int 4 0, .int 0 0, .int 0 0, .int 3 0, .ref 199, .bool true, .int 181 0, .ref 200, .none, .ref 201, .ref 202, .ref 203, .int 461 0, .int 101 0, vs "/claim/cut.py" 462] }),
  (205, { cls := .type "function", data := fnD "coded" "Cursor.coded" (inSt 11 13) 194 "grammarmill.source" (.none) (.ref 204) 3 [] (.none) }),
  (211, { cls := .type "code", data := .fields #[vs "escape" 464, vs "Cursor.escape" 465, vs "/claim/cut.py" 466, .int 109 0, .int 1 0, .int 0 0, .int 0 0, .int 3 0, .ref 206, .bool true, .int 181 0, .ref 207, .none, .ref 208, .ref 209, .ref 210, .int 469 0, .int 109 0, vs "/claim/cut.py" 470] }),
  (212, { cls := .type "function", data := fnD "escape" "Cursor.escape" (inSt 11 14) 194 "grammarmill.source" (.none) (.ref 211) 3 [] (.none) }),
  (218, { cls := .type "code", data := .fields #[vs "quoted" 472, vs "Cursor.quoted" 473, vs "/claim/cut.py" 474, .int 123 0, .int 2 0, .int 0 0, .int 0 0, .int 3 0, .ref 213, .bool true, .int 181 0, .ref 214, .none, .ref 215, .ref 216, .ref 217, .int 479 0, .int 123 0, vs "/claim/cut.py" 480] }),
  (219, { cls := .type "function", data := fnD "quoted" "Cursor.quoted" (inSt 11 15) 194 "grammarmill.source" (.none) (.ref 218) 3 [] (.none) }),
  (221, { cls := .type "dict", data := .dict #[de P "__module__" 340 (vs "grammarmill.source" 194), de P "__firstlineno__" 344 (.int 41 343), de P "__init__" 354 (.ref 112), de P "is_done" 361 (.ref 119), de P "peek" 371 (.ref 127), de P "starts" 379 (.ref 134), de P "take" 387 (.ref 141), de P "skip" 395 (.ref 148), de P "take_while" 404 (.ref 155), de P "take_line" 411 (.ref 162), de P "skip_blanks" 420 (.ref 170), de P "name" 427 (.ref 177), de P "number" 436 (.ref 184), de P "position" 443 (.ref 191), de P "position_at" 451 (.ref 198), de P "coded" 463 (.ref 205), de P "escape" 471 (.ref 212), de P "quoted" 481 (.ref 219), de P "__static_attributes__" 484 (.ref 220), de P "__dict__" 486 (.ref 223), de P "__weakref__" 488 (.ref 224), de P "__doc__" 489 (.none)] 4 }),
  (222, { cls := .type "type", data := .cls { name := "Cursor", bases := [.type "object"], mro := [.ref 222, .type "object"], ns := 221, qualname := "Cursor" }, slots := #[none, none, some (vs "Cursor" 333), some (vs "Cursor" 341), some (.builtin "object.__new__"), some (.bool true)] }),
  (223, { cls := .type "getset_descriptor", data := .fields #[vs "__dict__" 485, .ref 222, .builtin "function.__dict__", .builtin "function.__dict__#set"] }),
  (224, { cls := .type "getset_descriptor", data := .fields #[vs "__weakref__" 487, .ref 222, .builtin "ExceptionGroup.__weakref__", .none] }),
  (232, { cls := .type "code", data := .fields #[vs "hex_escape" 492, vs "hex_escape" 493, vs "/claim/cut.py" 494, .int 135 0, .int 1 0, .int 0 0, .int 0 0, .int 3 0, .ref 227, .bool true, .int 181 0, .ref 228, .none, .ref 229, .ref 230, .ref 231, .int 497 0, .int 135 0, vs "/claim/cut.py" 498] }),
  (233, { cls := .type "function", data := fnD "hex_escape" "hex_escape" (topSt 12) 194 "grammarmill.source" (.none) (.ref 232) 3 [] (.none) }),
  (239, { cls := .type "code", data := .fields #[vs "escaped_sign" 500, vs "escaped_sign" 501, vs "/claim/cut.py" 502, .int 138 0, .int 2 0, .int 0 0, .int 0 0, .int 3 0, .ref 234, .bool true, .int 181 0, .ref 235, .none, .ref 236, .ref 237, .ref 238, .int 506 0, .int 138 0, vs "/claim/cut.py" 507] }),
  (240, { cls := .type "function", data := fnD "escaped_sign" "escaped_sign" (topSt 13) 194 "grammarmill.source" (.none) (.ref 239) 3 [] (.none) }),
  (244, { cls := .type "code", data := .fields #[vs "escaped" 509, vs "escaped" 510, vs "/claim/cut.py" 511, .int 149 0, .int 2 0, .int 0 0, .int 0 0, .int 3 0, .ref 241, .bool true, .int 181 0, .ref 242, .none, .none, .none, .ref 243, .int 512 0, .int 149 0, vs "/claim/cut.py" 513] }),
  (245, { cls := .type "function", data := fnD "escaped" "escaped" (topSt 14) 194 "grammarmill.source" (.none) (.ref 244) 3 [] (.none) }),
  (249, { cls := .type "code", data := .fields #[vs "show_item" 521, vs "show_item" 522, vs "/claim/cut.py" 523, .int 154 0, .int 1 0, .int 0 0, .int 0 0, .int 3 0, .ref 246, .bool true, .int 181 0, .ref 247, .none, .none, .none, .ref 248, .int 524 0, .int 154 0, vs "/claim/cut.py" 525] }),
  (250, { cls := .type "function", data := fnD "show_item" "show_item" (topSt 18) 515 "grammarmill.lines" (.none) (.ref 249) 3 [] (.none) }),
  (263, { cls := .type "code", data := .fields #[vs "__init__" 539, vs "LineWriter.__init__" 540, vs "/claim/cut.py" 541, .int 164 0, .int 2 0, .int 0 0, .int 0 0, .int 3 0, .ref 258, .bool true, .int 181 0, .ref 259, .none, .ref 260, .ref 261, .ref 262, .int 544 0, .int 164 0, vs "/claim/cut.py" 545] }),
  (264, { cls := .type "function", data := fnD "__init__" "LineWriter.__init__" (inSt 19 0) 515 "grammarmill.lines" (.none) (.ref 263) 3 [] (.none) }),
  (268, { cls := .type "code", data := .fields #[vs "add" 547, vs "LineWriter.add" 548, vs "/claim/cut.py" 549, .int 167 0, .int 3 0, .int 0 0, .int 0 0, .int 3 0, .ref 265, .bool true, .int 181 0, .ref 266, .none, .none, .none, .ref 267, .int 550 0, .int 167 0, vs "/claim/cut.py" 551] }),
  (269, { cls := .type "function", data := fnD "add" "LineWriter.add" (inSt 19 1) 515 "grammarmill.lines" (.none) (.ref 268) 3 [] (.none) }),
  (275, { cls := .type "code", data := .fields #[vs "text" 553, vs "LineWriter.text" 554, vs "/claim/cut.py" 555, .int 170 0, .int 1 0, .int 0 0, .int 0 0, .int 3 0, .ref 270, .bool true, .int 181 0, .ref 271, .none, .ref 272, .ref 273, .ref 274, .int 557 0, .int 170 0, vs "/claim/cut.py" 558] }),
  (276, { cls := .type "function", data := fnD "text" "LineWriter.text" (inSt 19 2) 515 "grammarmill.lines" (.none) (.ref 275) 3 [] (.none) }),
  (278, { cls := .type "dict", data := .dict #[de P "__module__" 534 (vs "grammarmill.lines" 515), de P "__firstlineno__" 538 (.int 162 537), de P "__init__" 546 (.ref 264), de P "add" 552 (.ref 269), de P "text" 559 (.ref 276), de P "__static_attributes__" 561 (.ref 277), de P "__dict__" 563 (.ref 280), de P "__weakref__" 565 (.ref 281), de P "__doc__" 566 (.none)] 4 }),
  (279, { cls := .type "type", data := .cls { name := "LineWriter", bases := [.type "object"], mro := [.ref 279, .type "object"], ns := 278, qualname := "LineWriter" }, slots := #[none, none, some (vs "LineWriter" 527), some (vs "LineWriter" 535), some (.builtin "object.__new__"), some (.bool true)] }),
  (280, { cls := .type "getset_descriptor", data := .fields #[vs "__dict__" 562, .ref 279, .builtin "function.__dict__", .builtin "function.__dict__#set"] }),
  (281, { cls := .type "getset_descriptor", data := .fields #[vs "__weakref__" 564, .ref 279, .builtin "ExceptionGroup.__weakref__", .none] }),
  (296, { cls := .type "code", data := .fields #[vs "__init__" 581, vs "LineReader.__init__" 582, vs "/claim/cut.py" 583, .int 174 0, .int 2 0, .int 0 0, .int 0 0, .int 3 0, .ref 291, .bool true, .int 181 0, .ref 292, .none, .ref 293, .ref 294, .ref 295, .int 586 0, .int 174 0, vs "/claim/cut.py" 587] }),
  (297, { cls := .type "function", data := fnD "__init__" "LineReader.__init__" (inSt 20 0) 515 "grammarmill.lines" (.none) (.ref 296) 3 [] (.none) }),
  (303, { cls := .type "code", data := .fields #[vs "fail" 589, vs "LineReader.fail" 590, vs "/claim/cut.py" 591, .int 178 0, .int 2 0, .int 0 0, .int 0 0, .int 3 0, .ref 298, .bool true, .int 181 0, .ref 299, .none, .ref 300, .ref 301, .ref 302, .int 594 0, .int 178 0, vs "/claim/cut.py" 595] }),
  (304, { cls := .type "function", data := fnD "fail" "LineReader.fail" (inSt 20 1) 515 "grammarmill.lines" (.none) (.ref 303) 3 [] (.none) }),
  (310, { cls := .type "code", data := .fields #[vs "need" 597, vs "LineReader.need" 598, vs "/claim/cut.py" 599, .int 181 0, .int 2 0, .int 0 0, .int 0 0, .int 3 0, .ref 305, .bool true, .int 181 0, .ref 306, .none, .ref 307, .ref 308, .ref 309, .int 602 0, .int 181 0, vs "/claim/cut.py" 603] }),
  (311, { cls := .type "function", data := fnD "need" "LineReader.need" (inSt 20 2) 515 "grammarmill.lines" (.none) (.ref 310) 3 [] (.none) }),
  (317, { cls := .type "code", data := .fields #[vs "head" 605, vs "LineReader.head" 606, vs "/claim/cut.py" 607, .int 185 0, .int 2 0, .int 0 0, .int 0 0, .int 3 0, .ref 312, .bool true, .int 181 0, .ref 313, .none, .ref 314, .ref 315, .ref 316, .int 610 0, .int 185 0, vs "/claim/cut.py" 611] }),
  (318, { cls := .type "function", data := fnD "head" "LineReader.head" (inSt 20 3) 515 "grammarmill.lines" (.none) (.ref 317) 3 [] (.none) }),
  (324, { cls := .type "code", data := .fields #[vs "end_line" 613, vs "LineReader.end_line" 614, vs "/claim/cut.py" 615, .int 189 0, .int 1 0, .int 0 0, .int 0 0, .int 3 0, .ref 319, .bool true, .int 181 0, .ref 320, .none, .ref 321, .ref 322, .ref 323, .int 617 0, .int 189 0, vs "/claim/cut.py" 618] }),
  (325, { cls := .type "function", data := fnD "end_line" "LineReader.end_line" (inSt 20 4) 515 "grammarmill.lines" (.none) (.ref 324) 3 [] (.none) }),
  (331, { cls := .type "code", data := .fields #[vs "whole" 620, vs "LineReader.whole" 621, vs "/claim/cut.py" 622, .int 193 0, .int 1 0, .int 0 0, .int 0 0, .int 3 0, .ref 326, .bool true, .int 181 0, .ref 327, .none, .ref 328, .ref 329, .ref 330, .int 626 0, .int 193 0, vs "/claim/cut.py" 627] }),
  (332, { cls := .type "function", data := fnD "whole" "LineReader.whole" (inSt 20 5) 515 "grammarmill.lines" (.none) (.ref 331) 3 [] (.none) }),
  (333, { cls := .type "tuple", data := .seq #[.int 0 629] }),
  (339, { cls := .type "code", data := .fields #[vs "item" 630, vs "LineReader.item" 631, vs "/claim/cut.py" 632, .int 200 0, .int 2 0, .int 0 0, .int 0 0, .int 3 0, .ref 334, .bool true, .int 181 0, .ref 335, .none, .ref 336, .ref 337, .ref 338, .int 636 0, .int 200 0, vs "/claim/cut.py" 637] }),
  (340, { cls := .type "function", data := fnD "item" "LineReader.item" (inSt 20 6) 515 "grammarmill.lines" (.ref 333) (.ref 339) 3 [] (.none) }),
  (346, { cls := .type "code", data := .fields #[vs "bracket" 639, vs "LineReader.bracket" 640, vs "/claim/cut.py" 641, .int 213 0, .int 2 0, .int 0 0, .int 0 0, .int 3 0, .ref 341, .bool true, .int 181 0, .ref 342, .none, .ref 343, .ref 344, .ref 345, .int 645 0, .int 213 0, vs "/claim/cut.py" 646] }),
  (347, { cls := .type "function", data := fnD "bracket" "LineReader.bracket" (inSt 20 7) 515 "grammarmill.lines" (.none) (.ref 346) 3 [] (.none) }),
  (353, { cls := .type "code", data := .fields #[vs "items" 648, vs "LineReader.items" 649, vs "/claim/cut.py" 650, .int 225 0, .int 2 0, .int 0 0, .int 0 0, .int 3 0, .ref 348, .bool true, .int 181 0, .ref 349, .none, .ref 350, .ref 351, .ref 352, .int 656 0, .int 225 0, vs "/claim/cut.py" 657] }),
  (354, { cls := .type "function", data := fnD "items" "LineReader.items" (inSt 20 8) 515 "grammarmill.lines" (.none) (.ref 353) 3 [] (.none) }),
  (355, { cls := .type "tuple", data := .seq #[.none, .none, .none] }),
  (361, { cls := .type "code", data := .fields #[vs "numbers" 659, vs "LineReader.numbers" 660, vs "/claim/cut.py" 661, .int 236 0, .int 5 0, .int 0 0, .int 0 0, .int 3 0, .ref 356, .bool true, .int 181 0, .ref 357, .none, .ref 358, .ref 359, .ref 360, .int 670 0, .int 236 0, vs "/claim/cut.py" 671] }),
  (362, { cls := .type "function", data := fnD "numbers" "LineReader.numbers" (inSt 20 9) 515 "grammarmill.lines" (.ref 355) (.ref 361) 3 [] (.none) }),
  (368, { cls := .type "code", data := .fields #[vs "one" 673, vs "LineReader.one" 674, vs "/claim/cut.py" 675, .int 246 0, .int 4 0, .int 0 0, .int 0 0, .int 3 0, .ref 363, .bool true, .int 181 0, .ref 364, .none, .ref 365, .ref 366, .ref 367, .int 680 0, .int 246 0, vs "/claim/cut.py" 681] }),
  (369, { cls := .type "function", data := fnD "one" "LineReader.one" (inSt 20 10) 515 "grammarmill.lines" (.none) (.ref 368) 3 [] (.none) }),
  (375, { cls := .type "code", data := .fields #[vs "texts" 683, vs "LineReader.texts" 684, vs "/claim/cut.py" 685, .int 249 0, .int 2 0, .int 0 0, .int 0 0, .int 3 0, .ref 370, .bool true, .int 181 0, .ref 371, .none, .ref 372, .ref 373, .ref 374, .int 690 0, .int 249 0, vs "/claim/cut.py" 691] }),
  (376, { cls := .type "function", data := fnD "texts" "LineReader.texts" (inSt 20 11) 515 "grammarmill.lines" (.none) (.ref 375) 3 [] (.none) }),
  (382, { cls := .type "code", data := .fields #[vs "finish" 693, vs "LineReader.finish" 694, vs "/claim/cut.py" 695, .int 256 0, .int 1 0, .int 0 0, .int 0 0, .int 3 0, .ref 377, .bool true, .int 181 0, .ref 378, .none, .ref 379, .ref 380, .ref 381, .int 697 0, .int 256 0, vs "/claim/cut.py" 698] }),
  (383, { cls := .type "function", data := fnD "finish" "LineReader.finish" (inSt 20 12) 515 "grammarmill.lines" (.none) (.ref 382) 3 [] (.none) }),
  (389, { cls := .type "code", data := .fields #[vs "need_same" 700, vs "LineReader.need_same" 701, vs "/claim/cut.py" 702, .int 264 0, .int 2 0, .int 0 0, .int 0 0, .int 3 0, .ref 384, .bool true, .int 181 0, .ref 385, .none, .ref 386, .ref 387, .ref 388, .int 707 0, .int 264 0, vs "/claim/cut.py" 708] }),
  (390, { cls := .type "function", data := fnD "need_same" "LineReader.need_same" (inSt 20 13) 515 "grammarmill.lines" (.none) (.ref 389) 3 [] (.none) }),
  (392, { cls := .type "dict", data := .dict #[de P "__module__" 576 (vs "grammarmill.lines" 515), de P "__firstlineno__" 580 (.int 172 579), de P "__init__" 588 (.ref 297), de P "fail" 596 (.ref 304), de P "need" 604 (.ref 311), de P "head" 612 (.ref 318), de P "end_line" 619 (.ref 325), de P "whole" 628 (.ref 332), de P "item" 638 (.ref 340), de P "bracket" 647 (.ref 347), de P "items" 658 (.ref 354), de P "numbers" 672 (.ref 362), de P "one" 682 (.ref 369), de P "texts" 692 (.ref 376), de P "finish" 699 (.ref 383), de P "need_same" 709 (.ref 390), de P "__static_attributes__" 712 (.ref 391), de P "__dict__" 714 (.ref 394), de P "__weakref__" 716 (.ref 395), de P "__doc__" 717 (.none)] 4 }),
  (393, { cls := .type "type", data := .cls { name := "LineReader", bases := [.type "object"], mro := [.ref 393, .type "object"], ns := 392, qualname := "LineReader" }, slots := #[none, none, some (vs "LineReader" 569), some (vs "LineReader" 577), some (.builtin "object.__new__"), some (.bool true)] }),
  (394, { cls := .type "getset_descriptor", data := .fields #[vs "__dict__" 713, .ref 393, .builtin "function.__dict__", .builtin "function.__dict__#set"] }),
  (395, { cls := .type "getset_descriptor", data := .fields #[vs "__weakref__" 715, .ref 393, .builtin "ExceptionGroup.__weakref__", .none] }),
  (401, { cls := .type "code", data := .fields #[vs "_law_pen" 722, vs "_law_pen" 723, vs "/claim/cut.py" 724, .int 273 0, .int 1 0, .int 0 0, .int 0 0, .int 3 0, .ref 398, .bool true, .int 181 0, .ref 399, .none, .none, .none, .ref 400, .int 725 0, .int 273 0, vs "/claim/cut.py" 726] }),
  (402, { cls := .type "function", data := fnD "_law_pen" "_law_pen" (topSt 22) 720 "law_on0170_01" (.none) (.ref 401) 3 [] (.none) }),
  (408, { cls := .type "code", data := .fields #[vs "_law_draw" 728, vs "_law_draw" 729, vs "/claim/cut.py" 730, .int 275 0, .int 2 0, .int 0 0, .int 0 0, .int 3 0, .ref 403, .bool true, .int 181 0, .ref 404, .none, .ref 405, .ref 406, .ref 407, .int 738 0, .int 275 0, vs "/claim/cut.py" 739] }),
  (409, { cls := .type "function", data := fnD "_law_draw" "_law_draw" (topSt 23) 720 "law_on0170_01" (.none) (.ref 408) 3 [] (.none) }),
  (415, { cls := .type "code", data := .fields #[vs "_law_pick" 741, vs "_law_pick" 742, vs "/claim/cut.py" 743, .int 292 0, .int 2 0, .int 0 0, .int 0 0, .int 3 0, .ref 410, .bool true, .int 181 0, .ref 411, .none, .ref 412, .ref 413, .ref 414, .int 746 0, .int 292 0, vs "/claim/cut.py" 747] }),
  (416, { cls := .type "function", data := fnD "_law_pick" "_law_pick" (topSt 24) 720 "law_on0170_01" (.none) (.ref 415) 3 [] (.none) }),
  (420, { cls := .type "code", data := .fields #[vs "_law_item" 749, vs "_law_item" 750, vs "/claim/cut.py" 751, .int 294 0, .int 2 0, .int 0 0, .int 0 0, .int 3 0, .ref 417, .bool true, .int 181 0, .ref 418, .none, .none, .none, .ref 419, .int 752 0, .int 294 0, vs "/claim/cut.py" 753] }),
  (421, { cls := .type "function", data := fnD "_law_item" "_law_item" (topSt 25) 720 "law_on0170_01" (.none) (.ref 420) 3 [] (.none) }),
  (425, { cls := .type "code", data := .fields #[vs "_law_shown" 755, vs "_law_shown" 756, vs "/claim/cut.py" 757, .int 303 0, .int 1 0, .int 0 0, .int 0 0, .int 3 0, .ref 422, .bool true, .int 181 0, .ref 423, .none, .none, .none, .ref 424, .int 758 0, .int 303 0, vs "/claim/cut.py" 759] }),
  (426, { cls := .type "function", data := fnD "_law_shown" "_law_shown" (topSt 26) 720 "law_on0170_01" (.none) (.ref 425) 3 [] (.none) }),
  (430, { cls := .type "code", data := .fields #[vs "_law_line" 761, vs "_law_line" 762, vs "/claim/cut.py" 763, .int 311 0, .int 2 0, .int 0 0, .int 0 0, .int 3 0, .ref 427, .bool true, .int 181 0, .ref 428, .none, .none, .none, .ref 429, .int 764 0, .int 311 0, vs "/claim/cut.py" 765] }),
  (431, { cls := .type "function", data := fnD "_law_line" "_law_line" (topSt 27) 720 "law_on0170_01" (.none) (.ref 430) 3 [] (.none) }),
  (437, { cls := .type "code", data := .fields #[vs "_law_place" 767, vs "_law_place" 768, vs "/claim/cut.py" 769, .int 313 0, .int 2 0, .int 0 0, .int 0 0, .int 3 0, .ref 432, .bool true, .int 181 0, .ref 433, .none, .ref 434, .ref 435, .ref 436, .int 774 0, .int 313 0, vs "/claim/cut.py" 775] }),
  (438, { cls := .type "function", data := fnD "_law_place" "_law_place" (topSt 28) 720 "law_on0170_01" (.none) (.ref 437) 3 [] (.none) }),
  (442, { cls := .type "code", data := .fields #[vs "_law_wrong_holds" 777, vs "_law_wrong_holds" 778, vs "/claim/cut.py" 779, .int 321 0, .int 1 0, .int 0 0, .int 0 0, .int 3 0, .ref 439, .bool true, .int 181 0, .ref 440, .none, .none, .none, .ref 441, .int 780 0, .int 321 0, vs "/claim/cut.py" 781] }),
  (443, { cls := .type "function", data := fnD "_law_wrong_holds" "_law_wrong_holds" (topSt 29) 720 "law_on0170_01" (.none) (.ref 442) 3 [] (.none) }),
  (449, { cls := .type "code", data := .fields #[vs "_law_ends_hold" 783, vs "_law_ends_hold" 784, vs "/claim/cut.py" 785, .int 334 0, .int 1 0, .int 0 0, .int 0 0, .int 3 0, .ref 444, .bool true, .int 181 0, .ref 445, .none, .ref 446, .ref 447, .ref 448, .int 789 0, .int 334 0, vs "/claim/cut.py" 790] }),
  (450, { cls := .type "function", data := fnD "_law_ends_hold" "_law_ends_hold" (topSt 30) 720 "law_on0170_01" (.none) (.ref 449) 3 [] (.none) }),
  (454, { cls := .type "code", data := .fields #[vs "_law_rules_hold" 792, vs "_law_rules_hold" 793, vs "/claim/cut.py" 794, .int 337 0, .int 1 0, .int 0 0, .int 0 0, .int 3 0, .ref 451, .bool true, .int 181 0, .ref 452, .none, .none, .none, .ref 453, .int 795 0, .int 337 0, vs "/claim/cut.py" 796] }),
  (455, { cls := .type "function", data := fnD "_law_rules_hold" "_law_rules_hold" (topSt 31) 720 "law_on0170_01" (.none) (.ref 454) 3 [] (.none) })]
noncomputable abbrev asK : List Addr := [2, 3, 22, 35, 36, 45, 46, 47, 48, 56, 57, 65, 71, 72, 81, 82, 83, 94, 95, 105, 111, 112, 118, 119, 120, 126, 127, 133, 134, 140, 141, 147, 148, 154, 155, 190, 191, 197, 198, 204, 205, 211, 212, 218, 219, 221, 222, 223, 224, 232, 233, 239, 240, 244, 245, 249, 250, 263, 264, 268, 269, 275, 276, 278, 279, 280, 281, 296, 297, 303, 304, 310, 311, 317, 318, 324, 325, 331, 332, 333, 339, 340, 346, 347, 353, 354, 355, 361, 362, 368, 369, 375, 376, 382, 383, 389, 390, 392, 393, 394, 395, 401, 402, 408, 409, 415, 416, 420, 421, 425, 426, 430, 431, 437, 438, 442, 443, 449, 450, 454, 455]
end Mine
end KT
section B1
open PySem PySem.W PySem.Calls PyProof.Rows PySem.Challenge
set_option maxRecDepth 100000
set_option linter.unusedVariables false
set_option maxHeartbeats 4000000
namespace Mine

noncomputable abbrev FnOf (K : Frag) (f : Addr) (name qual : PySem.Str) (st : Stmt) (dV cdv : Value) : Prop := FnAt K f name qual (fnArgs st) (fnBody st) (fnScope st) dV cdv

structure PK (c : Cx) : Prop where
  eq : c.K = KK c.w.params
section
variable {c : Cx} (P : PK c)
include P
theorem PK.f_Position_init : FnOf c.K 36 "__init__" "Position.__init__" (inSt 7 0) .none (.ref 35) := by rw [P.eq]; exact ⟨⟨_, _, _, _, _, _, _, _, rfl⟩, by kernel_rfl⟩
theorem PK.f_position_of : FnOf c.K 57 "position_of" "position_of" (topSt 8) .none (.ref 56) := by rw [P.eq]; exact ⟨⟨_, _, _, _, _, _, _, _, rfl⟩, by kernel_rfl⟩
theorem PK.f_ToolError_init : FnOf c.K 72 "__init__" "ToolError.__init__" (inSt 9 0) (.ref 65) (.ref 71) := by rw [P.eq]; exact ⟨⟨_, _, _, _, _, _, _, _, rfl⟩, by kernel_rfl⟩
theorem PK.f_Cursor_init : FnOf c.K 112 "__init__" "Cursor.__init__" (inSt 11 0) (.ref 105) (.ref 111) := by rw [P.eq]; exact ⟨⟨_, _, _, _, _, _, _, _, rfl⟩, by kernel_rfl⟩
theorem PK.f_Cursor_is_done : FnOf c.K 119 "is_done" "Cursor.is_done" (inSt 11 1) .none (.ref 118) := by rw [P.eq]; exact ⟨⟨_, _, _, _, _, _, _, _, rfl⟩, by kernel_rfl⟩
theorem PK.f_Cursor_peek : FnOf c.K 127 "peek" "Cursor.peek" (inSt 11 2) (.ref 120) (.ref 126) := by rw [P.eq]; exact ⟨⟨_, _, _, _, _, _, _, _, rfl⟩, by kernel_rfl⟩
theorem PK.f_Cursor_starts : FnOf c.K 134 "starts" "Cursor.starts" (inSt 11 3) .none (.ref 133) := by rw [P.eq]; exact ⟨⟨_, _, _, _, _, _, _, _, rfl⟩, by kernel_rfl⟩
theorem PK.f_Cursor_take : FnOf c.K 141 "take" "Cursor.take" (inSt 11 4) .none (.ref 140) := by rw [P.eq]; exact ⟨⟨_, _, _, _, _, _, _, _, rfl⟩, by kernel_rfl⟩
theorem PK.f_Cursor_skip : FnOf c.K 148 "skip" "Cursor.skip" (inSt 11 5) .none (.ref 147) := by rw [P.eq]; exact ⟨⟨_, _, _, _, _, _, _, _, rfl⟩, by kernel_rfl⟩
theorem PK.f_Cursor_take_while : FnOf c.K 155 "take_while" "Cursor.take_while" (inSt 11 6) .none (.ref 154) := by rw [P.eq]; exact ⟨⟨_, _, _, _, _, _, _, _, rfl⟩, by kernel_rfl⟩
theorem PK.f_Cursor_position : FnOf c.K 191 "position" "Cursor.position" (inSt 11 11) .none (.ref 190) := by rw [P.eq]; exact ⟨⟨_, _, _, _, _, _, _, _, rfl⟩, by kernel_rfl⟩
theorem PK.f_Cursor_position_at : FnOf c.K 198 "position_at" "Cursor.position_at" (inSt 11 12) .none (.ref 197) := by rw [P.eq]; exact ⟨⟨_, _, _, _, _, _, _, _, rfl⟩, by kernel_rfl⟩
theorem PK.f_Cursor_coded : FnOf c.K 205 "coded" "Cursor.coded" (inSt 11 13) .none (.ref 204) := by rw [P.eq]; exact ⟨⟨_, _, _, _, _, _, _, _, rfl⟩, by kernel_rfl⟩
theorem PK.f_Cursor_escape : FnOf c.K 212 "escape" "Cursor.escape" (inSt 11 14) .none (.ref 211) := by rw [P.eq]; exact ⟨⟨_, _, _, _, _, _, _, _, rfl⟩, by kernel_rfl⟩
theorem PK.f_Cursor_quoted : FnOf c.K 219 "quoted" "Cursor.quoted" (inSt 11 15) .none (.ref 218) := by rw [P.eq]; exact ⟨⟨_, _, _, _, _, _, _, _, rfl⟩, by kernel_rfl⟩
theorem PK.f_hex_escape : FnOf c.K 233 "hex_escape" "hex_escape" (topSt 12) .none (.ref 232) := by rw [P.eq]; exact ⟨⟨_, _, _, _, _, _, _, _, rfl⟩, by kernel_rfl⟩
theorem PK.f_escaped_sign : FnOf c.K 240 "escaped_sign" "escaped_sign" (topSt 13) .none (.ref 239) := by rw [P.eq]; exact ⟨⟨_, _, _, _, _, _, _, _, rfl⟩, by kernel_rfl⟩
theorem PK.f_escaped : FnOf c.K 245 "escaped" "escaped" (topSt 14) .none (.ref 244) := by rw [P.eq]; exact ⟨⟨_, _, _, _, _, _, _, _, rfl⟩, by kernel_rfl⟩
theorem PK.f_show_item : FnOf c.K 250 "show_item" "show_item" (topSt 18) .none (.ref 249) := by rw [P.eq]; exact ⟨⟨_, _, _, _, _, _, _, _, rfl⟩, by kernel_rfl⟩
theorem PK.f_LineWriter_init : FnOf c.K 264 "__init__" "LineWriter.__init__" (inSt 19 0) .none (.ref 263) := by rw [P.eq]; exact ⟨⟨_, _, _, _, _, _, _, _, rfl⟩, by kernel_rfl⟩
theorem PK.f_LineWriter_add : FnOf c.K 269 "add" "LineWriter.add" (inSt 19 1) .none (.ref 268) := by rw [P.eq]; exact ⟨⟨_, _, _, _, _, _, _, _, rfl⟩, by kernel_rfl⟩
theorem PK.f_LineWriter_text : FnOf c.K 276 "text" "LineWriter.text" (inSt 19 2) .none (.ref 275) := by rw [P.eq]; exact ⟨⟨_, _, _, _, _, _, _, _, rfl⟩, by kernel_rfl⟩
theorem PK.f_LineReader_init : FnOf c.K 297 "__init__" "LineReader.__init__" (inSt 20 0) .none (.ref 296) := by rw [P.eq]; exact ⟨⟨_, _, _, _, _, _, _, _, rfl⟩, by kernel_rfl⟩
theorem PK.f_LineReader_fail : FnOf c.K 304 "fail" "LineReader.fail" (inSt 20 1) .none (.ref 303) := by rw [P.eq]; exact ⟨⟨_, _, _, _, _, _, _, _, rfl⟩, by kernel_rfl⟩
theorem PK.f_LineReader_need : FnOf c.K 311 "need" "LineReader.need" (inSt 20 2) .none (.ref 310) := by rw [P.eq]; exact ⟨⟨_, _, _, _, _, _, _, _, rfl⟩, by kernel_rfl⟩
theorem PK.f_LineReader_head : FnOf c.K 318 "head" "LineReader.head" (inSt 20 3) .none (.ref 317) := by rw [P.eq]; exact ⟨⟨_, _, _, _, _, _, _, _, rfl⟩, by kernel_rfl⟩
theorem PK.f_LineReader_end_line : FnOf c.K 325 "end_line" "LineReader.end_line" (inSt 20 4) .none (.ref 324) := by rw [P.eq]; exact ⟨⟨_, _, _, _, _, _, _, _, rfl⟩, by kernel_rfl⟩
theorem PK.f_LineReader_whole : FnOf c.K 332 "whole" "LineReader.whole" (inSt 20 5) .none (.ref 331) := by rw [P.eq]; exact ⟨⟨_, _, _, _, _, _, _, _, rfl⟩, by kernel_rfl⟩
theorem PK.f_LineReader_item : FnOf c.K 340 "item" "LineReader.item" (inSt 20 6) (.ref 333) (.ref 339) := by rw [P.eq]; exact ⟨⟨_, _, _, _, _, _, _, _, rfl⟩, by kernel_rfl⟩
theorem PK.f_LineReader_bracket : FnOf c.K 347 "bracket" "LineReader.bracket" (inSt 20 7) .none (.ref 346) := by rw [P.eq]; exact ⟨⟨_, _, _, _, _, _, _, _, rfl⟩, by kernel_rfl⟩
theorem PK.f_LineReader_items : FnOf c.K 354 "items" "LineReader.items" (inSt 20 8) .none (.ref 353) := by rw [P.eq]; exact ⟨⟨_, _, _, _, _, _, _, _, rfl⟩, by kernel_rfl⟩
theorem PK.f_LineReader_numbers : FnOf c.K 362 "numbers" "LineReader.numbers" (inSt 20 9) (.ref 355) (.ref 361) := by rw [P.eq]; exact ⟨⟨_, _, _, _, _, _, _, _, rfl⟩, by kernel_rfl⟩
theorem PK.f_LineReader_one : FnOf c.K 369 "one" "LineReader.one" (inSt 20 10) .none (.ref 368) := by rw [P.eq]; exact ⟨⟨_, _, _, _, _, _, _, _, rfl⟩, by kernel_rfl⟩
theorem PK.f_LineReader_texts : FnOf c.K 376 "texts" "LineReader.texts" (inSt 20 11) .none (.ref 375) := by rw [P.eq]; exact ⟨⟨_, _, _, _, _, _, _, _, rfl⟩, by kernel_rfl⟩
theorem PK.f_LineReader_finish : FnOf c.K 383 "finish" "LineReader.finish" (inSt 20 12) .none (.ref 382) := by rw [P.eq]; exact ⟨⟨_, _, _, _, _, _, _, _, rfl⟩, by kernel_rfl⟩
theorem PK.f_LineReader_need_same : FnOf c.K 390 "need_same" "LineReader.need_same" (inSt 20 13) .none (.ref 389) := by rw [P.eq]; exact ⟨⟨_, _, _, _, _, _, _, _, rfl⟩, by kernel_rfl⟩
theorem PK.f_law_pen : FnOf c.K 402 "_law_pen" "_law_pen" (topSt 22) .none (.ref 401) := by rw [P.eq]; exact ⟨⟨_, _, _, _, _, _, _, _, rfl⟩, by kernel_rfl⟩
theorem PK.f_law_draw : FnOf c.K 409 "_law_draw" "_law_draw" (topSt 23) .none (.ref 408) := by rw [P.eq]; exact ⟨⟨_, _, _, _, _, _, _, _, rfl⟩, by kernel_rfl⟩
theorem PK.f_law_pick : FnOf c.K 416 "_law_pick" "_law_pick" (topSt 24) .none (.ref 415) := by rw [P.eq]; exact ⟨⟨_, _, _, _, _, _, _, _, rfl⟩, by kernel_rfl⟩
theorem PK.f_law_item : FnOf c.K 421 "_law_item" "_law_item" (topSt 25) .none (.ref 420) := by rw [P.eq]; exact ⟨⟨_, _, _, _, _, _, _, _, rfl⟩, by kernel_rfl⟩
theorem PK.f_law_shown : FnOf c.K 426 "_law_shown" "_law_shown" (topSt 26) .none (.ref 425) := by rw [P.eq]; exact ⟨⟨_, _, _, _, _, _, _, _, rfl⟩, by kernel_rfl⟩
theorem PK.f_law_line : FnOf c.K 431 "_law_line" "_law_line" (topSt 27) .none (.ref 430) := by rw [P.eq]; exact ⟨⟨_, _, _, _, _, _, _, _, rfl⟩, by kernel_rfl⟩
theorem PK.f_law_place : FnOf c.K 438 "_law_place" "_law_place" (topSt 28) .none (.ref 437) := by rw [P.eq]; exact ⟨⟨_, _, _, _, _, _, _, _, rfl⟩, by kernel_rfl⟩
theorem PK.f_law_wrong_holds : FnOf c.K 443 "_law_wrong_holds" "_law_wrong_holds" (topSt 29) .none (.ref 442) := by rw [P.eq]; exact ⟨⟨_, _, _, _, _, _, _, _, rfl⟩, by kernel_rfl⟩
theorem PK.f_law_ends_hold : FnOf c.K 450 "_law_ends_hold" "_law_ends_hold" (topSt 30) .none (.ref 449) := by rw [P.eq]; exact ⟨⟨_, _, _, _, _, _, _, _, rfl⟩, by kernel_rfl⟩
theorem PK.f_law_rules_hold : FnOf c.K 455 "_law_rules_hold" "_law_rules_hold" (topSt 31) .none (.ref 454) := by rw [P.eq]; exact ⟨⟨_, _, _, _, _, _, _, _, rfl⟩, by kernel_rfl⟩
theorem PK.m_Cursor_is_done : MethIn c.K 222 "is_done" 119 := by rw [P.eq]; exact ⟨by kernel_rfl, by kernel_rfl, by kernel_rfl, by kernel_rfl⟩
theorem PK.m_Cursor_peek : MethIn c.K 222 "peek" 127 := by rw [P.eq]; exact ⟨by kernel_rfl, by kernel_rfl, by kernel_rfl, by kernel_rfl⟩
theorem PK.m_Cursor_starts : MethIn c.K 222 "starts" 134 := by rw [P.eq]; exact ⟨by kernel_rfl, by kernel_rfl, by kernel_rfl, by kernel_rfl⟩
theorem PK.m_Cursor_take : MethIn c.K 222 "take" 141 := by rw [P.eq]; exact ⟨by kernel_rfl, by kernel_rfl, by kernel_rfl, by kernel_rfl⟩
theorem PK.m_Cursor_skip : MethIn c.K 222 "skip" 148 := by rw [P.eq]; exact ⟨by kernel_rfl, by kernel_rfl, by kernel_rfl, by kernel_rfl⟩
theorem PK.m_Cursor_take_while : MethIn c.K 222 "take_while" 155 := by rw [P.eq]; exact ⟨by kernel_rfl, by kernel_rfl, by kernel_rfl, by kernel_rfl⟩
theorem PK.m_Cursor_position : MethIn c.K 222 "position" 191 := by rw [P.eq]; exact ⟨by kernel_rfl, by kernel_rfl, by kernel_rfl, by kernel_rfl⟩
theorem PK.m_Cursor_position_at : MethIn c.K 222 "position_at" 198 := by rw [P.eq]; exact ⟨by kernel_rfl, by kernel_rfl, by kernel_rfl, by kernel_rfl⟩
theorem PK.m_Cursor_coded : MethIn c.K 222 "coded" 205 := by rw [P.eq]; exact ⟨by kernel_rfl, by kernel_rfl, by kernel_rfl, by kernel_rfl⟩
theorem PK.m_Cursor_escape : MethIn c.K 222 "escape" 212 := by rw [P.eq]; exact ⟨by kernel_rfl, by kernel_rfl, by kernel_rfl, by kernel_rfl⟩
theorem PK.m_Cursor_quoted : MethIn c.K 222 "quoted" 219 := by rw [P.eq]; exact ⟨by kernel_rfl, by kernel_rfl, by kernel_rfl, by kernel_rfl⟩
theorem PK.m_LineWriter_add : MethIn c.K 279 "add" 269 := by rw [P.eq]; exact ⟨by kernel_rfl, by kernel_rfl, by kernel_rfl, by kernel_rfl⟩
theorem PK.m_LineWriter_text : MethIn c.K 279 "text" 276 := by rw [P.eq]; exact ⟨by kernel_rfl, by kernel_rfl, by kernel_rfl, by kernel_rfl⟩
theorem PK.m_LineReader_fail : MethIn c.K 393 "fail" 304 := by rw [P.eq]; exact ⟨by kernel_rfl, by kernel_rfl, by kernel_rfl, by kernel_rfl⟩
theorem PK.m_LineReader_need : MethIn c.K 393 "need" 311 := by rw [P.eq]; exact ⟨by kernel_rfl, by kernel_rfl, by kernel_rfl, by kernel_rfl⟩
theorem PK.m_LineReader_head : MethIn c.K 393 "head" 318 := by rw [P.eq]; exact ⟨by kernel_rfl, by kernel_rfl, by kernel_rfl, by kernel_rfl⟩
theorem PK.m_LineReader_end_line : MethIn c.K 393 "end_line" 325 := by rw [P.eq]; exact ⟨by kernel_rfl, by kernel_rfl, by kernel_rfl, by kernel_rfl⟩
theorem PK.m_LineReader_whole : MethIn c.K 393 "whole" 332 := by rw [P.eq]; exact ⟨by kernel_rfl, by kernel_rfl, by kernel_rfl, by kernel_rfl⟩
theorem PK.m_LineReader_item : MethIn c.K 393 "item" 340 := by rw [P.eq]; exact ⟨by kernel_rfl, by kernel_rfl, by kernel_rfl, by kernel_rfl⟩
theorem PK.m_LineReader_bracket : MethIn c.K 393 "bracket" 347 := by rw [P.eq]; exact ⟨by kernel_rfl, by kernel_rfl, by kernel_rfl, by kernel_rfl⟩
theorem PK.m_LineReader_items : MethIn c.K 393 "items" 354 := by rw [P.eq]; exact ⟨by kernel_rfl, by kernel_rfl, by kernel_rfl, by kernel_rfl⟩
theorem PK.m_LineReader_numbers : MethIn c.K 393 "numbers" 362 := by rw [P.eq]; exact ⟨by kernel_rfl, by kernel_rfl, by kernel_rfl, by kernel_rfl⟩
theorem PK.m_LineReader_one : MethIn c.K 393 "one" 369 := by rw [P.eq]; exact ⟨by kernel_rfl, by kernel_rfl, by kernel_rfl, by kernel_rfl⟩
theorem PK.m_LineReader_texts : MethIn c.K 393 "texts" 376 := by rw [P.eq]; exact ⟨by kernel_rfl, by kernel_rfl, by kernel_rfl, by kernel_rfl⟩
theorem PK.m_LineReader_finish : MethIn c.K 393 "finish" 383 := by rw [P.eq]; exact ⟨by kernel_rfl, by kernel_rfl, by kernel_rfl, by kernel_rfl⟩
theorem PK.m_LineReader_need_same : MethIn c.K 393 "need_same" 390 := by rw [P.eq]; exact ⟨by kernel_rfl, by kernel_rfl, by kernel_rfl, by kernel_rfl⟩
theorem PK.s_46_offset : SetIn c.K 46 "offset" := by rw [P.eq]; exact ⟨by kernel_rfl, ⟨_, rfl, by kernel_rfl, by kernel_rfl, by kernel_rfl, fun _ => by kernel_rfl⟩, by kernel_rfl⟩
theorem PK.a_46_offset : AttrIn c.K 46 "offset" := by rw [P.eq]; exact ⟨by kernel_rfl, by kernel_rfl, by kernel_rfl⟩
theorem PK.s_46_line : SetIn c.K 46 "line" := by rw [P.eq]; exact ⟨by kernel_rfl, ⟨_, rfl, by kernel_rfl, by kernel_rfl, by kernel_rfl, fun _ => by kernel_rfl⟩, by kernel_rfl⟩
theorem PK.a_46_line : AttrIn c.K 46 "line" := by rw [P.eq]; exact ⟨by kernel_rfl, by kernel_rfl, by kernel_rfl⟩
theorem PK.s_46_column : SetIn c.K 46 "column" := by rw [P.eq]; exact ⟨by kernel_rfl, ⟨_, rfl, by kernel_rfl, by kernel_rfl, by kernel_rfl, fun _ => by kernel_rfl⟩, by kernel_rfl⟩
theorem PK.a_46_column : AttrIn c.K 46 "column" := by rw [P.eq]; exact ⟨by kernel_rfl, by kernel_rfl, by kernel_rfl⟩
theorem PK.s_222_text : SetIn c.K 222 "text" := by rw [P.eq]; exact ⟨by kernel_rfl, ⟨_, rfl, by kernel_rfl, by kernel_rfl, by kernel_rfl, fun _ => by kernel_rfl⟩, by kernel_rfl⟩
theorem PK.a_222_text : AttrIn c.K 222 "text" := by rw [P.eq]; exact ⟨by kernel_rfl, by kernel_rfl, by kernel_rfl⟩
theorem PK.s_222_at : SetIn c.K 222 "at" := by rw [P.eq]; exact ⟨by kernel_rfl, ⟨_, rfl, by kernel_rfl, by kernel_rfl, by kernel_rfl, fun _ => by kernel_rfl⟩, by kernel_rfl⟩
theorem PK.a_222_at : AttrIn c.K 222 "at" := by rw [P.eq]; exact ⟨by kernel_rfl, by kernel_rfl, by kernel_rfl⟩
theorem PK.s_279_lines : SetIn c.K 279 "lines" := by rw [P.eq]; exact ⟨by kernel_rfl, ⟨_, rfl, by kernel_rfl, by kernel_rfl, by kernel_rfl, fun _ => by kernel_rfl⟩, by kernel_rfl⟩
theorem PK.a_279_lines : AttrIn c.K 279 "lines" := by rw [P.eq]; exact ⟨by kernel_rfl, by kernel_rfl, by kernel_rfl⟩
theorem PK.s_393_cursor : SetIn c.K 393 "cursor" := by rw [P.eq]; exact ⟨by kernel_rfl, ⟨_, rfl, by kernel_rfl, by kernel_rfl, by kernel_rfl, fun _ => by kernel_rfl⟩, by kernel_rfl⟩
theorem PK.a_393_cursor : AttrIn c.K 393 "cursor" := by rw [P.eq]; exact ⟨by kernel_rfl, by kernel_rfl, by kernel_rfl⟩
theorem PK.s_393_lines : SetIn c.K 393 "lines" := by rw [P.eq]; exact ⟨by kernel_rfl, ⟨_, rfl, by kernel_rfl, by kernel_rfl, by kernel_rfl, fun _ => by kernel_rfl⟩, by kernel_rfl⟩
theorem PK.a_393_lines : AttrIn c.K 393 "lines" := by rw [P.eq]; exact ⟨by kernel_rfl, by kernel_rfl, by kernel_rfl⟩
theorem PK.s_95_what : SetIn c.K 95 "what" := by rw [P.eq]; exact ⟨by kernel_rfl, ⟨_, rfl, by kernel_rfl, by kernel_rfl, by kernel_rfl, fun _ => by kernel_rfl⟩, by kernel_rfl⟩
theorem PK.x_95_what : AttrX c.K 95 "what" := by rw [P.eq]; exact ⟨by kernel_rfl, by kernel_rfl, by kernel_rfl, by kernel_rfl, by kernel_rfl⟩
theorem PK.s_95_at : SetIn c.K 95 "at" := by rw [P.eq]; exact ⟨by kernel_rfl, ⟨_, rfl, by kernel_rfl, by kernel_rfl, by kernel_rfl, fun _ => by kernel_rfl⟩, by kernel_rfl⟩
theorem PK.x_95_at : AttrX c.K 95 "at" := by rw [P.eq]; exact ⟨by kernel_rfl, by kernel_rfl, by kernel_rfl, by kernel_rfl, by kernel_rfl⟩
theorem PK.xi : ExcIn c.K 95 72 := by rw [P.eq]; exact ⟨⟨_, _, _, _, _, _, _, _, _, _, _, _, _, _, _, _, rfl, by kernel_rfl, by kernel_rfl, by kernel_rfl, by kernel_rfl⟩, by kernel_rfl, by kernel_rfl, by kernel_rfl, by kernel_rfl⟩
theorem PK.xinit : findCls c.K (.type "Exception") (.type "type") "__init__" = some (.val (.builtin "Exception.__init__")) := by rw [P.eq]; exact by kernel_rfl
theorem PK.mk_46 : makesIn c.K 46 = true := by rw [P.eq]; exact by kernel_rfl
theorem PK.in_46 : findIn c.K (.ref 46) "__init__" = some (some (.ref 36)) := by rw [P.eq]; exact by kernel_rfl
theorem PK.if_46 : isFn c.K (.ref 36) = true := by rw [P.eq]; exact by kernel_rfl
theorem PK.mk_222 : makesIn c.K 222 = true := by rw [P.eq]; exact by kernel_rfl
theorem PK.in_222 : findIn c.K (.ref 222) "__init__" = some (some (.ref 112)) := by rw [P.eq]; exact by kernel_rfl
theorem PK.if_222 : isFn c.K (.ref 112) = true := by rw [P.eq]; exact by kernel_rfl
theorem PK.mk_279 : makesIn c.K 279 = true := by rw [P.eq]; exact by kernel_rfl
theorem PK.in_279 : findIn c.K (.ref 279) "__init__" = some (some (.ref 264)) := by rw [P.eq]; exact by kernel_rfl
theorem PK.if_279 : isFn c.K (.ref 264) = true := by rw [P.eq]; exact by kernel_rfl
theorem PK.mk_393 : makesIn c.K 393 = true := by rw [P.eq]; exact by kernel_rfl
theorem PK.in_393 : findIn c.K (.ref 393) "__init__" = some (some (.ref 297)) := by rw [P.eq]; exact by kernel_rfl
theorem PK.if_393 : isFn c.K (.ref 297) = true := by rw [P.eq]; exact by kernel_rfl
theorem PK.g_PLAIN_ESCAPES : nsIn c.K mainGlobals "PLAIN_ESCAPES" = some (some (.ref 22)) := by rw [P.eq]; exact by kernel_rfl
theorem PK.g_Position : nsIn c.K mainGlobals "Position" = some (some (.ref 46)) := by rw [P.eq]; exact by kernel_rfl
theorem PK.g_position_of : nsIn c.K mainGlobals "position_of" = some (some (.ref 57)) := by rw [P.eq]; exact by kernel_rfl
theorem PK.g_TableError : nsIn c.K mainGlobals "TableError" = some (some (.ref 95)) := by rw [P.eq]; exact by kernel_rfl
theorem PK.g_Cursor : nsIn c.K mainGlobals "Cursor" = some (some (.ref 222)) := by rw [P.eq]; exact by kernel_rfl
theorem PK.g_hex_escape : nsIn c.K mainGlobals "hex_escape" = some (some (.ref 233)) := by rw [P.eq]; exact by kernel_rfl
theorem PK.g_escaped_sign : nsIn c.K mainGlobals "escaped_sign" = some (some (.ref 240)) := by rw [P.eq]; exact by kernel_rfl
theorem PK.g_escaped : nsIn c.K mainGlobals "escaped" = some (some (.ref 245)) := by rw [P.eq]; exact by kernel_rfl
theorem PK.g_show_item : nsIn c.K mainGlobals "show_item" = some (some (.ref 250)) := by rw [P.eq]; exact by kernel_rfl
theorem PK.g_LineWriter : nsIn c.K mainGlobals "LineWriter" = some (some (.ref 279)) := by rw [P.eq]; exact by kernel_rfl
theorem PK.g_LineReader : nsIn c.K mainGlobals "LineReader" = some (some (.ref 393)) := by rw [P.eq]; exact by kernel_rfl
theorem PK.g_law_pen : nsIn c.K mainGlobals "_law_pen" = some (some (.ref 402)) := by rw [P.eq]; exact by kernel_rfl
theorem PK.g_law_draw : nsIn c.K mainGlobals "_law_draw" = some (some (.ref 409)) := by rw [P.eq]; exact by kernel_rfl
theorem PK.g_law_pick : nsIn c.K mainGlobals "_law_pick" = some (some (.ref 416)) := by rw [P.eq]; exact by kernel_rfl
theorem PK.g_law_item : nsIn c.K mainGlobals "_law_item" = some (some (.ref 421)) := by rw [P.eq]; exact by kernel_rfl
theorem PK.g_law_shown : nsIn c.K mainGlobals "_law_shown" = some (some (.ref 426)) := by rw [P.eq]; exact by kernel_rfl
theorem PK.g_law_line : nsIn c.K mainGlobals "_law_line" = some (some (.ref 431)) := by rw [P.eq]; exact by kernel_rfl
theorem PK.g_law_place : nsIn c.K mainGlobals "_law_place" = some (some (.ref 438)) := by rw [P.eq]; exact by kernel_rfl
theorem PK.g_law_wrong_holds : nsIn c.K mainGlobals "_law_wrong_holds" = some (some (.ref 443)) := by rw [P.eq]; exact by kernel_rfl
theorem PK.g_law_ends_hold : nsIn c.K mainGlobals "_law_ends_hold" = some (some (.ref 450)) := by rw [P.eq]; exact by kernel_rfl
theorem PK.g_law_rules_hold : nsIn c.K mainGlobals "_law_rules_hold" = some (some (.ref 455)) := by rw [P.eq]; exact by kernel_rfl
theorem PK.g_FIGURES : ∃ t, nsIn c.K mainGlobals "FIGURES" = some (some (.str "0123456789" t)) := by rw [P.eq]; exact ⟨_, rfl⟩
theorem PK.g_HEX_SIGNS : ∃ t, nsIn c.K mainGlobals "HEX_SIGNS" = some (some (.str "0123456789abcdefABCDEF" t)) := by rw [P.eq]; exact ⟨_, rfl⟩
theorem PK.g_OCTAL_SIGNS : ∃ t, nsIn c.K mainGlobals "OCTAL_SIGNS" = some (some (.str "01234567" t)) := by rw [P.eq]; exact ⟨_, rfl⟩
theorem PK.g_MOST_DEPTH : ∃ t, nsIn c.K mainGlobals "MOST_DEPTH" = some (some (.int 2 t)) := by rw [P.eq]; exact ⟨_, rfl⟩
theorem PK.g_MOST_FIGURES_lines : ∃ t, nsIn c.K mainGlobals "MOST_FIGURES_lines" = some (some (.int 160 t)) := by rw [P.eq]; exact ⟨_, rfl⟩
theorem PK.esc_n : ∃ t, nsIn c.K 22 "n" = some (some (.int 10 t)) := by rw [P.eq]; exact ⟨_, rfl⟩
theorem PK.esc_t : ∃ t, nsIn c.K 22 "t" = some (some (.int 9 t)) := by rw [P.eq]; exact ⟨_, rfl⟩
theorem PK.esc_bs : nsIn c.K 22 "\\" = some none := by rw [P.eq]; exact by kernel_rfl
theorem PK.esc_qt : nsIn c.K 22 "\"" = some none := by rw [P.eq]; exact by kernel_rfl
theorem PK.b_len : nsIn c.K mainGlobals "len" = some none := by rw [P.eq]; exact by kernel_rfl
theorem PK.b_int : nsIn c.K mainGlobals "int" = some none := by rw [P.eq]; exact by kernel_rfl
theorem PK.b_str : nsIn c.K mainGlobals "str" = some none := by rw [P.eq]; exact by kernel_rfl
theorem PK.b_tuple : nsIn c.K mainGlobals "tuple" = some none := by rw [P.eq]; exact by kernel_rfl
theorem PK.b_list : nsIn c.K mainGlobals "list" = some none := by rw [P.eq]; exact by kernel_rfl
theorem PK.b_range : nsIn c.K mainGlobals "range" = some none := by rw [P.eq]; exact by kernel_rfl
theorem PK.b_min : nsIn c.K mainGlobals "min" = some none := by rw [P.eq]; exact by kernel_rfl
theorem PK.b_max : nsIn c.K mainGlobals "max" = some none := by rw [P.eq]; exact by kernel_rfl
theorem PK.b_chr : nsIn c.K mainGlobals "chr" = some none := by rw [P.eq]; exact by kernel_rfl
theorem PK.b_ord : nsIn c.K mainGlobals "ord" = some none := by rw [P.eq]; exact by kernel_rfl
theorem PK.b_isinstance : nsIn c.K mainGlobals "isinstance" = some none := by rw [P.eq]; exact by kernel_rfl
theorem PK.b_sum : nsIn c.K mainGlobals "sum" = some none := by rw [P.eq]; exact by kernel_rfl
theorem PK.b_abs : nsIn c.K mainGlobals "abs" = some none := by rw [P.eq]; exact by kernel_rfl
theorem PK.b_enumerate : nsIn c.K mainGlobals "enumerate" = some none := by rw [P.eq]; exact by kernel_rfl
theorem PK.b_Exception : nsIn c.K mainGlobals "Exception" = some none := by rw [P.eq]; exact by kernel_rfl
theorem PK.d_65 : ∃ o n, c.K.lookup 65 = some o ∧ o.data = .seq #[.none] n := by rw [P.eq]; exact ⟨_, _, rfl, rfl⟩
theorem PK.d_105 : ∃ o n t, c.K.lookup 105 = some o ∧ o.data = .seq #[.int 0 t] n := by rw [P.eq]; exact ⟨_, _, _, rfl, rfl⟩
theorem PK.d_120 : ∃ o n t, c.K.lookup 120 = some o ∧ o.data = .seq #[.int 0 t] n := by rw [P.eq]; exact ⟨_, _, _, rfl, rfl⟩
theorem PK.d_333 : ∃ o n t, c.K.lookup 333 = some o ∧ o.data = .seq #[.int 0 t] n := by rw [P.eq]; exact ⟨_, _, _, rfl, rfl⟩
theorem PK.d_355 : ∃ o n, c.K.lookup 355 = some o ∧ o.data = .seq #[.none, .none, .none] n := by rw [P.eq]; exact ⟨_, _, rfl, rfl⟩
theorem PK.k_position_of : keepIn c.K (.ref 57) = true := by rw [P.eq]; exact by kernel_rfl
theorem PK.k_hex_escape : keepIn c.K (.ref 233) = true := by rw [P.eq]; exact by kernel_rfl
theorem PK.k_escaped_sign : keepIn c.K (.ref 240) = true := by rw [P.eq]; exact by kernel_rfl
theorem PK.k_escaped : keepIn c.K (.ref 245) = true := by rw [P.eq]; exact by kernel_rfl
theorem PK.k_show_item : keepIn c.K (.ref 250) = true := by rw [P.eq]; exact by kernel_rfl
theorem PK.k_law_pen : keepIn c.K (.ref 402) = true := by rw [P.eq]; exact by kernel_rfl
theorem PK.k_law_draw : keepIn c.K (.ref 409) = true := by rw [P.eq]; exact by kernel_rfl
theorem PK.k_law_pick : keepIn c.K (.ref 416) = true := by rw [P.eq]; exact by kernel_rfl
theorem PK.k_law_item : keepIn c.K (.ref 421) = true := by rw [P.eq]; exact by kernel_rfl
theorem PK.k_law_shown : keepIn c.K (.ref 426) = true := by rw [P.eq]; exact by kernel_rfl
theorem PK.k_law_line : keepIn c.K (.ref 431) = true := by rw [P.eq]; exact by kernel_rfl
theorem PK.k_law_place : keepIn c.K (.ref 438) = true := by rw [P.eq]; exact by kernel_rfl
theorem PK.k_law_wrong_holds : keepIn c.K (.ref 443) = true := by rw [P.eq]; exact by kernel_rfl
theorem PK.k_law_ends_hold : keepIn c.K (.ref 450) = true := by rw [P.eq]; exact by kernel_rfl
theorem PK.k_law_rules_hold : keepIn c.K (.ref 455) = true := by rw [P.eq]; exact by kernel_rfl
theorem PK.k_46 : keepIn c.K (.ref 46) = true := by rw [P.eq]; exact by kernel_rfl
theorem PK.k_95 : keepIn c.K (.ref 95) = true := by rw [P.eq]; exact by kernel_rfl
theorem PK.k_222 : keepIn c.K (.ref 222) = true := by rw [P.eq]; exact by kernel_rfl
theorem PK.k_279 : keepIn c.K (.ref 279) = true := by rw [P.eq]; exact by kernel_rfl
theorem PK.k_393 : keepIn c.K (.ref 393) = true := by rw [P.eq]; exact by kernel_rfl
theorem PK.h_442 : codeHdIn c.K 442 440 = true := by rw [P.eq]; exact (by kernel_rfl)
theorem PK.h_449 : codeHdIn c.K 449 445 = true := by rw [P.eq]; exact (by kernel_rfl)
theorem PK.h_454 : codeHdIn c.K 454 452 = true := by rw [P.eq]; exact (by kernel_rfl)
theorem PK.dict : DictIn c 22 := ⟨by rw [P.eq]; exact ⟨_, _, rfl, ⟨_, _, rfl, rfl⟩, ⟨_, _, rfl, rfl⟩, ⟨_, _, rfl, rfl⟩, ⟨_, _, rfl, rfl⟩, ⟨_, _, rfl, rfl⟩, ⟨_, _, rfl, rfl⟩, ⟨_, _, rfl, rfl⟩, trivial⟩, rfl⟩
end
end Mine
end B1
section B2
open PySem PySem.W PySem.Calls PyProof.Rows PySem.Challenge
set_option maxRecDepth 100000
set_option linter.unusedVariables false
namespace Mine

theorem cellsFrom_nil : ∀ {names : List (PySem.Str × NameKind)} {k : Nat} {acc : List (PySem.Str × Addr)}, names.all (fun p => !(p.2 == .cell)) = true → cellsFrom k names acc = acc
  | [], _, _, _ => rfl
  | (y, kd) :: r, k, acc, h => by
    obtain ⟨h1, h2⟩ := Bool.and_eq_true_iff.mp (List.all_cons ▸ h)
    unfold cellsFrom
    have : (kd == .cell) = false := by simpa using h1
    rw [if_neg (by rw [this]; exact Bool.false_ne_true)]
    exact cellsFrom_nil h2
theorem cellsOk_none {scope : Scope} (h : scope.names.all (fun p => !(p.2 == .cell)) = true) : cellsOk scope = true := by
  unfold cellsOk
  rw [cellsFrom_nil h]
  refine Bool.and_eq_true_iff.mpr ⟨List.all_eq_true.mpr fun p hp => ?_, by decide⟩
  rw [List.all_eq_true.mp h p hp]; rfl
noncomputable def kindsL (scope : Scope) (l : Loc) : Bool := l.all fun p => decide (scope.names.lookup p.1 = some .local)
theorem kindsL_ok {scope : Scope} {l : Loc} (h : kindsL scope l = true) (L : Addr) : kindsOk scope L l = true := List.all_eq_true.mpr fun p hp => by
  rw [List.all_eq_true.mp h p hp]; rfl

section
variable {c : Cx} {n : Nat} {σ : Sto} {Φ : NPr} {X : CXPr} {f : Addr} {name qual : PySem.Str} {params : Arguments} {body : List Stmt} {scope : Scope} {dV cdv : Value} {args : List PV}
noncomputable abbrev fm0 (scope : Scope) (L : Addr) (qual : PySem.Str) (f : Addr) (cdv : Value) (A' : Around) (n : Nat) : Fm := ⟨envF scope L qual f cdv [], A', n, 0⟩
theorem call_pl (F : FnAt c.K f name qual params body scope dV cdv) (binds : Loc)
    (hbind : ∀ s vs kV doc pm an ct, c.K.In s.heap → VRs s.heap args vs → ∃ bs, BindsTo s (fnOf name qual params body scope dV kV doc pm an cdv ct) ⟨vs, []⟩ bs ∧ BR s.heap binds bs)
    (hkd : kindsL scope binds = true) (hone : scope.names.all (fun p => !(p.2 == .cell)) = true)
    (hbody : ∀ L A', (∀ a, L ≤ a → σ a = none) → FF (fm0 scope L qual f cdv A' n) → SS c (fm0 scope L qual f cdv A' n) body binds σ (UpN Φ) (UpR Φ) (UpX X))
    (hnd : decide ((binds.map (·.1)).Nodup) = true := by kernel_rfl)
    (hco : scope.isCoroutine = false := by kernel_rfl) (hgen : scope.isGenerator = false := by kernel_rfl) (hk : scope.kind = .function := by kernel_rfl) : CallC c (n + 1) (.ref f) args σ Φ X := by
  refine call_fn F binds binds hbind (of_decide_eq_true hnd) (kindsL_ok hkd) (fun p hp => ⟨hp, of_decide_eq_true (List.all_eq_true.mp hkd p hp)⟩) (cellsOk_none hone) (fun L A' hL ff => ?_) hco hgen hk
  rw [cellsFrom_nil hone] at ff ⊢
  exact hbody L A' hL ff
end
theorem Sub.refl (σ : Sto) : Sub σ σ := fun _ _ e => e
theorem Sub.trans {a b d : Sto} (x : Sub a b) (y : Sub b d) : Sub a d := fun _ _ e => y _ _ (x _ _ e)

theorem br1 {h : Heap} {a : PV} {x : PySem.Str} {vs : List Value} (r : VRs h [a] vs) : ∃ v, vs = [v] ∧ BR h [(x, a)] [(x, v)] := by
  cases r with
  | cons r1 r2 => cases r2; exact ⟨_, rfl, .cons r1 .nil⟩
theorem br2 {h : Heap} {a b : PV} {x y : PySem.Str} {vs : List Value} (r : VRs h [a, b] vs) : ∃ v u, vs = [v, u] ∧ BR h [(x, a), (y, b)] [(x, v), (y, u)] := by
  cases r with
  | cons r1 r2 => cases r2 with | cons r2 r3 => cases r3; exact ⟨_, _, rfl, .cons r1 (.cons r2 .nil)⟩
theorem br3 {h : Heap} {a b d : PV} {x y z : PySem.Str} {vs : List Value} (r : VRs h [a, b, d] vs) : ∃ v u w, vs = [v, u, w] ∧ BR h [(x, a), (y, b), (z, d)] [(x, v), (y, u), (z, w)] := by
  cases r with
  | cons r1 r2 => cases r2 with | cons r2 r3 => cases r3 with | cons r3 r4 => cases r4; exact ⟨_, _, _, rfl, .cons r1 (.cons r2 (.cons r3 .nil))⟩
theorem br4 {h : Heap} {a b d e : PV} {x y z q : PySem.Str} {vs : List Value} (r : VRs h [a, b, d, e] vs) : ∃ v u w t, vs = [v, u, w, t] ∧ BR h [(x, a), (y, b), (z, d), (q, e)] [(x, v), (y, u), (z, w), (q, t)] := by
  cases r with
  | cons r1 r2 => cases r2 with | cons r2 r3 => cases r3 with | cons r3 r4 => cases r4 with | cons r4 r5 => cases r5; exact ⟨_, _, _, _, rfl, .cons r1 (.cons r2 (.cons r3 (.cons r4 .nil)))⟩

section
variable {c : Cx} {fm : Fm} {loc : Loc} {σ : Sto} {Φ : NPr} {X : XPr}
theorem ev_globV {x : PySem.Str} {v : Value} {p : PV} {pos : Pos} (hm : nsIn c.K mainGlobals x = some (some v)) (hv : ∀ h, VR h p v) (h : Φ p σ) (hk : fm.env.scope.kind = .function := by rfl) (hx : fm.env.kindOf x = some .globalImplicit := by rfl)
    (hg : fm.env.globals = mainGlobals := by rfl) (hd : (x == ("__debug__" : PySem.Str)) = false := by decide +kernel) : E c fm (.Name x pos) loc σ Φ X := ⟨fun s R => by
  have T := R.cr.cok.T
  exact Calls.Name_function_global hk hx (Calls.loadGlobal_global (by rw [hg]; exact T.g.keeps R.cr.base) (mg_of R.cr.cok.X T.g hm) ⟨_, _, h, hv _, R, .refl ..⟩) hd⟩
theorem ev_nattr {y attr : PySem.Str} {p1 p2 : Pos} {x C dx : Addr} {fs : List (PySem.Str × PV)} {q : PV} (hm : (y, .k (.ref x)) ∈ loc) (hx : σ x = some (.inst C dx fs)) (K : AttrIn c.K C attr) (hl : fs.lookup attr = some q) (hh : q.handed = true) (h : Φ q σ)
    (hk : fm.env.scope.kind = .function := by rfl) (hd : (y == ("__debug__" : PySem.Str)) = false := by decide +kernel)
    (he : eval (.Attribute (.Name y p1) attr p2) fm.env = (do let o ← eval (.Name y p1) fm.env; standAt p2.atName; let r ← holding [o] (getAttr o attr true); letTemporaryGo (.Name y p1) o r; pure r) := by with_unfolding_all rfl) :
    E c fm (.Attribute (.Name y p1) attr p2) loc σ Φ X := ev_attr (ev_name hm ⟨_, _, _, ⟨_, _, rfl, .inl hx⟩, K, hl, hh, h⟩ hk hd) he
theorem ev_nmeth {y name : PySem.Str} {p1 apos pos : Pos} {args : List Expr} {x C dx f : Addr} {fs : List (PySem.Str × PV)} (hm : (y, .k (.ref x)) ∈ loc) (hx : σ x = some (.inst C dx fs)) (M : MethIn c.K C name f) (hh : fm.A.handled = none)
    (h : Es c fm loc X args σ (fun as σ2 => Call c fm.n (.ref f) (.k (.ref x) :: as) σ2 Φ (fun C fs τ => X C fs loc τ))) (hno : fs.lookup name = none := by rfl) (hs : args.all starless = true := by rfl)
    (hk : fm.env.scope.kind = .function := by rfl) (hd : (y == ("__debug__" : PySem.Str)) = false := by decide +kernel)
    (hbase : attributeBase (.Name y p1) name fm.env (eval (.Name y p1) fm.env) = eval (.Name y p1) fm.env := by with_unfolding_all rfl) (hline : (apos.endLine == pos.line) = true := by rfl) (hlen : (decide (args.length < 30)) = true := by rfl) :
    E c fm (.Call (.Attribute (.Name y p1) name apos) args [] pos) loc σ Φ X := ev_meth (ev_name hm ⟨_, _, _, _, _, rfl, hx, M, hno, h⟩ hk hd) hh hs hbase hline hlen
theorem ev_nnmeth {y z name : PySem.Str} {p1 p2 apos pos : Pos} {args : List Expr} {r x D dr C dx f : Addr} {gs fs : List (PySem.Str × PV)} (hm : (y, .k (.ref r)) ∈ loc) (hr : σ r = some (.inst D dr gs)) (K : AttrIn c.K D z) (hl : gs.lookup z = some (.k (.ref x))) (hx : σ x = some (.inst C dx fs))
    (M : MethIn c.K C name f) (hh : fm.A.handled = none)
    (h : Es c fm loc X args σ (fun as σ2 => Call c fm.n (.ref f) (.k (.ref x) :: as) σ2 Φ (fun C fs τ => X C fs loc τ))) (hno : fs.lookup name = none := by rfl) (hs : args.all starless = true := by rfl)
    (hk : fm.env.scope.kind = .function := by rfl) (hd : (y == ("__debug__" : PySem.Str)) = false := by decide +kernel)
    (he : eval (.Attribute (.Name y p1) z p2) fm.env = (do let o ← eval (.Name y p1) fm.env; standAt p2.atName; let r ← holding [o] (getAttr o z true); letTemporaryGo (.Name y p1) o r; pure r) := by with_unfolding_all rfl)
    (hbase : attributeBase (.Attribute (.Name y p1) z p2) name fm.env (eval (.Attribute (.Name y p1) z p2) fm.env) = eval (.Attribute (.Name y p1) z p2) fm.env := by with_unfolding_all rfl) (hline : (apos.endLine == pos.line) = true := by rfl) (hlen : (decide (args.length < 30)) = true := by rfl) :
    E c fm (.Call (.Attribute (.Attribute (.Name y p1) z p2) name apos) args [] pos) loc σ Φ X := ev_meth (ev_nattr hm hr K hl rfl ⟨_, _, _, _, _, rfl, hx, M, hno, h⟩ hk hd he) hh hs hbase hline hlen
end

theorem upd_upd (σ : Sto) (a : Addr) (o p : AO) : upd (upd σ a o) a p = upd σ a p := by
  funext x; unfold upd; by_cases h : x = a
  · rw [if_pos h, if_pos h]
  · rw [if_neg h, if_neg h, if_neg h]
theorem upd_self {σ : Sto} {a : Addr} {o : AO} (h : σ a = some o) : upd σ a o = σ := by
  funext x; unfold upd; by_cases e : x = a
  · rw [if_pos e, e, h]
  · rw [if_neg e]
theorem upd_comm (σ : Sto) {a b : Addr} (o p : AO) (h : a ≠ b) : upd (upd σ a o) b p = upd (upd σ b p) a o := by
  funext x; unfold upd; by_cases e : x = a
  · subst e; rw [if_neg h, if_pos rfl, if_pos rfl]
  · rw [if_neg e, if_neg e]
theorem sub_new {σ : Sto} {a : Addr} (o : AO) (h : σ a = none) : Sub σ (upd σ a o) := fun x p e => by
  unfold upd; rw [if_neg (fun q => by rw [q, h] at e; cases e)]; exact e
theorem sub_upd {σ τ : Sto} (h : Sub σ τ) (a : Addr) (o : AO) : Sub (upd σ a o) (upd τ a o) := fun x p e => by
  unfold upd at e ⊢; by_cases q : x = a
  · rw [if_pos q] at e ⊢; exact e
  · rw [if_neg q] at e ⊢; exact h x p e
theorem SetL.nx {x y : PySem.Str} {v u : PV} {r r' : Loc} (a : SetL x v r r') (h : y ≠ x := by decide +kernel) : SetL x v ((y, u) :: r) ((y, u) :: r') := .next h a
theorem SetL.hr {x : PySem.Str} {v u : PV} {r : Loc} (h : r.all (fun p => p.1 != x) = true := by kernel_rfl) : SetL x v ((x, u) :: r) ((x, v) :: r) := .here fun p hp => by
  have := List.all_eq_true.mp h p hp
  simpa using this
section
variable {α : Type _} {a b d e f g h : α} {r : List α}
theorem m0 : a ∈ a :: r := .head _
theorem m1 : b ∈ a :: b :: r := .tail _ m0
theorem m2 : d ∈ a :: b :: d :: r := .tail _ m1
theorem m3 : e ∈ a :: b :: d :: e :: r := .tail _ m2
theorem m4 : f ∈ a :: b :: d :: e :: f :: r := .tail _ m3
theorem m5 : g ∈ a :: b :: d :: e :: f :: g :: r := .tail _ m4
theorem m6 : h ∈ a :: b :: d :: e :: f :: g :: h :: r := .tail _ m5
end
end Mine
end B2
section B3
open PySem PySem.W PySem.Calls PyProof.Rows PySem.Challenge
set_option maxRecDepth 100000
set_option linter.unusedVariables false
namespace Mine

noncomputable abbrev curF (l : List Nat) (i : Nat) : List (PySem.Str × PV) := [("text", .str (T l)), ("at", .int i)]
noncomputable abbrev cuO (dx : Addr) (l : List Nat) (i : Nat) : AO := .inst 222 dx (curF l i)
noncomputable abbrev cu (σ : Sto) (x dx : Addr) (l : List Nat) (i : Nat) : Sto := upd σ x (cuO dx l i)
noncomputable def sgn (o : Option Nat) : List Nat := match o with | some k => [k] | none => []
theorem str_nil : PySem.Str.ofString "" = T [] := by kernel_rfl

section
variable {c : Cx} {n : Nat} {σ : Sto} {Φ : NPr} {X : CXPr} {x dx : Addr} {l : List Nat} {i : Nat}

theorem cur_done (P : PK c) (hx : σ x = some (cuO dx l i)) (hl : l.length < 2 ^ 20) (h : Φ (.k (.bool (decide (l.length ≤ i)))) σ) : CallC c (n + 1) (.ref 119) [.k (.ref x)] σ Φ X := by
  refine call_pl P.f_Cursor_is_done [("self", .k (.ref x))] (fun s vs kV doc pm an ct _ hv => ?_) (by kernel_rfl) (by kernel_rfl) fun L A' hL ff => ?_
  · obtain ⟨v, rfl, b⟩ := br1 (x := "self") hv
    exact ⟨_, .of_eq rfl, b⟩
  · refine ss_ret (ev_cmp ?_)
    refine ev_nattr (.head _) hx P.a_222_at rfl rfl ?_
    refine ev_call (ev_builtin P.b_len rfl ⟨_, rfl, ?_⟩) ff.handled
    refine ev_nattr (.head _) hx P.a_222_text rfl rfl ?_
    refine ⟨kB, c_len_str ?_ (cmp_ge ?_)⟩
    · rw [T_len]; omega
    · refine ⟨σ, .refl _, ?_⟩
      rw [T_len]
      exact (by simpa using h)

theorem cur_peekG (P : PK c) {a : Nat} {args : List PV} (hb : ∀ s vs kV doc pm an ct, c.K.In s.heap → VRs s.heap args vs → ∃ bs, BindsTo s (fnOf "peek" "Cursor.peek" (fnArgs (inSt 11 2)) (fnBody (inSt 11 2)) (fnScope (inSt 11 2)) (.ref 120) kV doc pm an (.ref 126) ct) ⟨vs, []⟩ bs ∧ BR s.heap [("self", .k (.ref x)), ("ahead", .int a)] bs)
    (hx : σ x = some (cuO dx l i)) (hl : l.length < 2 ^ 20) (h : Φ (.str (T (sgn l[i + a]?))) σ) : CallC c (n + 1) (.ref 127) args σ Φ X := by
  refine call_pl P.f_Cursor_peek [("self", .k (.ref x)), ("ahead", .int a)] hb (by kernel_rfl) (by kernel_rfl) fun L A' hL ff => ?_
  refine ss_let (ev_binop (ev_nattr m0 hx P.a_222_at rfl rfl (ev_name m1 (op_add ⟨_, .nx (.nx .nil), ?_⟩))))
  refine ss_if (b_cmp (ev_name m2 (ev_call (ev_builtin P.b_len rfl ⟨_, rfl, ev_nattr m0 hx P.a_222_text rfl rfl ⟨kB, c_len_str ?_ (cmp_lt ?_)⟩⟩) ff.handled)))
  · rw [T_len]; omega
  · rw [T_len]
    by_cases q : i + a < l.length
    · rw [decide_eq_true (show (i : Int) + a < l.length by omega)]
      refine ss_ret (ev_item (ev_nattr m0 hx P.a_222_text rfl rfl (ev_name m2 (it_str (x := l[i + a]) (by omega) (by omega) ?_ ?_))))
      · rw [show ((i : Int) + a).toNat = i + a by omega, List.getElem?_eq_getElem q]
      · rw [List.getElem?_eq_getElem q] at h; exact ⟨σ, .refl _, h⟩
    · rw [decide_eq_false (show ¬ (i : Int) + a < l.length by omega)]
      refine ss_nil (ss_ret (ev_str ?_))
      rw [List.getElem?_eq_none (Nat.le_of_not_lt q)] at h
      exact ⟨σ, .refl _, h⟩
theorem cur_peek0 (P : PK c) (hx : σ x = some (cuO dx l i)) (hl : l.length < 2 ^ 20) (h : Φ (.str (T (sgn l[i]?))) σ) : CallC c (n + 1) (.ref 127) [.k (.ref x)] σ Φ X := by
  obtain ⟨o, m, t, e, d⟩ := P.d_120
  refine cur_peekG P (a := 0) (fun s vs kV doc pm an ct hK hv => ?_) hx hl h
  obtain ⟨v, rfl, b⟩ := br1 (x := "self") hv
  cases b with
  | cons b1 b2 => exact ⟨_, .of_defaults rfl (hK _ _ e) d rfl rfl, .cons b1 (.cons (.int 0 t) .nil)⟩
theorem cur_peek1 (P : PK c) (hx : σ x = some (cuO dx l i)) (hl : l.length < 2 ^ 20) (h : Φ (.str (T (sgn l[i + 1]?))) σ) : CallC c (n + 1) (.ref 127) [.k (.ref x), .int 1] σ Φ X := by
  obtain ⟨o, m, t, e, d⟩ := P.d_120
  refine cur_peekG P (a := 1) (fun s vs kV doc pm an ct hK hv => ?_) hx hl h
  obtain ⟨v, u, rfl, b⟩ := br2 (x := "self") (y := "ahead") hv
  exact ⟨_, .of_defaults rfl (hK _ _ e) d rfl rfl, b⟩

theorem cur_starts (P : PK c) {w : List Nat} (hx : σ x = some (cuO dx l i)) (hl : l.length < 2 ^ 20) (hi : i ≤ l.length) (hw : w.length < 2 ^ 20) (h : Φ (.k (.bool (((l.drop i).take w.length) == w))) σ) : CallC c (n + 1) (.ref 134) [.k (.ref x), .str (T w)] σ Φ X := by
  refine call_pl P.f_Cursor_starts [("self", .k (.ref x)), ("word", .str (T w))] (fun s vs kV doc pm an ct _ hv => ?_) (by kernel_rfl) (by kernel_rfl) fun L A' hL ff => ?_
  · obtain ⟨v, u, rfl, b⟩ := br2 (x := "self") (y := "word") hv
    exact ⟨_, .of_eq rfl, b⟩
  · refine ss_ret (ev_cmp (ev_slice (ev_nattr m0 hx P.a_222_text rfl rfl (ev_nattr m0 hx P.a_222_at rfl rfl ⟨i, rfl, ?_⟩))))
    refine ev_binop (ev_nattr m0 hx P.a_222_at rfl rfl (ev_call (ev_builtin P.b_len rfl ⟨_, rfl, ev_name m1 ⟨kB, c_len_str ?_ (op_add ⟨_, rfl, ?_⟩)⟩⟩) ff.handled))
    · rw [T_len]; omega
    · rw [T_len]
      refine sl_str (y := (l.drop i).take w.length) ?_ ?_ (ev_name m1 (cmp_eqs ⟨σ, .refl _, ?_⟩))
      · have := sliceT (l := l) (i := i) (j := i + w.length) (Nat.le_add_right _ _) hi
        rw [Nat.add_sub_cancel_left] at this
        exact this
      · rw [List.length_take]; exact Nat.le_trans (Nat.min_le_left _ _) (by unfold sizeLine; omega)
      · rw [T_beq]; exact h

theorem cur_take (P : PK c) {k : Nat} (hx : σ x = some (cuO dx l i)) (hl : l.length < 2 ^ 20) (hk : l[i]? = some k) (h : Φ (.str (T [k])) (cu σ x dx l (i + 1))) : CallC c (n + 2) (.ref 141) [.k (.ref x)] σ Φ X := by
  have hi : i < l.length := by
    rcases Nat.lt_or_ge i l.length with q | q
    · exact q
    · rw [List.getElem?_eq_none q] at hk; cases hk
  refine call_pl P.f_Cursor_take [("self", .k (.ref x))] (fun s vs kV doc pm an ct _ hv => ?_) (by kernel_rfl) (by kernel_rfl) fun L A' hL ff => ?_
  · obtain ⟨v, rfl, b⟩ := br1 (x := "self") hv
    exact ⟨_, .of_eq rfl, b⟩
  · refine ss_if (b_val (ev_nmeth m0 hx P.m_Cursor_is_done ff.handled (cur_done P hx hl ⟨_, rfl, ?_⟩).call))
    rw [decide_eq_false (Nat.not_le.mpr hi)]
    refine ss_nil (ss_let (ev_item (ev_nattr m0 hx P.a_222_text rfl rfl (ev_nattr m0 hx P.a_222_at rfl rfl (it_str (x := k) (by omega) (by omega) (by exact hk) ⟨_, .nx .nil, ?_⟩)))))
    refine ss_setattr (ev_binop (ev_nattr m0 hx P.a_222_at rfl rfl (ev_int (op_add (ev_name m0 ⟨_, rfl, .inst hx P.s_222_at (of_decide_eq_true rfl) ?_⟩)))))
    exact ss_ret (ev_name m1 ⟨_, .refl _, h⟩)

theorem cur_skip (P : PK c) {w : List Nat} (hx : σ x = some (cuO dx l i)) (hl : l.length < 2 ^ 20) (hi : i ≤ l.length) (hw : w.length < 2 ^ 20)
    (h : match ((l.drop i).take w.length) == w with | true => Φ (.k (.bool true)) (cu σ x dx l (i + w.length)) | false => Φ (.k (.bool false)) σ) : CallC c (n + 2) (.ref 148) [.k (.ref x), .str (T w)] σ Φ X := by
  refine call_pl P.f_Cursor_skip [("self", .k (.ref x)), ("word", .str (T w))] (fun s vs kV doc pm an ct _ hv => ?_) (by kernel_rfl) (by kernel_rfl) fun L A' hL ff => ?_
  · obtain ⟨v, u, rfl, b⟩ := br2 (x := "self") (y := "word") hv
    exact ⟨_, .of_eq rfl, b⟩
  · refine ss_if (b_not (b_val (ev_nmeth m0 hx P.m_Cursor_starts ff.handled (ev_name m1 (cur_starts P hx hl hi hw ⟨_, rfl, ?_⟩).call))))
    cases q : ((l.drop i).take w.length) == w with
    | false =>
      rw [q] at h
      exact ss_ret (ev_bool ⟨_, .refl _, h⟩)
    | true =>
      rw [q] at h
      refine ss_nil (ss_setattr (ev_binop (ev_nattr m0 hx P.a_222_at rfl rfl (ev_call (ev_builtin P.b_len rfl ⟨_, rfl, ev_name m1 ⟨kB, c_len_str ?_ (op_add (ev_name m0 ⟨_, rfl, .inst hx P.s_222_at (of_decide_eq_true rfl) ?_⟩))⟩⟩) ff.handled))))
      · rw [T_len]; omega
      · rw [T_len]
        exact ss_ret (ev_bool ⟨_, .refl _, h⟩)
end
end Mine
end B3
section B4
open PySem PySem.W PySem.Calls PyProof.Rows PySem.Challenge
set_option maxRecDepth 100000
set_option linter.unusedVariables false
namespace Mine

theorem found_T (w : List Nat) (k : Nat) : (!(Builtin.Str.occurrences (T w) (T [k]) 0 (T w).length 1).isEmpty) = decide (k ∈ w) := StrLaws.found_one (T w) k
theorem drop_get {l r : List Nat} {i m : Nat} (D : l.drop i = r) : l[i + m]? = r[m]? := by rw [← D, List.getElem?_drop]
section
variable {c : Cx} {n : Nat} {σ : Sto} {Φ : NPr} {X : CXPr} {x dx : Addr} {l : List Nat} {i : Nat}

inductive TakeI (σ : Sto) (x dx : Addr) (l ds w : List Nat) (i : Nat) (k : Nat) (lo : Loc) (τ : Sto) : Prop
  | mk (m : Nat) (h0 : m ≤ ds.length) (h1 : k = ds.length - m) (h2 : lo = ([("self", .k (.ref x)), ("signs", .str (T w)), ("begun", .int i)] : Loc)) (h3 : τ = cu σ x dx l (i + m))
theorem cur_take_while (P : PK c) {w ds r : List Nat} (hx : σ x = some (cuO dx l i)) (hl : l.length < 2 ^ 20) (hi : i ≤ l.length) (D : l.drop i = ds ++ r) (hds : ∀ k ∈ ds, k ∈ w) (hr : ∀ k, r.head? = some k → k ∉ w)
    (h : Φ (.str (T ds)) (cu σ x dx l (i + ds.length))) : CallC c (n + 1) (.ref 155) [.k (.ref x), .str (T w)] σ Φ X := by
  have hlen : i + (ds.length + r.length) = l.length := by
    have := congrArg List.length D
    rw [List.length_drop, List.length_append] at this
    omega
  refine call_pl P.f_Cursor_take_while [("self", .k (.ref x)), ("signs", .str (T w))] (fun s vs kV doc pm an ct _ hv => ?_) (by kernel_rfl) (by kernel_rfl) fun L A' hL ff => ?_
  · obtain ⟨v, u, rfl, b⟩ := br2 (x := "self") (y := "signs") hv
    exact ⟨_, .of_eq rfl, b⟩
  · refine ss_let (ev_nattr m0 hx P.a_222_at rfl rfl ⟨_, .nx (.nx .nil), ?_⟩)
    refine ss_while ff (TakeI σ x dx l ds w i) ds.length ⟨0, Nat.zero_le _, rfl, rfl, (upd_self hx).symm⟩ ?_
    rintro k lo τ ⟨m, hm, rfl, rfl, rfl⟩
    have hy : cu σ x dx l (i + m) x = some (cuO dx l (i + m)) := upd_same _ _ _
    refine b_bool (b_cmp (ev_nattr m0 hy P.a_222_at rfl rfl (ev_call (ev_builtin P.b_len rfl ⟨_, rfl, ev_nattr m0 hy P.a_222_text rfl rfl ⟨kB, c_len_str ?_ (cmp_lt ?_)⟩⟩) ff.handled)))
    · rw [T_len]; omega
    rw [T_len]
    have stop : SS c (fm0 (fnScope (inSt 11 6)) L "Cursor.take_while" 155 (.ref 154) A' n) ((fnBody (inSt 11 6)).drop 2) [("self", .k (.ref x)), ("signs", .str (T w)), ("begun", .int i)] (cu σ x dx l (i + ds.length)) (UpN Φ) (UpR Φ) (UpX X) := by
      have hz : cu σ x dx l (i + ds.length) x = some (cuO dx l (i + ds.length)) := upd_same _ _ _
      refine ss_ret (ev_slice (ev_nattr m0 hz P.a_222_text rfl rfl (ev_name m2 ⟨i, rfl, ev_nattr m0 hz P.a_222_at rfl rfl ⟨((i + ds.length : Nat) : Int), rfl, sl_str (y := ds) ?_ ?_ ⟨_, .refl _, h⟩⟩⟩)))
      · rw [sliceT (Nat.le_add_right _ _) hi, D, Nat.add_sub_cancel_left, List.take_left']; rfl
      · unfold sizeLine; omega
    by_cases q : m = ds.length
    · subst q
      cases r with
      | nil =>
        rw [decide_eq_false (by simp at hlen; omega)]
        exact stop
      | cons k r =>
        rw [decide_eq_true (by simp at hlen; omega)]
        have hk : l[i + ds.length]? = some k := by rw [drop_get D, List.getElem?_append_right (Nat.le_refl _), Nat.sub_self]; rfl
        refine b_cmp (ev_item (ev_nattr m0 hy P.a_222_text rfl rfl (ev_nattr m0 hy P.a_222_at rfl rfl (it_str (x := k) (by omega) (by omega) (by exact hk) (ev_name m1 (cmp_in ?_))))))
        rw [found_T, decide_eq_false (hr k rfl)]
        exact stop
    · have hm' : m < ds.length := by omega
      have hk : l[i + m]? = some ds[m] := by rw [drop_get D, List.getElem?_append_left hm', List.getElem?_eq_getElem hm']
      rw [decide_eq_true (by omega)]
      refine b_cmp (ev_item (ev_nattr m0 hy P.a_222_text rfl rfl (ev_nattr m0 hy P.a_222_at rfl rfl (it_str (x := ds[m]) (by omega) (by omega) (by exact hk) (ev_name m1 (cmp_in ?_))))))
      rw [found_T, decide_eq_true (hds _ (List.getElem_mem hm'))]
      refine ss_setattr (ev_binop (ev_nattr m0 hy P.a_222_at rfl rfl (ev_int (op_add (ev_name m0 ⟨_, rfl, .inst hy P.s_222_at (of_decide_eq_true rfl) ?_⟩)))))
      refine ss_nil ⟨ds.length - (m + 1), _, _, by omega, fun p hp => hp, .refl _, m + 1, hm', rfl, rfl, ?_⟩
      exact upd_upd _ _ _ _

end
end Mine
end B4
section B5
open PySem PySem.W PySem.Calls PyProof.Rows PySem.Challenge
set_option maxRecDepth 100000
set_option linter.unusedVariables false
namespace Mine

noncomputable abbrev posF (off ln cl : Int) : List (PySem.Str × PV) := [("offset", .int off), ("line", .int ln), ("column", .int cl)]
noncomputable abbrev posO (dq : Addr) (off ln cl : Int) : AO := .inst 46 dq (posF off ln cl)

section
variable {c : Cx} {n : Nat} {σ : Sto} {Φ : NPr} {X : CXPr} {x dx : Addr} {l : List Nat} {i : Nat}

theorem pos_init (P : PK c) {a b d : Int} (hx : σ x = some (.inst 46 dx [])) (h : Φ (.k .none) (upd σ x (posO dx a b d))) : CallC c (n + 1) (.ref 36) [.k (.ref x), .int a, .int b, .int d] σ Φ X := by
  refine call_pl P.f_Position_init [("self", .k (.ref x)), ("offset", .int a), ("line", .int b), ("column", .int d)] (fun s vs kV doc pm an ct _ hv => ?_) (by kernel_rfl) (by kernel_rfl) fun L A' hL ff => ?_
  · obtain ⟨v, u, w, t, rfl, b⟩ := br4 (x := "self") (y := "offset") (z := "line") (q := "column") hv
    exact ⟨_, .of_eq rfl, b⟩
  · refine ss_setattr (ev_name m1 (ev_name m0 ⟨_, rfl, .inst hx P.s_46_offset (of_decide_eq_true rfl) ?_⟩))
    refine ss_setattr (ev_name m2 (ev_name m0 ⟨_, rfl, .inst (upd_same _ _ _) P.s_46_line (of_decide_eq_true rfl) ?_⟩))
    refine ss_setattr (ev_name m3 (ev_name m0 ⟨_, rfl, .inst (upd_same _ _ _) P.s_46_column (of_decide_eq_true rfl) ?_⟩))
    rw [upd_upd, upd_upd]
    exact ss_nil ⟨_, .refl _, h⟩

inductive PosI (σ : Sto) (l : List Nat) (off : Int) (at' : Nat) (k : Nat) (lo : Loc) (τ : Sto) : Prop
  | mk (R : Addr) (a : Int) (b : Int) (h0 : σ R = none) (h1 : lo = ([("text", .str (T l)), ("offset", .int off), ("at", .int at'), ("line", .int a), ("begun", .int b)] : Loc)) (h2 : τ = upd σ R (.range at'))
theorem pos_of (P : PK c) {off : Nat} (hl : l.length < 2 ^ 20) (h : ∀ q dq ln cl, σ q = none → Φ (.k (.ref q)) (upd σ q (posO dq (min off l.length : Nat) ln cl))) : CallC c (n + 3) (.ref 57) [.str (T l), .int off] σ Φ X := by
  refine call_pl P.f_position_of [("text", .str (T l)), ("offset", .int off)] (fun s vs kV doc pm an ct _ hv => ?_) (by kernel_rfl) (by kernel_rfl) fun L A' hL ff => ?_
  · obtain ⟨v, u, rfl, b⟩ := br2 (x := "text") (y := "offset") hv
    exact ⟨_, .of_eq rfl, b⟩
  · refine ss_let (ev_call (ev_builtin P.b_min rfl ⟨_, rfl, ev_call (ev_builtin P.b_max rfl ⟨_, rfl, ev_name m1 (ev_int ⟨kB, c_max ?_⟩)⟩) ff.handled⟩) ff.handled)
    refine ev_call (ev_builtin P.b_len rfl ⟨_, rfl, ev_name m0 ⟨kB, c_len_str ?_ ⟨kB, c_min ⟨_, .nx (.nx .nil), ?_⟩⟩⟩⟩) ff.handled
    · rw [T_len]; omega
    rw [T_len, show (if ((l.length : Nat) : Int) < (if (0 : Int) > (off : Int) then 0 else (off : Int)) then (l.length : Int) else (if (0 : Int) > (off : Int) then 0 else (off : Int))) = ((min off l.length : Nat) : Int) by split <;> split <;> omega]
    have hm : min off l.length ≤ l.length := Nat.min_le_right _ _
    generalize hg : min off l.length = at' at h hm
    refine ss_let (ev_int ⟨_, .nx (.nx (.nx .nil)), ss_let (ev_int ⟨_, .nx (.nx (.nx (.nx .nil))), ?_⟩)⟩)
    refine ss_for ff (PosI σ l off at') ?_
    refine ev_call (ev_builtin P.b_range rfl ⟨_, rfl, ev_name m2 ⟨kT, c_range fun R hR => ?_⟩⟩) ff.handled
    refine ⟨_, _, _, src_range (upd_same _ _ _) (by omega) (by omega), trivial, ⟨R, 1, 0, hR, rfl, rfl⟩, fun _ _ _ _ => trivial, ?_, ?_⟩
    · rintro k q lo τ hq ⟨R, a, b, hR, rfl, rfl⟩
      obtain ⟨rfl, hk⟩ := rangePV_get hq
      refine as_name (.nx (.nx (.nx (.nx (.nx .nil))))) ?_
      have hlt : k < l.length := by omega
      refine ss_if (b_cmp (ev_item (ev_name m0 (ev_name m5 (it_str (x := l[k]) (by omega) (by omega) (List.getElem?_eq_getElem hlt) (ev_str (cmp_eqs ?_)))))))
      cases (T [l[k]] == PySem.Str.ofString "\n")
      · refine ss_nil (ss_nil ⟨_, _, fun p hp => List.mem_of_mem_take (i := 5) hp, .refl _, R, a, b, hR, rfl, rfl⟩)
      · refine ss_let (ev_binop (ev_name m3 (ev_int (op_add ⟨_, .nx (.nx (.nx .hr)), ?_⟩))))
        refine ss_let (ev_binop (ev_name m5 (ev_int (op_add ⟨_, .nx (.nx (.nx (.nx .hr))), ?_⟩))))
        exact ss_nil (ss_nil ⟨_, _, fun p hp => List.mem_of_mem_take (i := 5) hp, .refl _, R, _, _, hR, rfl, rfl⟩)
    · rintro lo τ ⟨R, a, b, hR, rfl, rfl⟩
      refine ss_forget (fun p hp => hp) (sub_new _ hR) (ss_ret (ev_call (ev_glob P.g_Position ⟨_, rfl, ev_name m2 (ev_name m3 (ev_binop (ev_binop (ev_name m2 (ev_name m4 (op_sub (ev_int (op_add ⟨kK P.k_46, ?_⟩))))))))⟩) ff.handled))
      refine (call_make P.mk_46 P.in_46 P.if_46 fun q dq hq => pos_init P (upd_same _ _ _) ⟨rfl, ?_⟩).call
      rw [upd_upd]
      exact ⟨_, .refl _, h q dq _ _ hq⟩

theorem cur_position (P : PK c) (hx : σ x = some (cuO dx l i)) (hl : l.length < 2 ^ 20) (h : ∀ q dq ln cl, σ q = none → Φ (.k (.ref q)) (upd σ q (posO dq (min i l.length : Nat) ln cl))) : CallC c (n + 4) (.ref 191) [.k (.ref x)] σ Φ X := by
  refine call_pl P.f_Cursor_position [("self", .k (.ref x))] (fun s vs kV doc pm an ct _ hv => ?_) (by kernel_rfl) (by kernel_rfl) fun L A' hL ff => ?_
  · obtain ⟨v, rfl, b⟩ := br1 (x := "self") hv
    exact ⟨_, .of_eq rfl, b⟩
  · refine ss_ret (ev_call (ev_glob P.g_position_of ⟨_, rfl, ev_nattr m0 hx P.a_222_text rfl rfl (ev_nattr m0 hx P.a_222_at rfl rfl ⟨kK P.k_position_of, (pos_of P hl fun q dq ln cl hq => ⟨_, .refl _, h q dq ln cl hq⟩).call⟩)⟩) ff.handled)

theorem cur_position_at (P : PK c) {off : Nat} (hx : σ x = some (cuO dx l i)) (hl : l.length < 2 ^ 20) (h : ∀ q dq ln cl, σ q = none → Φ (.k (.ref q)) (upd σ q (posO dq (min off l.length : Nat) ln cl))) : CallC c (n + 4) (.ref 198) [.k (.ref x), .int off] σ Φ X := by
  refine call_pl P.f_Cursor_position_at [("self", .k (.ref x)), ("offset", .int off)] (fun s vs kV doc pm an ct _ hv => ?_) (by kernel_rfl) (by kernel_rfl) fun L A' hL ff => ?_
  · obtain ⟨v, u, rfl, b⟩ := br2 (x := "self") (y := "offset") hv
    exact ⟨_, .of_eq rfl, b⟩
  · refine ss_ret (ev_call (ev_glob P.g_position_of ⟨_, rfl, ev_nattr m0 hx P.a_222_text rfl rfl (ev_name m1 ⟨kK P.k_position_of, (pos_of P hl fun q dq ln cl hq => ⟨_, .refl _, h q dq ln cl hq⟩).call⟩)⟩) ff.handled)

theorem cur_init (P : PK c) (hx : σ x = some (.inst 222 dx [])) (h : Φ (.k .none) (upd σ x (cuO dx l 0))) : CallC c (n + 1) (.ref 112) [.k (.ref x), .str (T l)] σ Φ X := by
  obtain ⟨o, m, t, e, d⟩ := P.d_105
  refine call_pl P.f_Cursor_init [("self", .k (.ref x)), ("text", .str (T l)), ("at", .int 0)] (fun s vs kV doc pm an ct hK hv => ?_) (by kernel_rfl) (by kernel_rfl) fun L A' hL ff => ?_
  · obtain ⟨v, u, rfl, b⟩ := br2 (x := "self") (y := "text") hv
    cases b with
    | cons b1 b2 => cases b2 with
      | cons b2 b3 => exact ⟨_, .of_defaults rfl (hK _ _ e) d rfl rfl, .cons b1 (.cons b2 (.cons (.int 0 t) .nil))⟩
  · refine ss_setattr (ev_name m1 (ev_name m0 ⟨_, rfl, .inst hx P.s_222_text (of_decide_eq_true rfl) ?_⟩))
    refine ss_setattr (ev_name m2 (ev_name m0 ⟨_, rfl, .inst (upd_same _ _ _) P.s_222_at (of_decide_eq_true rfl) ?_⟩))
    rw [upd_upd]
    exact ss_nil ⟨_, .refl _, h⟩
end
end Mine
end B5
section B6
open PySem PySem.W PySem.Calls PyProof.Rows PySem.Challenge
set_option maxRecDepth 100000
set_option linter.unusedVariables false
namespace Mine

noncomputable def escV : Nat → Option Nat
  | 110 => some 10
  | 116 => some 9
  | 34 => some 34
  | 92 => some 92
  | _ => none
inductive QR : List Nat → Option (List Nat × List Nat) → Prop
  | done : QR [] none
  | close (r : List Nat) : QR (34 :: r) (some ([], r))
  | escx : QR [92] none
  | esc {k v : Nat} {r : List Nat} {res : Option (List Nat × List Nat)} : escV k = some v → QR r res → QR (92 :: k :: r) (res.map fun p => (v :: p.1, p.2))
  | sign {k : Nat} {r : List Nat} {res : Option (List Nat × List Nat)} : k ≠ 34 → k ≠ 92 → QR r res → QR (k :: r) (res.map fun p => (k :: p.1, p.2))

section
variable {c : Cx} {n : Nat} {σ : Sto} {Φ : NPr} {X : CXPr} {x dx : Addr} {l : List Nat} {i : Nat}

theorem T1_ne (k : Nat) : (T [k] == PySem.Str.ofString "") = false := by rw [str_nil, T_beq]; rfl

theorem cur_escape0 (P : PK c) (hx : σ x = some (cuO dx l i)) (hl : l.length < 2 ^ 20) (hi : l[i]? = none) (h : Φ (.str (T [])) σ) : CallC c (n + 3) (.ref 212) [.k (.ref x)] σ Φ X := by
  refine call_pl P.f_Cursor_escape [("self", .k (.ref x))] (fun s vs kV doc pm an ct _ hv => ?_) (by kernel_rfl) (by kernel_rfl) fun L A' hL ff => ?_
  · obtain ⟨v, rfl, b⟩ := br1 (x := "self") hv
    exact ⟨_, .of_eq rfl, b⟩
  · refine ss_let (ev_nmeth m0 hx P.m_Cursor_peek ff.handled (cur_peek0 P hx hl ⟨_, .nx .nil, ?_⟩).call)
    rw [hi]
    refine ss_if (b_cmp (ev_name m1 (ev_str (cmp_eqs ?_))))
    rw [show (T (sgn none) == PySem.Str.ofString "") = true by rw [str_nil]; exact (T_beq [] []).trans rfl]
    refine ss_ret (ev_str ⟨σ, .refl _, ?_⟩)
    rw [str_nil]; exact h

theorem cur_escape1 (P : PK c) {k v : Nat} (hx : σ x = some (cuO dx l i)) (hl : l.length < 2 ^ 20) (hk : l[i]? = some k) (hv : escV k = some v) (h : Φ (.str (T [v])) (cu σ x dx l (i + 1))) : CallC c (n + 3) (.ref 212) [.k (.ref x)] σ Φ X := by
  refine call_pl P.f_Cursor_escape [("self", .k (.ref x))] (fun s vs kV doc pm an ct _ hv => ?_) (by kernel_rfl) (by kernel_rfl) fun L A' hL ff => ?_
  · obtain ⟨v, rfl, b⟩ := br1 (x := "self") hv
    exact ⟨_, .of_eq rfl, b⟩
  · refine ss_let (ev_nmeth m0 hx P.m_Cursor_peek ff.handled (cur_peek0 P hx hl ⟨_, .nx .nil, ?_⟩).call)
    rw [hk]
    refine ss_if (b_cmp (ev_name m1 (ev_str (cmp_eqs ?_))))
    rw [show (T (sgn (some k)) == PySem.Str.ofString "") = false from T1_ne k]
    refine ss_nil (ss_if (b_cmp (ev_name m1 (ev_glob P.g_PLAIN_ESCAPES ?_))))
    have hc : (k = 110 ∧ v = 10) ∨ (k = 116 ∧ v = 9) ∨ (k = 34 ∧ v = 34) ∨ (k = 92 ∧ v = 92) := by
      unfold escV at hv; split at hv <;> simp_all
    obtain ⟨to, eo⟩ := P.g_OCTAL_SIGNS
    rcases hc with ⟨rfl, rfl⟩ | ⟨rfl, rfl⟩ | ⟨rfl, rfl⟩ | ⟨rfl, rfl⟩
    · obtain ⟨t, e⟩ := P.esc_n
      rw [show PySem.Str.ofString "n" = T [110] by kernel_rfl] at e
      refine cmp_indict P.dict e ?_
      refine ss_expr (ev_nmeth m0 hx P.m_Cursor_take ff.handled (cur_take P hx hl hk ?_).call)
      exact ss_ret (ev_call (ev_builtin P.b_chr rfl ⟨_, rfl, ev_item (ev_glob P.g_PLAIN_ESCAPES (ev_name m1 (it_dict P.dict e (fun _ => .int 10 t) ⟨kB, c_chr (k := 10) (by decide) ⟨_, .refl _, h⟩⟩)))⟩) ff.handled)
    · obtain ⟨t, e⟩ := P.esc_t
      rw [show PySem.Str.ofString "t" = T [116] by kernel_rfl] at e
      refine cmp_indict P.dict e ?_
      refine ss_expr (ev_nmeth m0 hx P.m_Cursor_take ff.handled (cur_take P hx hl hk ?_).call)
      exact ss_ret (ev_call (ev_builtin P.b_chr rfl ⟨_, rfl, ev_item (ev_glob P.g_PLAIN_ESCAPES (ev_name m1 (it_dict P.dict e (fun _ => .int 9 t) ⟨kB, c_chr (k := 9) (by decide) ⟨_, .refl _, h⟩⟩)))⟩) ff.handled)
    · have e := P.esc_qt
      rw [show PySem.Str.ofString "\"" = T [34] by kernel_rfl] at e
      refine cmp_indict P.dict e ?_
      refine ss_nil (ss_if (b_cmp (ev_name m1 (ev_globV eo (fun _ => .str _ to) (cmp_in ?_)))))
      rw [show PySem.Str.ofString "01234567" = T [48, 49, 50, 51, 52, 53, 54, 55] by kernel_rfl]
      rw [show (!(Builtin.Str.occurrences (T [48, 49, 50, 51, 52, 53, 54, 55]) (T (sgn (some 34))) 0 (T [48, 49, 50, 51, 52, 53, 54, 55]).length 1).isEmpty) = false from (found_T _ 34).trans (by decide)]
      refine ss_nil (ss_if (b_bool (b_cmp (ev_name m1 (ev_str (cmp_eqs ?_))))))
      rw [show (T (sgn (some 34)) == PySem.Str.ofString "x") = false by kernel_rfl]
      exact ss_nil (ss_ret (ev_nmeth m0 hx P.m_Cursor_take ff.handled (cur_take P hx hl hk ⟨_, .refl _, h⟩).call))
    · have e := P.esc_bs
      rw [show PySem.Str.ofString "\\" = T [92] by kernel_rfl] at e
      refine cmp_indict P.dict e ?_
      refine ss_nil (ss_if (b_cmp (ev_name m1 (ev_globV eo (fun _ => .str _ to) (cmp_in ?_)))))
      rw [show PySem.Str.ofString "01234567" = T [48, 49, 50, 51, 52, 53, 54, 55] by kernel_rfl]
      rw [show (!(Builtin.Str.occurrences (T [48, 49, 50, 51, 52, 53, 54, 55]) (T (sgn (some 92))) 0 (T [48, 49, 50, 51, 52, 53, 54, 55]).length 1).isEmpty) = false from (found_T _ 92).trans (by decide)]
      refine ss_nil (ss_if (b_bool (b_cmp (ev_name m1 (ev_str (cmp_eqs ?_))))))
      rw [show (T (sgn (some 92)) == PySem.Str.ofString "x") = false by kernel_rfl]
      exact ss_nil (ss_ret (ev_nmeth m0 hx P.m_Cursor_take ff.handled (cur_take P hx hl hk ⟨_, .refl _, h⟩).call))

noncomputable def jn (sep : List Nat) : List (List Nat) → List Nat
  | [] => []
  | [x] => x
  | x :: y :: r => x ++ sep ++ jn sep (y :: r)
theorem sjoin_T (sep : List Nat) : ∀ ts : List (List Nat), PySem.Str.join (T sep) (ts.map T) = T (jn sep ts)
  | [] => rfl
  | [x] => rfl
  | x :: y :: r => by
    have ih := sjoin_T sep (y :: r)
    show T x ++ T sep ++ PySem.Str.join (T sep) ((y :: r).map T) = _
    rw [ih, T_append, T_append]; rfl
theorem join_T (sep : List Nat) (ts : List (List Nat)) : Txt.join (T sep) (ts.map T) = T (jn sep ts) := by
  show Builtin.Str.glued _ _ = _
  rw [StrLaws.glued_eq_join]
  exact sjoin_T sep ts
theorem jn_signs : ∀ acc : List Nat, jn [] (acc.map fun k => [k]) = acc
  | [] => rfl
  | [x] => rfl
  | x :: y :: r => by
    have ih := jn_signs (y :: r)
    show [x] ++ [] ++ jn [] ((y :: r).map fun k => [k]) = _
    rw [ih]; rfl
theorem join_signs (acc : List Nat) : Txt.join (T []) (acc.map fun k => T [k]) = T acc := by
  have := join_T [] (acc.map fun k => [k])
  rw [jn_signs, List.map_map] at this
  exact this
theorem sum_signs (acc : List Nat) : ((acc.map fun k => T [k]).map (·.length)).sum = acc.length := by
  induction acc with
  | nil => rfl
  | cons a r ih => rw [List.map_cons, List.map_cons, List.sum_cons, ih, List.length_cons]; show 1 + _ = _; omega

theorem cu_list {S : Addr} (A B : AO) (h : S ≠ x) (j : Nat) : upd (cu (upd σ S A) x dx l j) S B = cu (upd σ S B) x dx l j := by
  unfold cu
  rw [upd_comm _ _ _ (Ne.symm h), upd_upd]

inductive QuoI (σ : Sto) (x dx S : Addr) (l : List Nat) (i : Nat) (res : Option (List Nat × List Nat)) (k : Nat) (lo : Loc) (τ : Sto) : Prop
  | mk (j : Nat) (acc : List Nat) (r : List Nat) (res' : Option (List Nat × List Nat)) (h0 : k = r.length) (h1 : l.drop j = r) (h2 : i ≤ j) (h3 : j ≤ l.length) (h4 : acc.length + r.length ≤ l.length) (h5 : QR r res') (h6 : res = res'.map (fun p => (acc ++ p.1, p.2))) (h7 : lo = ([("self", .k (.ref x)), ("end", .str (T [34])), ("signs", .k (.ref S))] : Loc)) (h8 : τ = cu (upd σ S (.list ((acc.map fun k => T [k]).map .str))) x dx l j)
theorem cur_quoted (P : PK c) {res : Option (List Nat × List Nat)} (hx : σ x = some (cuO dx l i)) (hl : l.length < 2 ^ 20) (hi : i ≤ l.length) (hq : QR (l.drop i) res)
    (hs : ∀ s t j, res = some (s, t) → l.drop j = t → i ≤ j → j ≤ l.length → Φ (.str (T s)) (cu σ x dx l j)) (hn : res = none → Φ (.k .none) (cu σ x dx l l.length)) : CallC c (n + 4) (.ref 219) [.k (.ref x), .str (T [34])] σ Φ X := by
  refine call_pl P.f_Cursor_quoted [("self", .k (.ref x)), ("end", .str (T [34]))] (fun s vs kV doc pm an ct _ hv => ?_) (by kernel_rfl) (by kernel_rfl) fun L A' hL ff => ?_
  · obtain ⟨v, u, rfl, b⟩ := br2 (x := "self") (y := "end") hv
    exact ⟨_, .of_eq rfl, b⟩
  · refine ss_let (ev_list (fun S hS => ⟨_, .nx (.nx .nil), ?_⟩))
    have hSx : S ≠ x := fun q => by rw [q, hx] at hS; cases hS
    refine ss_while ff (QuoI σ x dx S l i res) _ ⟨i, [], _, res, rfl, rfl, Nat.le_refl _, hi, ?_, hq, ?_, rfl, ?_⟩ ?_
    · rw [List.length_drop]; simp
    · cases res <;> rfl
    · exact (upd_self (by rw [upd_ne _ _ (Ne.symm hSx)]; exact hx)).symm
    rintro k lo τ ⟨j, acc, r, res', rfl, D, hij, hj, hz, hQ, hres, rfl, rfl⟩
    have hS' : ∀ j', cu (upd σ S (.list ((acc.map fun k => T [k]).map .str))) x dx l j' S = some (.list ((acc.map fun k => T [k]).map .str)) := fun j' => by
      unfold cu; rw [upd_ne _ _ hSx, upd_same]
    have hy : ∀ j', cu (upd σ S (.list ((acc.map fun k => T [k]).map .str))) x dx l j' x = some (cuO dx l j') := fun j' => upd_same _ _ _
    have sub : ∀ j', Sub (cu σ x dx l j') (cu (upd σ S (.list ((acc.map fun k => T [k]).map .str))) x dx l j') := fun j' => sub_upd (sub_new _ hS) _ _
    have hcu : ∀ j1 j2, cu (cu (upd σ S (.list ((acc.map fun k => T [k]).map .str))) x dx l j1) x dx l j2 = cu (upd σ S (.list ((acc.map fun k => T [k]).map .str))) x dx l j2 := fun _ _ => upd_upd _ _ _ _
    have hr : j + r.length = l.length := by rw [← D, List.length_drop]; omega
    have hgo : ∀ m, l[j + m]? = r[m]? := fun m => drop_get D
    have hap : ((acc.map fun k => T [k]).map PV.str).length ≤ sizeLine := by rw [List.length_map, List.length_map]; unfold sizeLine; omega
    have hmap : ∀ v : Nat, (acc.map fun k => T [k]).map PV.str ++ [PV.str (T [v])] = ((acc ++ [v]).map fun k => T [k]).map PV.str := fun v => by simp
    have hres2 : ∀ (v : Nat) (res2 : Option (List Nat × List Nat)), Option.map (fun p => (acc ++ p.1, p.2)) (res2.map fun p => (v :: p.1, p.2)) = Option.map (fun p => (acc ++ [v] ++ p.1, p.2)) res2 := fun v res2 => by cases res2 <;> simp
    refine b_not (b_val (ev_nmeth m0 (hy j) P.m_Cursor_is_done ff.handled (cur_done P (hy j) hl ⟨_, rfl, ?_⟩).call))
    cases hQ with
    | done =>
      rw [decide_eq_true (by simp at hr; omega)]
      refine ss_ret (ev_none ⟨_, sub _, ?_⟩)
      have : j = l.length := by simpa using hr
      rw [this]
      exact hn (by rw [hres]; rfl)
    | close r' =>
      simp only [List.length_cons] at hr hz
      rw [decide_eq_false (by omega)]
      have D' : l.drop (j + 1) = r' := by rw [← List.drop_drop, D]; rfl
      refine ss_let (ev_nmeth m0 (hy j) P.m_Cursor_take ff.handled (cur_take P (k := 34) (hy j) hl (by rw [← Nat.add_zero j, hgo]; rfl) ⟨_, .nx (.nx (.nx .nil)), ?_⟩).call)
      rw [hcu]
      refine ss_if (b_cmp (ev_name m3 (ev_name m1 (cmp_eqs ?_))))
      rw [T_beq]
      refine ss_ret (ev_methG (ev_str ⟨_, _, gm_str PySem.F.slot_str_join PySem.F.type_str_join, ev_name m2 ⟨kB, c_join (hS' _) ?_ ⟨_, sub _, ?_⟩⟩⟩) ff.handled)
      · rw [str_nil]
        rw [sum_signs, show (T []).length = 0 from rfl]
        omega
      · rw [str_nil, join_signs]
        refine hs acc r' (j + 1) ?_ D' (by omega) (by omega)
        rw [hres]; simp
    | escx =>
      simp only [List.length_cons, List.length_nil] at hr hz
      rw [decide_eq_false (by omega)]
      refine ss_let (ev_nmeth m0 (hy j) P.m_Cursor_take ff.handled (cur_take P (k := 92) (hy j) hl (by rw [← Nat.add_zero j, hgo]; rfl) ⟨_, .nx (.nx (.nx .nil)), ?_⟩).call)
      rw [hcu]
      refine ss_if (b_cmp (ev_name m3 (ev_name m1 (cmp_eqs ?_))))
      rw [T_beq, show ([92] == [34]) = false from rfl]
      refine ss_nil (ss_if (b_cmp (ev_name m3 (ev_str (cmp_eqs ?_)))))
      rw [show PySem.Str.ofString "\\" = T [92] by kernel_rfl, T_beq, show ([92] == [92]) = true from rfl]
      refine ss_let (ev_nmeth m0 (hy _) P.m_Cursor_escape ff.handled (cur_escape0 P (hy _) hl (by rw [hgo]; rfl) ⟨_, .nx (.nx (.nx .hr)), ?_⟩).call)
      refine ss_if (b_cmp (ev_name m3 (ev_str (cmp_eqs ?_))))
      rw [str_nil, T_beq, show (([] : List Nat) == []) = true from rfl]
      refine ss_ret (ev_none ⟨_, sub _, ?_⟩)
      rw [show j + 1 = l.length by omega]
      exact hn (by rw [hres]; rfl)
    | esc hv hQ' =>
      rename_i k v r' res2
      simp only [List.length_cons] at hr hz
      rw [decide_eq_false (by omega)]
      have D' : l.drop (j + 1 + 1) = r' := by rw [Nat.add_assoc, ← List.drop_drop, D]; rfl
      refine ss_let (ev_nmeth m0 (hy j) P.m_Cursor_take ff.handled (cur_take P (k := 92) (hy j) hl (by rw [← Nat.add_zero j, hgo]; rfl) ⟨_, .nx (.nx (.nx .nil)), ?_⟩).call)
      rw [hcu]
      refine ss_if (b_cmp (ev_name m3 (ev_name m1 (cmp_eqs ?_))))
      rw [T_beq, show ([92] == [34]) = false from rfl]
      refine ss_nil (ss_if (b_cmp (ev_name m3 (ev_str (cmp_eqs ?_)))))
      rw [show PySem.Str.ofString "\\" = T [92] by kernel_rfl, T_beq, show ([92] == [92]) = true from rfl]
      refine ss_let (ev_nmeth m0 (hy _) P.m_Cursor_escape ff.handled (cur_escape1 P (k := k) (v := v) (hy _) hl (by rw [hgo]; rfl) hv ⟨_, .nx (.nx (.nx .hr)), ?_⟩).call)
      rw [hcu]
      refine ss_if (b_cmp (ev_name m3 (ev_str (cmp_eqs ?_))))
      rw [T1_ne]
      refine ss_nil (ss_nil (ss_expr (ev_methG (ev_name m2 ⟨_, _, gm_append (hS' _), ev_name m3 ⟨kB, c_append (hS' _) hap ?_⟩⟩) ff.handled)))
      rw [cu_list _ _ hSx, hmap]
      exact ss_nil ⟨r'.length, _, _, by simp; omega, fun p hp => List.mem_of_mem_take (i := 3) hp, .refl _, j + 1 + 1, acc ++ [v], r', res2, rfl, D', by omega, by omega, by rw [List.length_append]; simp; omega, hQ', by rw [hres, hres2], rfl, rfl⟩
    | sign h1 h2 hQ' =>
      rename_i k r' res2
      simp only [List.length_cons] at hr hz
      rw [decide_eq_false (by omega)]
      have D' : l.drop (j + 1) = r' := by rw [← List.drop_drop, D]; rfl
      refine ss_let (ev_nmeth m0 (hy j) P.m_Cursor_take ff.handled (cur_take P (k := k) (hy j) hl (by rw [← Nat.add_zero j, hgo]; rfl) ⟨_, .nx (.nx (.nx .nil)), ?_⟩).call)
      rw [hcu]
      refine ss_if (b_cmp (ev_name m3 (ev_name m1 (cmp_eqs ?_))))
      rw [T_beq, show ([k] == [34]) = false by simp [h1]]
      refine ss_nil (ss_if (b_cmp (ev_name m3 (ev_str (cmp_eqs ?_)))))
      rw [show PySem.Str.ofString "\\" = T [92] by kernel_rfl, T_beq, show ([k] == [92]) = false by simp [h2]]
      refine ss_nil (ss_expr (ev_methG (ev_name m2 ⟨_, _, gm_append (hS' _), ev_name m3 ⟨kB, c_append (hS' _) hap ?_⟩⟩) ff.handled))
      rw [cu_list _ _ hSx, hmap]
      exact ss_nil ⟨r'.length, _, _, by simp, fun p hp => List.mem_of_mem_take (i := 3) hp, .refl _, j + 1, acc ++ [k], r', res2, rfl, D', by omega, by omega, by rw [List.length_append]; simp; omega, hQ', by rw [hres, hres2], rfl, rfl⟩
end
end Mine
end B6
section B7
open PySem PySem.W PySem.Calls PyProof.Rows PySem.Challenge
set_option maxRecDepth 100000
set_option linter.unusedVariables false
namespace Mine

noncomputable abbrev rdF (x : Addr) (nl : Nat) : List (PySem.Str × PV) := [("cursor", .k (.ref x)), ("lines", .int nl)]
noncomputable abbrev rdO (dr x : Addr) (nl : Nat) : AO := .inst 393 dr (rdF x nl)
noncomputable def ErrAt (off : Nat) (fs : List (PySem.Str × PV)) (τ : Sto) : Prop := ∃ w q dq ln cl, fs = ([("what", w), ("at", .k (.ref q))] : List (PySem.Str × PV)) ∧ τ q = some (posO dq (off : Nat) ln cl)
noncomputable def Keep (r x : Addr) (σ τ : Sto) : Prop := ∀ a o, σ a = some o → a ≠ x → a ≠ r → τ a = some o
theorem Keep.refl (r x : Addr) (σ : Sto) : Keep r x σ σ := fun _ _ e _ _ => e
theorem Keep.trans {r x : Addr} {a b d : Sto} (p : Keep r x a b) (q : Keep r x b d) : Keep r x a d := fun z o e h1 h2 => q z o (p z o e h1 h2) h1 h2
theorem Keep.of_sub {r x : Addr} {σ τ : Sto} (p : Sub σ τ) : Keep r x σ τ := fun z o e _ _ => p z o e
theorem Keep.cu {r x dx : Addr} {σ : Sto} {l : List Nat} {j : Nat} : Keep r x σ (Mine.cu σ x dx l j) := fun z o e h _ => by unfold Mine.cu; rw [upd_ne _ _ h]; exact e
theorem Keep.at {r x : Addr} {σ : Sto} {o : AO} : Keep r x σ (upd σ r o) := fun z p e _ h => by rw [upd_ne _ _ h]; exact e
theorem Keep.new {r x S : Addr} {σ : Sto} {o : AO} (hS : σ S = none) : Keep r x σ (upd σ S o) := .of_sub (sub_new _ hS)
theorem Keep.upd {r x S : Addr} {σ : Sto} {o p : AO} (hS : σ S = none) : Keep r x σ (upd (upd σ S o) S p) := by rw [upd_upd]; exact .new hS

section
variable {c : Cx} {fm : Fm} {loc : Loc} {n : Nat} {σ : Sto} {Φ : NPr} {X : CXPr} {r x dx dr : Addr} {l : List Nat} {i nl : Nat}

theorem terr_init (P : PK c) {a : Addr} {w p : PV} (ha : σ a = some (.exc0 95)) (h : ∀ dx, ¬ CFoot σ dx → Φ (.k .none) (upd σ a (.exc true 95 dx [("what", w), ("at", p)]))) : CallC c (n + 1) (.ref 72) [.k (.ref a), w, p] σ Φ X := by
  obtain ⟨o, m, e, d⟩ := P.d_65
  refine call_pl P.f_ToolError_init [("self", .k (.ref a)), ("what", w), ("at", p)] (fun s vs kV doc pm an ct hK hv => ?_) (by kernel_rfl) (by kernel_rfl) fun L A' hL ff => ?_
  · obtain ⟨v, u, q, rfl, b⟩ := br3 (x := "self") (y := "what") (z := "at") hv
    exact ⟨_, .of_defaults rfl (hK _ _ e) d rfl rfl, b⟩
  · refine ss_expr (ev_methG (ev_builtin P.b_Exception rfl ⟨_, _, gm_type (by kernel_rfl) (by kernel_rfl) P.xinit rfl, ev_name m0 (ev_name m1 ⟨kB, c_excinit P.xi.shape ha ?_⟩)⟩) ff.handled)
    refine ss_setattr (ev_name m1 (ev_name m0 ⟨_, rfl, .exc0 ha P.s_95_what fun dx nd => ?_⟩))
    refine ss_setattr (ev_name m2 (ev_name m0 ⟨_, rfl, .exc (upd_same _ _ _) P.s_95_at (of_decide_eq_true rfl) ?_⟩))
    rw [upd_upd]
    exact ss_nil ⟨_, .refl _, h dx nd⟩

theorem not_foot {a b : Addr} {o : AO} (na : ¬ CFoot σ a) (h : ¬ CFoot (upd σ a o) b) : ¬ CFoot σ b := fun f => h (by
  have na' : σ a = none := by
    cases q : σ a with
    | none => rfl
    | some o => exact absurd (.inl ⟨o, q⟩) na
  exact Sub.foot (sub_new o na') f)

theorem ss_terr (P : PK c) {off : Nat} {w : PV} {e1 e2 : Expr} {p1 p2 pos : Pos} {rest : List Stmt} {N : NXt} {Rt : NPr} {X : XPr} (ff : FF fm) (hn : ∃ m, fm.n = m + 2)
    (h1 : E c fm e1 loc σ (fun p σ1 => p = w ∧ σ1 = σ) X) (h2 : E c fm e2 loc σ (fun p τ => ∃ q dq ln cl, p = .k (.ref q) ∧ σ q = none ∧ τ = upd σ q (posO dq (off : Nat) ln cl)) X)
    (hX : ∀ fs τ, ErrAt off fs τ → Sub σ τ → X 95 fs loc τ)
    (hst : ([e1, e2] : List Expr).all starless = true := by rfl) (hk : fm.env.scope.kind = .function := by rfl) (hx : fm.env.kindOf "TableError" = some .globalImplicit := by rfl) (hg : fm.env.globals = mainGlobals := by rfl)
    (he : eval (.Call (.Name "TableError" p1) [e1, e2] [] p2) fm.env = (do callWith p2 (← eval (.Name "TableError" p1) fm.env) [] (backTo p2 (starEach [e1, e2] fm.env)) (backToKw p2 (keywordEach [] fm.env))) := by with_unfolding_all rfl) :
    SS c fm (.Raise (some (.Call (.Name "TableError" p1) [e1, e2] [] p2)) none pos :: rest) loc σ N Rt X := by
  obtain ⟨m, hm⟩ := hn
  refine ss_raise P.xi.shape ff.handled (ev_call (ev_glob P.g_TableError ⟨_, rfl, ?_⟩ hk hx hg) ff.handled hst he)
  refine E.mono h1 fun p σ1 ⟨e, e'⟩ => ?_
  subst e; subst e'
  refine E.mono h2 fun p2 τ ⟨q, dq, ln, cl, e, hq, e'⟩ => ?_
  subst e; subst e'
  refine ⟨kK P.k_95, ?_⟩
  rw [hm]
  refine (call_makeX P.xi (of_decide_eq_true rfl) fun a na => terr_init P (upd_same ..) fun dx' nd => ⟨rfl, ?_⟩).call
  rw [upd_upd]
  refine ⟨a, dx', _, _, rfl, rfl, na, not_foot na nd, fun f => na ((sub_new _ hq).foot f), fun f => not_foot na nd ((sub_new _ hq).foot f), ?_⟩
  exact hX _ _ ⟨_, q, dq, ln, cl, rfl, upd_same _ _ _⟩ (sub_new _ hq)

theorem rd_fail (P : PK c) {w : PV} (hr : σ r = some (rdO dr x nl)) (hx : σ x = some (cuO dx l i)) (hl : l.length < 2 ^ 20) (hi : i ≤ l.length)
    (hX : ∀ fs τ, ErrAt i fs τ → Sub σ τ → X 95 fs τ) : CallC c (n + 5) (.ref 304) [.k (.ref r), w] σ Φ X := by
  refine call_pl P.f_LineReader_fail [("self", .k (.ref r)), ("what", w)] (fun s vs kV doc pm an ct _ hv => ?_) (by kernel_rfl) (by kernel_rfl) fun L A' hL ff => ?_
  · obtain ⟨v, u, rfl, b⟩ := br2 (x := "self") (y := "what") hv
    exact ⟨_, .of_eq rfl, b⟩
  · refine ss_terr P (off := i) ff ⟨n + 2, rfl⟩ (ev_name m1 ⟨rfl, rfl⟩) (ev_nnmeth m0 hr P.a_393_cursor rfl hx P.m_Cursor_position ff.handled (cur_position P hx hl fun q dq ln cl hq => ⟨q, dq, ln, cl, rfl, hq, ?_⟩).call) fun fs τ he hs => ⟨τ, .refl _, hX fs τ he hs⟩
    rw [Nat.min_eq_left hi]
end
end Mine
end B7
section B8
open PySem PySem.W PySem.Calls PyProof.Rows PySem.Challenge
set_option maxRecDepth 100000
set_option linter.unusedVariables false
namespace Mine

noncomputable def figs : List Nat := [48, 49, 50, 51, 52, 53, 54, 55, 56, 57]
theorem figs_of : PySem.Str.ofString "0123456789" = T figs := by kernel_rfl
inductive PR (α : Type) where
  | ok (a : α) (r : List Nat)
  | err (r : List Nat)
inductive WR : List Nat → PR Int → Prop
  | ok (neg : Bool) {ds r : List Nat} {a : Int} : (∀ k ∈ ds, k ∈ figs) → (∀ k, r.head? = some k → k ∉ figs) → (neg = false → (ds ++ r).head? ≠ some 45) → ds ≠ [] → ds.length ≤ 160 → PySem.intText? (T ds) = some a →
      WR ((if neg then [45] else []) ++ (ds ++ r)) (.ok ((if neg then -1 else 1) * a) r)
  | err (neg : Bool) {ds r : List Nat} : (∀ k ∈ ds, k ∈ figs) → (∀ k, r.head? = some k → k ∉ figs) → (neg = false → (ds ++ r).head? ≠ some 45) → (ds = [] ∨ 160 < ds.length) →
      WR ((if neg then [45] else []) ++ (ds ++ r)) (.err r)

theorem drop_pos {l t : List Nat} {i : Nat} (D : l.drop i = t) (h : i ≤ l.length) : i = l.length - t.length := by rw [← D, List.length_drop]; omega
theorem take_beq {l w t : List Nat} {i : Nat} (D : l.drop i = w ++ t) : ((l.drop i).take w.length == w) = true := by rw [D, List.take_left']; exact beq_self_eq_true w; rfl
theorem take_bne {l w : List Nat} {i : Nat} (h : ∀ t, l.drop i ≠ w ++ t) : ((l.drop i).take w.length == w) = false := by
  rw [beq_eq_false_iff_ne]
  intro q
  refine h ((l.drop i).drop w.length) ?_
  have := (List.take_append_drop w.length (l.drop i)).symm
  rw [q] at this
  exact this

section
variable {c : Cx} {fm : Fm} {loc : Loc} {n : Nat} {σ : Sto} {Φ : NPr} {X : CXPr} {r x dx dr : Addr} {l : List Nat} {i nl : Nat}

theorem rx_ne (hr : σ r = some (rdO dr x nl)) (hx : σ x = some (cuO dx l i)) : r ≠ x := fun q => by
  subst q; rw [hr] at hx
  have := Option.some.inj hx
  simp at this

theorem rd_need (P : PK c) {w : List Nat} (hr : σ r = some (rdO dr x nl)) (hx : σ x = some (cuO dx l i)) (hl : l.length < 2 ^ 20) (hi : i ≤ l.length) (hw : w.length < 2 ^ 20)
    (hok : ((l.drop i).take w.length == w) = true → Φ (.k .none) (cu σ x dx l (i + w.length)))
    (hbad : ((l.drop i).take w.length == w) = false → ∀ fs τ, ErrAt i fs τ → Sub σ τ → X 95 fs τ) : CallC c (n + 6) (.ref 311) [.k (.ref r), .str (T w)] σ Φ X := by
  refine call_pl P.f_LineReader_need [("self", .k (.ref r)), ("word", .str (T w))] (fun s vs kV doc pm an ct _ hv => ?_) (by kernel_rfl) (by kernel_rfl) fun L A' hL ff => ?_
  · obtain ⟨v, u, rfl, b⟩ := br2 (x := "self") (y := "word") hv
    exact ⟨_, .of_eq rfl, b⟩
  · refine ss_if (b_not (b_val (ev_nnmeth m0 hr P.a_393_cursor rfl hx P.m_Cursor_skip ff.handled (ev_name m1 (cur_skip P hx hl hi hw ?_).call))))
    cases q : ((l.drop i).take w.length) == w with
    | false =>
      refine ⟨_, rfl, ?_⟩
      refine ss_expr (ev_nmeth m0 hr P.m_LineReader_fail ff.handled (ev_binop (ev_binop (ev_str (ev_name m1 (op_cat ?_ (ev_str (op_cat ?_ (rd_fail P hr hx hl hi fun fs τ he hs => ⟨τ, .refl _, hbad q fs τ he hs⟩).call))))))))
      · rw [show (PySem.Str.ofString "not a written table: ").length = 21 by kernel_rfl, T_len]; unfold sizeLine; omega
      · rw [show ∀ a b : PySem.Str, (a ++ b).length = a.length + b.length from fun a b => by show (a.cps ++ b.cps).size = _; rw [Array.size_append]; rfl, show (PySem.Str.ofString "not a written table: ").length = 21 by kernel_rfl, show (PySem.Str.ofString " is missing").length = 11 by kernel_rfl, T_len]; unfold sizeLine; omega
    | true => exact ⟨_, rfl, ss_nil (ss_nil ⟨_, .refl _, hok q⟩)⟩

theorem rd_end_line (P : PK c) (hr : σ r = some (rdO dr x nl)) (hx : σ x = some (cuO dx l i)) (hl : l.length < 2 ^ 20) (hi : i ≤ l.length)
    (hok : ((l.drop i).take 1 == [10]) = true → Φ (.k .none) (upd (cu σ x dx l (i + 1)) r (rdO dr x (nl + 1))))
    (hbad : ((l.drop i).take 1 == [10]) = false → ∀ fs τ, ErrAt i fs τ → Sub σ τ → X 95 fs τ) : CallC c (n + 7) (.ref 325) [.k (.ref r)] σ Φ X := by
  refine call_pl P.f_LineReader_end_line [("self", .k (.ref r))] (fun s vs kV doc pm an ct _ hv => ?_) (by kernel_rfl) (by kernel_rfl) fun L A' hL ff => ?_
  · obtain ⟨v, rfl, b⟩ := br1 (x := "self") hv
    exact ⟨_, .of_eq rfl, b⟩
  · refine ss_expr (ev_nmeth m0 hr P.m_LineReader_need ff.handled (ev_str ?_))
    rw [show PySem.Str.ofString "\n" = T [10] by kernel_rfl]
    refine (rd_need P hr hx hl hi (by decide) (fun q => ?_) fun q fs τ he hs => ⟨τ, .refl _, hbad q fs τ he hs⟩).call
    have hr' : cu σ x dx l (i + 1) r = some (rdO dr x nl) := by unfold cu; rw [upd_ne _ _ (rx_ne hr hx)]; exact hr
    refine ss_setattr (ev_binop (ev_nattr m0 hr' P.a_393_lines rfl rfl (ev_int (op_add (ev_name m0 ⟨_, rfl, .inst hr' P.s_393_lines (of_decide_eq_true rfl) ?_⟩)))))
    exact ss_nil ⟨_, .refl _, hok q⟩

theorem rd_head (P : PK c) {w rest : List Nat} (hr : σ r = some (rdO dr x nl)) (hx : σ x = some (cuO dx l i)) (hl : l.length < 2 ^ 20) (hi : i ≤ l.length) (hw : w.length < 2 ^ 20) (D : l.drop i = w ++ 10 :: rest)
    (hok : Φ (.k .none) (upd (cu σ x dx l (i + w.length + 1)) r (rdO dr x (nl + 1)))) : CallC c (n + 8) (.ref 318) [.k (.ref r), .str (T w)] σ Φ X := by
  have D2 : l.drop (i + w.length) = [10] ++ rest := by rw [← List.drop_drop, D, List.drop_left']; rfl; rfl
  have hlen : i + w.length + 1 ≤ l.length := by
    have := congrArg List.length D
    rw [List.length_drop, List.length_append, List.length_cons] at this
    omega
  refine call_pl P.f_LineReader_head [("self", .k (.ref r)), ("word", .str (T w))] (fun s vs kV doc pm an ct _ hv => ?_) (by kernel_rfl) (by kernel_rfl) fun L A' hL ff => ?_
  · obtain ⟨v, u, rfl, b⟩ := br2 (x := "self") (y := "word") hv
    exact ⟨_, .of_eq rfl, b⟩
  · refine ss_expr (ev_nmeth m0 hr P.m_LineReader_need ff.handled (ev_name m1 (rd_need P hr hx hl hi hw (fun q => ?_) fun q => absurd (take_beq D) (by rw [q]; decide)).call))
    have hr' : cu σ x dx l (i + w.length) r = some (rdO dr x nl) := by unfold cu; rw [upd_ne _ _ (rx_ne hr hx)]; exact hr
    refine ss_expr (ev_nmeth m0 hr' P.m_LineReader_end_line ff.handled (rd_end_line P hr' (upd_same _ _ _) hl (by omega) (fun q => ?_) fun q => absurd (take_beq D2) (by rw [show ([10] : List Nat).length = 1 from rfl, q]; decide)).call)
    refine ss_nil ⟨_, .refl _, ?_⟩
    unfold cu at hok ⊢
    rw [upd_upd]
    exact hok

theorem whole_main (P : PK c) {ds t : List Nat} {sg : Int} {L : Addr} {A' : Around} {Φ : NPr} {X : XPr} (ff : FF (fm0 (fnScope (inSt 20 5)) L "LineReader.whole" 332 (.ref 331) A' (n + 5)))
    (hr : σ r = some (rdO dr x nl)) (hx : σ x = some (cuO dx l i)) (hl : l.length < 2 ^ 20) (hi : i ≤ l.length) (D : l.drop i = ds ++ t) (hds : ∀ k ∈ ds, k ∈ figs) (ht : ∀ k, t.head? = some k → k ∉ figs) (hsg : sg = 1 ∨ sg = -1)
    (hok : ds ≠ [] → ds.length ≤ 160 → ∃ a, PySem.intText? (T ds) = some a ∧ Φ (.int (sg * a)) (cu σ x dx l (i + ds.length)))
    (hbad : (ds = [] ∨ 160 < ds.length) → ∀ fs τ lo, ErrAt (i + ds.length) fs τ → Sub (cu σ x dx l (i + ds.length)) τ → X 95 fs lo τ) (N : NXt) :
    SS c (fm0 (fnScope (inSt 20 5)) L "LineReader.whole" 332 (.ref 331) A' (n + 5)) ((fnBody (inSt 20 5)).drop 1) [("self", .k (.ref r)), ("sign", .int sg)] σ N Φ X := by
  have hlen : i + (ds.length + t.length) = l.length := by
    have := congrArg List.length D
    rw [List.length_drop, List.length_append] at this
    omega
  obtain ⟨tf, ef⟩ := P.g_FIGURES
  obtain ⟨tm, em⟩ := P.g_MOST_FIGURES_lines
  rw [figs_of] at ef
  refine ss_let (ev_nnmeth m0 hr P.a_393_cursor rfl hx P.m_Cursor_take_while ff.handled (ev_globV ef (fun _ => .str _ tf) (cur_take_while P hx hl hi D hds ht ⟨_, .nx (.nx .nil), ?_⟩).call))
  have hr' : cu σ x dx l (i + ds.length) r = some (rdO dr x nl) := by unfold cu; rw [upd_ne _ _ (rx_ne hr hx)]; exact hr
  have hx' : cu σ x dx l (i + ds.length) x = some (cuO dx l (i + ds.length)) := upd_same _ _ _
  refine ss_if (b_bool (b_cmp (ev_name m2 (ev_str (cmp_eqs ?_)))))
  rw [str_nil, T_beq]
  by_cases q : ds = []
  · rw [show (ds == []) = true by rw [q]; rfl]
    exact ss_expr (ev_nmeth m0 hr' P.m_LineReader_fail ff.handled (ev_str (rd_fail P hr' hx' hl (by omega) fun fs τ he hs => hbad (.inl q) fs τ _ he hs).call))
  · rw [show (ds == []) = false from beq_eq_false_iff_ne.mpr q]
    refine b_cmp (ev_call (ev_builtin P.b_len rfl ⟨_, rfl, ev_name m2 ⟨kB, c_len_str ?_ (ev_globV em (fun _ => .int _ tm) (cmp_gt ?_))⟩⟩) ff.handled)
    · rw [T_len]; omega
    rw [T_len]
    by_cases q2 : 160 < ds.length
    · rw [decide_eq_true (by omega)]
      exact ss_expr (ev_nmeth m0 hr' P.m_LineReader_fail ff.handled (ev_str (rd_fail P hr' hx' hl (by omega) fun fs τ he hs => hbad (.inr q2) fs τ _ he hs).call))
    · rw [decide_eq_false (by omega)]
      obtain ⟨a, ha, hp⟩ := hok q (by omega)
      refine ss_nil (ss_ret (ev_binop (ev_name m1 (ev_call (ev_builtin P.b_int rfl ⟨_, rfl, ev_name m2 ⟨kT, c_int_str ha ?_ (op_mul ?_ hp)⟩⟩) ff.handled))))
      · rw [T_len]; omega
      · rcases hsg with rfl | rfl
        · exact IntMulOk.of_left (by decide)
        · exact IntMulOk.of_left (by decide)

theorem rd_whole (P : PK c) {res : PR Int} (hr : σ r = some (rdO dr x nl)) (hx : σ x = some (cuO dx l i)) (hl : l.length < 2 ^ 20) (hi : i ≤ l.length) (hW : WR (l.drop i) res)
    (hok : ∀ a t j, res = .ok a t → l.drop j = t → i ≤ j → j ≤ l.length → Φ (.int a) (cu σ x dx l j))
    (hbad : ∀ t fs τ, res = .err t → ErrAt (l.length - t.length) fs τ → Keep r x σ τ → X 95 fs τ) : CallC c (n + 6) (.ref 332) [.k (.ref r)] σ Φ X := by
  refine call_pl P.f_LineReader_whole [("self", .k (.ref r))] (fun s vs kV doc pm an ct _ hv => ?_) (by kernel_rfl) (by kernel_rfl) fun L A' hL ff => ?_
  · obtain ⟨v, rfl, b⟩ := br1 (x := "self") hv
    exact ⟨_, .of_eq rfl, b⟩
  · refine ss_let (ev_ifexp (b_val (ev_nnmeth m0 hr P.a_393_cursor rfl hx P.m_Cursor_skip ff.handled (ev_str ?_))))
    rw [show PySem.Str.ofString "-" = T [45] by kernel_rfl]
    refine (cur_skip P hx hl hi (by decide) ?_).call
    generalize hL0 : l.drop i = L0 at hW
    cases hW with
    | ok neg h1 h2 h3 h4 h5 h6 =>
      rename_i ds t a
      cases neg with
      | false =>
        have D : l.drop i = ds ++ t := hL0
        rw [← hL0, take_bne (w := [45]) (fun u q => h3 rfl (by rw [← D, q]; rfl))]
        refine ⟨_, rfl, ev_int ⟨_, .nx .nil, ?_⟩⟩
        refine whole_main P ff hr hx hl hi D h1 h2 (.inl rfl) (fun _ _ => ⟨_, h6, _, .refl _, ?_⟩) (fun h => absurd h (by simp [h4]; omega)) _
        refine hok _ _ _ rfl ?_ (Nat.le_add_right _ _) ?_
        · rw [← List.drop_drop, D, List.drop_left']; rfl
        · have := congrArg List.length D
          rw [List.length_drop, List.length_append] at this
          omega
      | true =>
        have D : l.drop i = [45] ++ (ds ++ t) := hL0
        have D2 : l.drop (i + 1) = ds ++ t := by rw [← List.drop_drop, D]; rfl
        have hlen := congrArg List.length D
        rw [List.length_drop, List.length_append, List.length_append] at hlen
        simp only [List.length_cons, List.length_nil] at hlen
        rw [← hL0, take_beq (w := [45]) D]
        refine ⟨_, rfl, ev_unop (ev_int (op_neg ⟨_, .nx .nil, ?_⟩))⟩
        have hr' : cu σ x dx l (i + 1) r = some (rdO dr x nl) := by unfold cu; rw [upd_ne _ _ (rx_ne hr hx)]; exact hr
        refine whole_main P ff hr' (upd_same _ _ _) hl (by omega) D2 h1 h2 (.inr rfl) (fun _ _ => ⟨_, h6, _, .refl _, ?_⟩) (fun h => absurd h (by simp [h4]; omega)) _
        unfold cu
        rw [upd_upd]
        refine hok _ _ _ rfl ?_ (by omega) (by omega)
        rw [← List.drop_drop, D2, List.drop_left']; rfl
    | err neg h1 h2 h3 h4 =>
      rename_i ds t
      cases neg with
      | false =>
        have D : l.drop i = ds ++ t := hL0
        have hlen := congrArg List.length D
        rw [List.length_drop, List.length_append] at hlen
        rw [← hL0, take_bne (w := [45]) (fun u q => h3 rfl (by rw [← D, q]; rfl))]
        refine ⟨_, rfl, ev_int ⟨_, .nx .nil, ?_⟩⟩
        refine whole_main P ff hr hx hl hi D h1 h2 (.inl rfl) (fun q1 q2 => absurd h4 (by simp [q1]; omega)) (fun _ fs τ _ he hs => ⟨_, .refl _, hbad _ _ _ rfl ?_ (.trans .cu (.of_sub hs))⟩) _
        rw [show l.length - t.length = i + ds.length by omega]; exact he
      | true =>
        have D : l.drop i = [45] ++ (ds ++ t) := hL0
        have D2 : l.drop (i + 1) = ds ++ t := by rw [← List.drop_drop, D]; rfl
        have hlen := congrArg List.length D
        rw [List.length_drop, List.length_append, List.length_append] at hlen
        simp only [List.length_cons, List.length_nil] at hlen
        rw [← hL0, take_beq (w := [45]) D]
        refine ⟨_, rfl, ev_unop (ev_int (op_neg ⟨_, .nx .nil, ?_⟩))⟩
        have hr' : cu σ x dx l (i + 1) r = some (rdO dr x nl) := by unfold cu; rw [upd_ne _ _ (rx_ne hr hx)]; exact hr
        refine whole_main P ff hr' (upd_same _ _ _) hl (by omega) D2 h1 h2 (.inr rfl) (fun q1 q2 => absurd h4 (by simp [q1]; omega)) (fun _ fs τ _ he hs => ⟨_, .refl _, hbad _ _ _ rfl ?_ (.trans .cu (.trans .cu (.of_sub hs)))⟩) _
        rw [show l.length - t.length = i + 1 + ds.length by omega]; exact he
end
end Mine
end B8
section C0
open PySem PySem.W PySem.Calls PyProof.Rows PySem.Challenge
set_option maxRecDepth 100000
set_option linter.unusedVariables false
namespace Mine

noncomputable def digs (n : Nat) : List Nat := (Nat.toDigits 10 n).map Char.toNat
noncomputable def intS (a : Int) : List Nat := if a < 0 then 45 :: digs a.natAbs else digs a.natAbs

theorem digs_ne (n : Nat) : digs n ≠ [] := fun h => Nat.toDigits_ne_nil (List.map_eq_nil_iff.mp h)
theorem digs_digit {n k : Nat} (h : k ∈ digs n) : 48 ≤ k ∧ k ≤ 57 := by
  obtain ⟨ch, hc, rfl⟩ := List.mem_map.mp h
  have := Nat.isDigit_of_mem_toDigits (by decide) (by decide) hc
  simp only [Char.isDigit, Bool.and_eq_true, decide_eq_true_eq] at this
  exact ⟨this.1, this.2⟩
theorem figs_mem {k : Nat} : k ∈ figs ↔ 48 ≤ k ∧ k ≤ 57 := by
  refine ⟨fun h => (by decide : ∀ k ∈ figs, 48 ≤ k ∧ k ≤ 57) k h, fun h => ?_⟩
  obtain ⟨i, rfl⟩ := Nat.exists_eq_add_of_le h.1
  exact (by decide : ∀ i, i < 10 → 48 + i ∈ figs) i (Nat.lt_of_add_lt_add_left (Nat.lt_succ_of_le h.2))
theorem digs_figs {n : Nat} : ∀ k ∈ digs n, k ∈ figs := fun k h => figs_mem.mpr (digs_digit h)
theorem digs_len {n m : Nat} (hm : 0 < m) (h : n < 10 ^ m) : (digs n).length ≤ m := by
  unfold digs
  rw [List.length_map]
  exact (Nat.length_toDigits_le_iff (by decide) hm).mpr h
theorem digs_val (n : Nat) : NumText.digitsVal (digs n) = n := by
  have e := @Nat.ofDigitChars_ten_toDigits n
  rw [Nat.ofDigitChars_eq_foldl] at e
  unfold NumText.digitsVal digs
  rw [List.foldl_map]
  refine Eq.trans ?_ e
  congr 1
  funext a ch
  rw [Nat.mul_comm]
  rfl
theorem digs_text {n : Nat} (h : n < 10 ^ 640) : PySem.intText? (T (digs n)) = some (n : Int) := by
  have := digs_len (by decide) h
  have e := intText_digits (x := T (digs n)) (fun k hk => digs_digit hk) (digs_ne n) (by rw [T_len]; omega)
  rw [T_list, digs_val] at e
  exact e
theorem ofNat_T (n : Nat) : PySem.Str.ofString (Nat.repr n) = T (digs n) := by
  rw [Str.ofString_eq_toList, Nat.toList_repr]; rfl
theorem ofString_int (a : Int) : PySem.Str.ofString (toString a) = T (intS a) := by
  cases a with
  | ofNat m =>
    rw [show toString (Int.ofNat m) = Nat.repr m from rfl, ofNat_T]
    unfold intS
    rw [if_neg (by simp)]; rfl
  | negSucc m =>
    rw [show toString (Int.negSucc m) = "-" ++ Nat.repr (m + 1) from rfl, Str.ofString_eq_toList, String.toList_append, Nat.toList_repr]
    unfold intS
    rw [if_pos (Int.negSucc_lt_zero m)]; rfl
theorem intS_len {a : Int} {m : Nat} (hm : 0 < m) (h : a.natAbs < 10 ^ m) : (intS a).length ≤ m + 1 := by
  have := digs_len hm h
  unfold intS
  split
  · rw [List.length_cons]; omega
  · omega
theorem intS_head (a : Int) : ∃ k r, intS a = k :: r ∧ (k = 45 ∨ k ∈ figs) := by
  unfold intS
  split
  · exact ⟨_, _, rfl, .inl rfl⟩
  · cases h : digs a.natAbs with
    | nil => exact absurd h (digs_ne _)
    | cons k r => exact ⟨k, r, rfl, .inr (digs_figs k (by rw [h]; exact .head _))⟩
theorem WR_int {a : Int} {t : List Nat} (ha : a.natAbs < 10 ^ 160) (ht : ∀ k, t.head? = some k → k ∉ figs) : WR (intS a ++ t) (.ok a t) := by
  have h1 := digs_len (by decide) ha
  have h2 : PySem.intText? (T (digs a.natAbs)) = some (a.natAbs : Int) := digs_text (Nat.lt_of_lt_of_le ha (Nat.pow_le_pow_right (by decide) (by decide)))
  have h3 : (digs a.natAbs ++ t).head? ≠ some 45 := by
    cases h : digs a.natAbs with
    | nil => exact absurd h (digs_ne _)
    | cons k r =>
      have := digs_digit (n := a.natAbs) (k := k) (by rw [h]; exact .head _)
      intro q
      have q : k = 45 := by simpa using q
      omega
  unfold intS
  split
  · rename_i hn
    have := WR.ok (neg := true) (digs_figs (n := a.natAbs)) ht (fun q => nomatch q) (digs_ne _) h1 h2
    have e : (if true = true then (-1 : Int) else 1) * (a.natAbs : Int) = a := by rw [if_pos rfl]; omega
    rw [e] at this
    exact this
  · have := WR.ok (neg := false) (digs_figs (n := a.natAbs)) ht (fun _ => h3) (digs_ne _) h1 h2
    have e : (if false = true then (-1 : Int) else 1) * (a.natAbs : Int) = a := by rw [if_neg (by decide)]; omega
    rw [e] at this
    exact this
end Mine
end C0
section B9
open PySem PySem.W PySem.Calls PyProof.Rows PySem.Challenge
set_option maxRecDepth 100000
set_option linter.unusedVariables false
namespace Mine

inductive LB (sub : List Nat → PR PV → Prop) : List PV → List Nat → PR PV → Prop
  | close {acc : List PV} {t : List Nat} : LB sub acc (41 :: t) (.ok (.tup acc) t)
  | item {acc : List PV} {r t : List Nat} {a : PV} {res : PR PV} : sub r (.ok a t) → LB sub (acc ++ [a]) t res → LB sub acc (32 :: r) res
  | itemx {acc : List PV} {r t : List Nat} : sub r (.err t) → LB sub acc (32 :: r) (.err t)
  | bad {acc : List PV} {r : List Nat} : (∀ t, r ≠ 41 :: t) → (∀ t, r ≠ 32 :: t) → LB sub acc r (.err r)
inductive BK (sub : List Nat → PR PV → Prop) : Bool → List Nat → PR PV → Prop
  | deep {r : List Nat} : BK sub true r (.err r)
  | nil {t : List Nat} : BK sub false (41 :: t) (.ok (.tup []) t)
  | fst {r t : List Nat} {a : PV} {res : PR PV} : (∀ t, r ≠ 41 :: t) → sub r (.ok a t) → LB sub [a] t res → BK sub false r res
  | fstx {r t : List Nat} : (∀ t, r ≠ 41 :: t) → sub r (.err t) → BK sub false r (.err t)
inductive IB (sub : List Nat → PR PV → Prop) (deep : Bool) : List Nat → PR PV → Prop
  | str {r s t : List Nat} : QR r (some (s, t)) → IB sub deep (34 :: r) (.ok (.str (T s)) t)
  | strx {r : List Nat} : QR r none → IB sub deep (34 :: r) (.err [])
  | brack {r : List Nat} {res : PR PV} : BK sub deep r res → IB sub deep (40 :: r) res
  | none {t : List Nat} : (∀ k, t.head? = some k → k ∉ figs) → IB sub deep (45 :: t) (.ok (.k .none) t)
  | int {r t : List Nat} {a : Int} : (∀ t, r ≠ 34 :: t) → (∀ t, r ≠ 40 :: t) → (∀ t, r = 45 :: t → ∃ k, t.head? = some k ∧ k ∈ figs) → WR r (.ok a t) → IB sub deep r (.ok (.int a) t)
  | intx {r t : List Nat} : (∀ t, r ≠ 34 :: t) → (∀ t, r ≠ 40 :: t) → (∀ t, r = 45 :: t → ∃ k, t.head? = some k ∧ k ∈ figs) → WR r (.err t) → IB sub deep r (.err t)
noncomputable def PIt : Nat → List Nat → PR PV → Prop
  | 0 => IB (fun _ _ => False) true
  | k + 1 => IB (PIt k) false

theorem drop_add {l w t : List Nat} {i : Nat} (D : l.drop i = w ++ t) : l.drop (i + w.length) = t := by
  rw [← List.drop_drop, D, List.drop_left']; rfl
theorem drop_len {l t : List Nat} {i : Nat} (D : l.drop i = t) (h : i ≤ l.length) : i + t.length = l.length := by rw [← D, List.length_drop]; omega

section
variable {c : Cx} {fm : Fm} {loc : Loc} {n m : Nat} {σ : Sto} {Φ : NPr} {X : CXPr} {r x dx dr : Addr} {l : List Nat} {i nl : Nat}

theorem cu_r (hr : σ r = some (rdO dr x nl)) (hx : σ x = some (cuO dx l i)) (j : Nat) : cu σ x dx l j r = some (rdO dr x nl) := by unfold cu; rw [upd_ne _ _ (rx_ne hr hx)]; exact hr
theorem cu_x (j : Nat) : cu σ x dx l j x = some (cuO dx l j) := upd_same _ _ _
theorem cu_cu (j k : Nat) : cu (cu σ x dx l j) x dx l k = cu σ x dx l k := upd_upd _ _ _ _

noncomputable def ItemC (c : Cx) (sub : List Nat → PR PV → Prop) (m : Nat) (d : Int) (r x dx dr : Addr) (l : List Nat) : Prop :=
  ∀ {σ : Sto} {Φ : NPr} {X : CXPr} {i nl : Nat} {res : PR PV}, σ r = some (rdO dr x nl) → σ x = some (cuO dx l i) → i ≤ l.length → sub (l.drop i) res →
    (∀ a t j, res = .ok a t → l.drop j = t → i ≤ j → j ≤ l.length → Φ a (cu σ x dx l j)) →
    (∀ t fs τ, res = .err t → ErrAt (l.length - t.length) fs τ → Keep r x σ τ → X 95 fs τ) → CallC c m (.ref 340) [.k (.ref r), .int d] σ Φ X

inductive BraI (σ : Sto) (r x dx S : Addr) (l : List Nat) (i : Nat) (d : Int) (sub : List Nat → PR PV → Prop) (res : PR PV) (k : Nat) (lo : Loc) (τ : Sto) : Prop
  | mk (j : Nat) (acc : List PV) (rr : List Nat) (h0 : k = rr.length) (h1 : l.drop j = rr) (h2 : i ≤ j) (h3 : j ≤ l.length) (h4 : acc.length ≤ j) (h5 : LB sub acc rr res) (h6 : lo = ([("self", .k (.ref r)), ("depth", .int d), ("found", .k (.ref S))] : Loc)) (h7 : τ = cu (upd σ S (.list acc)) x dx l j)
theorem brack_loop (P : PK c) {sub : List Nat → PR PV → Prop} {d : Int} {L S : Addr} {A' : Around} {Φ : NPr} {X : CXPr} {res : PR PV} {acc : List PV} (ff : FF (fm0 (fnScope (inSt 20 7)) L "LineReader.bracket" 347 (.ref 346) A' (m + 6))) (H : ItemC c sub (m + 6) d r x dx dr l)
    (hr : σ r = some (rdO dr x nl)) (hx : σ x = some (cuO dx l i)) (hl : l.length < 2 ^ 20) (hi : i ≤ l.length) (hS : σ S = none) (hQ : LB sub acc (l.drop i) res) (hz : acc.length ≤ i)
    (hok : ∀ a t j, res = .ok a t → l.drop j = t → i ≤ j → j ≤ l.length → Φ a (cu σ x dx l j))
    (hbad : ∀ t fs τ, res = .err t → ErrAt (l.length - t.length) fs τ → Keep r x σ τ → X 95 fs τ) (N : NXt) :
    SS c (fm0 (fnScope (inSt 20 7)) L "LineReader.bracket" 347 (.ref 346) A' (m + 6)) ((fnBody (inSt 20 7)).drop 4) [("self", .k (.ref r)), ("depth", .int d), ("found", .k (.ref S))] (upd σ S (.list acc)) N
      (UpR Φ) (UpX X) := by
  have hSx : S ≠ x := fun q => by rw [q, hx] at hS; cases hS
  have hSr : S ≠ r := fun q => by rw [q, hr] at hS; cases hS
  refine ss_while ff (BraI σ r x dx S l i d sub res) _ ⟨i, acc, _, rfl, rfl, Nat.le_refl _, hi, hz, hQ, rfl, ?_⟩ ?_
  · exact (upd_self (by rw [upd_ne _ _ (Ne.symm hSx)]; exact hx)).symm
  rintro k lo τ ⟨j, acc, rr, rfl, D, hij, hj, hz, hQ, rfl, rfl⟩
  have hS' : ∀ j', cu (upd σ S (.list acc)) x dx l j' S = some (.list acc) := fun j' => by unfold cu; rw [upd_ne _ _ hSx, upd_same]
  have hy : ∀ j', cu (upd σ S (.list acc)) x dx l j' x = some (cuO dx l j') := fun j' => upd_same _ _ _
  have hr' : ∀ j', cu (upd σ S (.list acc)) x dx l j' r = some (rdO dr x nl) := fun j' => by unfold cu; rw [upd_ne _ _ (rx_ne hr hx), upd_ne _ _ (Ne.symm hSr)]; exact hr
  have sub' : ∀ j', Sub (cu σ x dx l j') (cu (upd σ S (.list acc)) x dx l j') := fun j' => sub_upd (sub_new _ hS) _ _
  have kp : ∀ j', Keep r x σ (cu (upd σ S (.list acc)) x dx l j') := fun j' => .trans (.new hS) .cu
  have hlen := drop_len D hj
  refine b_not (b_val (ev_nnmeth m0 (hr' _) P.a_393_cursor rfl (hy _) P.m_Cursor_skip ff.handled (ev_str ?_)))
  rw [show PySem.Str.ofString ")" = T [41] by kernel_rfl]
  refine (cur_skip P (hy _) hl hj (by decide) ?_).call
  cases hQ with
  | close =>
    rename_i t
    have D1 : l.drop j = [41] ++ t := D
    rw [take_beq D1]
    refine ⟨_, rfl, ?_⟩
    rw [cu_cu]
    simp only [List.length_cons] at hlen
    refine ss_ret (ev_call (ev_builtin P.b_tuple rfl ⟨_, rfl, ev_name m2 ⟨kT, c_tuple_list (hS' _) (by unfold sizeLine; omega) ⟨_, sub' _, hok _ _ _ rfl (drop_add D1) (by omega) (by simp; omega)⟩⟩⟩) ff.handled)
  | item h1 h2 =>
    rename_i r1 t a
    have D1 : l.drop j = [32] ++ r1 := D
    rw [take_bne (w := [41]) (fun u q => by rw [D1] at q; cases q)]
    refine ⟨_, rfl, ?_⟩
    simp only [List.length_cons] at hlen
    refine ss_expr (ev_nmeth m0 (hr' _) P.m_LineReader_need ff.handled (ev_str ?_))
    rw [show PySem.Str.ofString " " = T [32] by kernel_rfl]
    refine (rd_need (n := m) P (hr' _) (hy _) hl hj (by decide) (fun _ => ?_) fun q => absurd (take_beq D1) (by rw [q]; decide)).call
    rw [cu_cu]
    refine ss_expr (ev_methG (ev_name m2 ⟨_, _, gm_append (hS' _), ev_nmeth m0 (hr' _) P.m_LineReader_item ff.handled (ev_name m1 (H (res := .ok a t) (hr' _) (hy _) (by simp; omega) (by rw [drop_add D1]; exact h1) (fun a' t' j' e D2 h3 h4 => ?_) (fun _ _ _ e => nomatch e)).call)⟩) ff.handled)
    cases e
    rw [cu_cu]
    refine ⟨kB, c_append (hS' _) (by unfold sizeLine; omega) ?_⟩
    rw [cu_list _ _ hSx]
    have := drop_len D2 h4
    simp only [List.length_cons, List.length_nil] at h3
    exact ss_nil ⟨t.length, _, _, by simp only [List.length_cons]; omega, fun p hp => hp, .refl _, j', acc ++ [a], t, rfl, D2, by omega, h4, by rw [List.length_append]; simp; omega, h2, rfl, rfl⟩
  | itemx h1 =>
    rename_i r1 t
    have D1 : l.drop j = [32] ++ r1 := D
    rw [take_bne (w := [41]) (fun u q => by rw [D1] at q; cases q)]
    refine ⟨_, rfl, ?_⟩
    simp only [List.length_cons] at hlen
    refine ss_expr (ev_nmeth m0 (hr' _) P.m_LineReader_need ff.handled (ev_str ?_))
    rw [show PySem.Str.ofString " " = T [32] by kernel_rfl]
    refine (rd_need (n := m) P (hr' _) (hy _) hl hj (by decide) (fun _ => ?_) fun q => absurd (take_beq D1) (by rw [q]; decide)).call
    rw [cu_cu]
    refine ss_expr (ev_methG (ev_name m2 ⟨_, _, gm_append (hS' _), ev_nmeth m0 (hr' _) P.m_LineReader_item ff.handled (ev_name m1 (H (res := .err t) (hr' _) (hy _) (by simp; omega) (by rw [drop_add D1]; exact h1) (fun _ _ _ e => nomatch e) (fun t' fs τ e he hk => ?_)).call)⟩) ff.handled)
    cases e
    exact ⟨_, .refl _, hbad _ _ _ rfl he (.trans (kp _) hk)⟩
  | bad h1 h2 =>
    rw [take_bne (w := [41]) (fun u q => h1 u (D.symm.trans q))]
    refine ⟨_, rfl, ?_⟩
    refine ss_expr (ev_nmeth m0 (hr' _) P.m_LineReader_need ff.handled (ev_str ?_))
    rw [show PySem.Str.ofString " " = T [32] by kernel_rfl]
    refine (rd_need (n := m) P (hr' _) (hy _) hl hj (by decide) (fun q => ?_) fun q fs τ he hs => ⟨_, .refl _, hbad _ _ _ rfl ?_ (.trans (kp _) (.of_sub hs))⟩).call
    · rw [take_bne (w := [32]) (fun u q => h2 u (D.symm.trans q))] at q; cases q
    · rw [← drop_pos D hj]; exact he

theorem rd_bracket (P : PK c) {sub : List Nat → PR PV → Prop} {deep : Bool} {d : Int} {res : PR PV} (H : deep = false → ItemC c sub (m + 6) d r x dx dr l) (hd : decide (2 < d) = deep)
    (hr : σ r = some (rdO dr x nl)) (hx : σ x = some (cuO dx l i)) (hl : l.length < 2 ^ 20) (hi : i ≤ l.length) (hi1 : 1 ≤ i) (hQ : BK sub deep (l.drop i) res)
    (hok : ∀ a t j, res = .ok a t → l.drop j = t → i ≤ j → j ≤ l.length → Φ a (cu σ x dx l j))
    (hbad : ∀ t fs τ, res = .err t → ErrAt (l.length - t.length) fs τ → Keep r x σ τ → X 95 fs τ) : CallC c (m + 7) (.ref 347) [.k (.ref r), .int d] σ Φ X := by
  obtain ⟨tm, em⟩ := P.g_MOST_DEPTH
  refine call_pl P.f_LineReader_bracket [("self", .k (.ref r)), ("depth", .int d)] (fun s vs kV doc pm an ct _ hv => ?_) (by kernel_rfl) (by kernel_rfl) fun L A' hL ff => ?_
  · obtain ⟨v, u, rfl, b⟩ := br2 (x := "self") (y := "depth") hv
    exact ⟨_, .of_eq rfl, b⟩
  · refine ss_if (b_cmp (ev_name m1 (ev_globV em (fun _ => .int _ tm) (cmp_gt ?_))))
    rw [hd]
    cases deep with
    | true =>
      have e : res = .err (l.drop i) := by cases hQ; rfl
      exact ss_expr (ev_nmeth m0 hr P.m_LineReader_fail ff.handled (ev_str (rd_fail (n := m + 1) P hr hx hl hi fun fs τ he hs => ⟨_, .refl _, hbad _ _ _ e (by rw [← drop_pos rfl hi]; exact he) (.of_sub hs)⟩).call))
    | false =>
      refine ss_nil (ss_let (ev_list (fun S hS => ⟨_, .nx (.nx .nil), ?_⟩)))
      have hSx : S ≠ x := fun q => by rw [q, hx] at hS; cases hS
      have hSr : S ≠ r := fun q => by rw [q, hr] at hS; cases hS
      have hr' : upd σ S (.list []) r = some (rdO dr x nl) := by rw [upd_ne _ _ (Ne.symm hSr)]; exact hr
      have hx' : upd σ S (.list []) x = some (cuO dx l i) := by rw [upd_ne _ _ (Ne.symm hSx)]; exact hx
      refine ss_if (b_val (ev_nnmeth m0 hr' P.a_393_cursor rfl hx' P.m_Cursor_skip ff.handled (ev_str ?_)))
      rw [show PySem.Str.ofString ")" = T [41] by kernel_rfl]
      refine (cur_skip P hx' hl hi (by decide) ?_).call
      generalize D : l.drop i = rr at hQ
      have hlen := drop_len D hi
      cases hQ with
      | nil =>
        rename_i t
        have D1 : l.drop i = [41] ++ t := D
        rw [← D, take_beq D1]
        simp only [List.length_cons] at hlen
        exact ⟨_, rfl, ss_ret (ev_tuple ⟨_, sub_upd (sub_new _ hS) _ _, hok _ _ _ rfl (drop_add D1) (by omega) (by simp; omega)⟩)⟩
      | fst h1 h2 h3 =>
        rename_i t a
        rw [← D, take_bne (w := [41]) (fun u q => h1 u (D.symm.trans q))]
        have hS' : ∀ j', cu (upd σ S (.list [])) x dx l j' S = some (.list []) := fun j' => by unfold cu; rw [upd_ne _ _ hSx, upd_same]
        refine ⟨_, rfl, ss_nil (ss_expr (ev_methG (ev_name m2 ⟨_, _, gm_append (upd_same _ _ _), ev_nmeth m0 hr' P.m_LineReader_item ff.handled (ev_name m1 (H (res := .ok a t) rfl hr' hx' hi (by rw [D]; exact h2) (fun a' t' j' e D2 h4 h5 => ?_) (fun _ _ _ e => nomatch e)).call)⟩) ff.handled))⟩
        cases e
        refine ⟨kB, c_append (hS' _) (by decide) ?_⟩
        rw [cu_list _ _ hSx]
        have ht := drop_len D2 h5
        have e2 : cu (upd σ S (.list ([] ++ [a]))) x dx l j' = upd (cu σ x dx l j') S (.list [a]) := upd_comm _ _ _ hSx
        rw [e2]
        refine brack_loop P ff (H rfl) (cu_r hr hx _) (cu_x _) hl h5 (by unfold cu; rw [upd_ne _ _ hSx]; exact hS) (by rw [D2]; exact h3) (by simp; omega) (fun a' t' j'' e D3 h6 h7 => ?_) (fun t' fs τ e he hk => hbad _ _ _ e he (.trans .cu hk)) _
        rw [cu_cu]
        exact hok _ _ _ e D3 (by omega) h7
      | fstx h1 h2 =>
        rename_i t
        rw [← D, take_bne (w := [41]) (fun u q => h1 u (D.symm.trans q))]
        refine ⟨_, rfl, ss_nil (ss_expr (ev_methG (ev_name m2 ⟨_, _, gm_append (upd_same _ _ _), ev_nmeth m0 hr' P.m_LineReader_item ff.handled (ev_name m1 (H (res := .err t) rfl hr' hx' hi (by rw [D]; exact h2) (fun _ _ _ e => nomatch e) (fun t' fs τ e he hk => ?_)).call)⟩) ff.handled))⟩
        cases e
        exact ⟨_, .refl _, hbad _ _ _ rfl he (.trans (.new hS) hk)⟩
end
end Mine
end B9
section B10
open PySem PySem.W PySem.Calls PyProof.Rows PySem.Challenge
set_option maxRecDepth 100000
set_option linter.unusedVariables false
namespace Mine

section
variable {c : Cx} {fm : Fm} {loc : Loc} {n m : Nat} {σ : Sto} {Φ : NPr} {X : CXPr} {r x dx dr : Addr} {l : List Nat} {i nl : Nat}

noncomputable def ifBody : Stmt → List Stmt
  | .If _ b _ _ => b
  | _ => []
theorem get_drop {l : List Nat} {i : Nat} (m : Nat) : l[i + m]? = (l.drop i)[m]? := (List.getElem?_drop ..).symm
theorem head_get (l : List Nat) : l[0]? = l.head? := by cases l <;> rfl

theorem item_whole (P : PK c) {sub : List Nat → PR PV → Prop} {deep : Bool} {d : Int} {res : PR PV} {L : Addr} {A' : Around} (ff : FF (fm0 (fnScope (inSt 20 6)) L "LineReader.item" 340 (.ref 339) A' (m + 7)))
    (hr : σ r = some (rdO dr x nl)) (hx : σ x = some (cuO dx l i)) (hl : l.length < 2 ^ 20) (hi : i ≤ l.length) {rw : PR Int} (hm : ∀ t, l.drop i = 45 :: t → ∃ k, t.head? = some k ∧ k ∈ figs) (hW : WR (l.drop i) rw)
    (hok : ∀ a t j, rw = .ok a t → l.drop j = t → i ≤ j → j ≤ l.length → Φ (.int a) (cu σ x dx l j))
    (hbad : ∀ t fs τ, rw = .err t → ErrAt (l.length - t.length) fs τ → Keep r x σ τ → X 95 fs τ) (N : NXt) :
    SS c (fm0 (fnScope (inSt 20 6)) L "LineReader.item" 340 (.ref 339) A' (m + 7)) ((fnBody (inSt 20 6)).drop 2) [("self", .k (.ref r)), ("depth", .int d)] σ N
      (UpR Φ) (UpX X) := by
  obtain ⟨tf, ef⟩ := P.g_FIGURES
  rw [figs_of] at ef
  have go : ∀ {N : NXt}, SS c (fm0 (fnScope (inSt 20 6)) L "LineReader.item" 340 (.ref 339) A' (m + 7)) ((fnBody (inSt 20 6)).drop 3) [("self", .k (.ref r)), ("depth", .int d)] σ N
      (UpR Φ) (UpX X) :=
    ss_ret (ev_nmeth m0 hr P.m_LineReader_whole ff.handled (rd_whole (n := m + 1) P hr hx hl hi hW (fun a t j e1 e2 h3 h4 => ⟨_, .refl _, hok a t j e1 e2 h3 h4⟩) fun t fs τ e he hk => ⟨_, .refl _, hbad t fs τ e he hk⟩).call)
  refine ss_if (b_bool (b_cmp (ev_nnmeth m0 hr P.a_393_cursor rfl hx P.m_Cursor_peek ff.handled (cur_peek0 (n := m + 6) P hx hl (ev_str (cmp_eqs ?_))).call)))
  rw [show PySem.Str.ofString "-" = T [45] by kernel_rfl, T_beq]
  by_cases q : ∃ t, l.drop i = 45 :: t
  · obtain ⟨t, D⟩ := q
    obtain ⟨k, hk, hkf⟩ := hm t D
    have e0 : l[i]? = some 45 := by rw [show l[i]? = l[i + 0]? from rfl, get_drop, D]; rfl
    have e1 : l[i + 1]? = some k := by rw [get_drop, D]; show t[0]? = _; rw [head_get]; exact hk
    rw [e0, show (sgn (some 45) == [45]) = true from rfl]
    refine b_bool (b_cmp (ev_nnmeth m0 hr P.a_393_cursor rfl hx P.m_Cursor_peek ff.handled (ev_int (cur_peek1 (n := m + 6) P hx hl (ev_str (cmp_eqs ?_))).call)))
    rw [str_nil, T_beq, e1, show (sgn (some k) == []) = false from rfl]
    refine b_cmp (ev_nnmeth m0 hr P.a_393_cursor rfl hx P.m_Cursor_peek ff.handled (ev_int (cur_peek1 (n := m + 6) P hx hl (ev_globV ef (fun _ => .str _ tf) (cmp_notin ?_))).call))
    rw [e1, show (!(Builtin.Str.occurrences (T figs) (T (sgn (some k))) 0 (T figs).length 1).isEmpty) = decide (k ∈ figs) from found_T _ k, decide_eq_true hkf]
    exact ss_nil go
  · have e : (sgn l[i]? == [45]) = false := by
      rw [beq_eq_false_iff_ne]
      intro z
      cases e : l[i]? with
      | none => rw [e] at z; cases z
      | some k =>
        rw [e] at z
        cases z
        rw [show l[i]? = l[i + 0]? from rfl, get_drop] at e
        cases D : l.drop i with
        | nil => rw [D] at e; cases e
        | cons k t => rw [D] at e; cases e; exact q ⟨t, D⟩
    rw [e]
    exact ss_nil go

theorem rd_item1 (P : PK c) {sub : List Nat → PR PV → Prop} {deep : Bool} {d : Int} {res : PR PV} {args : List PV}
    (hb : ∀ s vs kV doc pm an ct, c.K.In s.heap → VRs s.heap args vs → ∃ bs, BindsTo s (fnOf "item" "LineReader.item" (fnArgs (inSt 20 6)) (fnBody (inSt 20 6)) (fnScope (inSt 20 6)) (.ref 333) kV doc pm an (.ref 339) ct) ⟨vs, []⟩ bs ∧ BR s.heap [("self", .k (.ref r)), ("depth", .int d)] bs)
    (H : deep = false → ItemC c sub (m + 6) (d + 1) r x dx dr l) (hd : decide (2 < d + 1) = deep)
    (hr : σ r = some (rdO dr x nl)) (hx : σ x = some (cuO dx l i)) (hl : l.length < 2 ^ 20) (hi : i ≤ l.length) (hQ : IB sub deep (l.drop i) res)
    (hok : ∀ a t j, res = .ok a t → l.drop j = t → i ≤ j → j ≤ l.length → Φ a (cu σ x dx l j))
    (hbad : ∀ t fs τ, res = .err t → ErrAt (l.length - t.length) fs τ → Keep r x σ τ → X 95 fs τ) : CallC c (m + 8) (.ref 340) args σ Φ X := by
  refine call_pl P.f_LineReader_item [("self", .k (.ref r)), ("depth", .int d)] hb (by kernel_rfl) (by kernel_rfl) fun L A' hL ff => ?_
  obtain ⟨tf, ef⟩ := P.g_FIGURES
  rw [figs_of] at ef
  refine ss_if (b_val (ev_nnmeth m0 hr P.a_393_cursor rfl hx P.m_Cursor_skip ff.handled (ev_str ?_)))
  rw [show PySem.Str.ofString "\"" = T [34] by kernel_rfl]
  refine (cur_skip P hx hl hi (by decide) ?_).call
  generalize D : l.drop i = rr at hQ
  have hlen := drop_len D hi
  have hr' := cu_r hr hx
  have no1 : (∀ t, rr ≠ 34 :: t) → ((l.drop i).take ([34] : List Nat).length == [34]) = false := fun h => take_bne (w := [34]) (fun u q => h u (D.symm.trans q))
  have no2 : (∀ t, rr ≠ 40 :: t) → ((l.drop i).take ([40] : List Nat).length == [40]) = false := fun h => take_bne (w := [40]) (fun u q => h u (D.symm.trans q))
  cases hQ with
  | str h1 =>
    rename_i r1 s t
    have D1 : l.drop i = [34] ++ r1 := D
    simp only [List.length_cons] at hlen
    rw [← D, take_beq D1]
    refine ⟨_, rfl, ss_let (ev_nnmeth m0 (hr' _) P.a_393_cursor rfl (cu_x _) P.m_Cursor_quoted ff.handled (ev_str ?_))⟩
    refine (cur_quoted (n := m + 3) (res := some (s, t)) P (cu_x _) hl (by simp; omega) (by rw [drop_add D1]; exact h1) (fun s' t' j e D2 h2 h3 => ⟨_, .nx (.nx .nil), ?_⟩) (fun e => nomatch e)).call
    cases e
    rw [cu_cu]
    refine ss_if (b_cmp (ev_name m2 (ev_none (cmp_is ?_))))
    exact ss_nil (ss_ret (ev_name m2 ⟨_, .refl _, hok _ _ _ rfl D2 (by simp at h2; omega) h3⟩))
  | strx h1 =>
    rename_i r1
    have D1 : l.drop i = [34] ++ r1 := D
    simp only [List.length_cons] at hlen
    rw [← D, take_beq D1]
    refine ⟨_, rfl, ss_let (ev_nnmeth m0 (hr' _) P.a_393_cursor rfl (cu_x _) P.m_Cursor_quoted ff.handled (ev_str ?_))⟩
    refine (cur_quoted (n := m + 3) (res := none) P (cu_x _) hl (by simp; omega) (by rw [drop_add D1]; exact h1) (fun s' t' j e => nomatch e) (fun _ => ⟨_, .nx (.nx .nil), ?_⟩)).call
    rw [cu_cu]
    refine ss_if (b_cmp (ev_name m2 (ev_none (cmp_is ?_))))
    exact ss_expr (ev_nmeth m0 (hr' _) P.m_LineReader_fail ff.handled (ev_str (rd_fail (n := m + 2) P (hr' _) (cu_x _) hl (Nat.le_refl _) fun fs τ he hs => ⟨_, .refl _, hbad _ _ _ rfl he (.trans .cu (.of_sub hs))⟩).call))
  | brack h1 =>
    rename_i r1
    have D1 : l.drop i = [40] ++ r1 := D
    simp only [List.length_cons] at hlen
    rw [← D, take_bne (w := [34]) (fun u q => by rw [D1] at q; cases q)]
    refine ⟨_, rfl, ss_nil (ss_if (b_val (ev_nnmeth m0 hr P.a_393_cursor rfl hx P.m_Cursor_skip ff.handled (ev_str ?_))))⟩
    rw [show PySem.Str.ofString "(" = T [40] by kernel_rfl]
    refine (cur_skip P hx hl hi (by decide) ?_).call
    rw [take_beq D1]
    refine ⟨_, rfl, ss_ret (ev_nmeth m0 (hr' _) P.m_LineReader_bracket ff.handled (ev_binop (ev_name m1 (ev_int (op_add ?_)))))⟩
    refine (rd_bracket (m := m) P H hd (hr' _) (cu_x _) hl (by simp; omega) (by simp) (by rw [drop_add D1]; exact h1) (fun a t j e D2 h2 h3 => ⟨_, .refl _, ?_⟩) fun t fs τ e he hk => ⟨_, .refl _, hbad _ _ _ e he (.trans .cu hk)⟩).call
    rw [cu_cu]
    exact hok _ _ _ e D2 (by simp at h2; omega) h3
  | none h1 =>
    rename_i t
    have D1 : l.drop i = [45] ++ t := D
    simp only [List.length_cons] at hlen
    rw [← D, no1 (fun u q => by cases q)]
    refine ⟨_, rfl, ss_nil (ss_if (b_val (ev_nnmeth m0 hr P.a_393_cursor rfl hx P.m_Cursor_skip ff.handled (ev_str ?_))))⟩
    rw [show PySem.Str.ofString "(" = T [40] by kernel_rfl]
    refine (cur_skip P hx hl hi (by decide) ?_).call
    rw [no2 (fun u q => by cases q)]
    refine ⟨_, rfl, ss_nil (ss_if (b_bool (b_cmp (ev_nnmeth m0 hr P.a_393_cursor rfl hx P.m_Cursor_peek ff.handled (cur_peek0 (n := m + 6) P hx hl (ev_str (cmp_eqs ?_))).call))))⟩
    have e0 : l[i]? = some 45 := by rw [show l[i]? = l[i + 0]? from rfl, get_drop, D]; rfl
    have e1 : l[i + 1]? = t.head? := by rw [get_drop, D]; show t[0]? = _; rw [head_get]
    rw [show PySem.Str.ofString "-" = T [45] by kernel_rfl, T_beq, e0, show (sgn (some 45) == [45]) = true from rfl]
    refine b_bool (b_cmp (ev_nnmeth m0 hr P.a_393_cursor rfl hx P.m_Cursor_peek ff.handled (ev_int (cur_peek1 (n := m + 6) P hx hl (ev_str (cmp_eqs ?_))).call)))
    rw [str_nil, T_beq, e1]
    have fin : ∀ {N : NXt}, SS c (fm0 (fnScope (inSt 20 6)) L "LineReader.item" 340 (.ref 339) A' (m + 7)) (ifBody (((fnBody (inSt 20 6))[2]?).getD passS)) [("self", .k (.ref r)), ("depth", .int d)] σ N
      (UpR Φ) (UpX X) :=
      ss_expr (ev_nnmeth m0 hr P.a_393_cursor rfl hx P.m_Cursor_take ff.handled (cur_take (n := m + 5) P hx hl e0 (ss_ret (ev_none ⟨_, .refl _, hok _ _ _ rfl (drop_add D1) (by omega) (by omega)⟩))).call)
    cases et : t.head? with
    | none =>
      rw [show (sgn none == []) = true from rfl]
      exact fin
    | some k =>
      rw [show (sgn (some k) == []) = false from rfl]
      refine b_cmp (ev_nnmeth m0 hr P.a_393_cursor rfl hx P.m_Cursor_peek ff.handled (ev_int (cur_peek1 (n := m + 6) P hx hl (ev_globV ef (fun _ => .str _ tf) (cmp_notin ?_))).call))
      rw [e1, et, show (!(Builtin.Str.occurrences (T figs) (T (sgn (some k))) 0 (T figs).length 1).isEmpty) = decide (k ∈ figs) from found_T _ k, decide_eq_false (h1 k et)]
      exact fin
  | int h1 h2 h3 h4 =>
    rename_i t a
    rw [← D, no1 h1]
    refine ⟨_, rfl, ss_nil (ss_if (b_val (ev_nnmeth m0 hr P.a_393_cursor rfl hx P.m_Cursor_skip ff.handled (ev_str ?_))))⟩
    rw [show PySem.Str.ofString "(" = T [40] by kernel_rfl]
    refine (cur_skip P hx hl hi (by decide) ?_).call
    rw [no2 h2]
    exact ⟨_, rfl, ss_nil (item_whole (sub := sub) (deep := deep) (res := .ok (.int a) t) P ff hr hx hl hi (by rw [D]; exact h3) (rw := .ok a t) (by rw [D]; exact h4) (fun a' t' j e D2 h5 h6 => by cases e; exact hok _ _ _ rfl D2 h5 h6) (fun _ _ _ e => nomatch e) _)⟩
  | intx h1 h2 h3 h4 =>
    rename_i t
    rw [← D, no1 h1]
    refine ⟨_, rfl, ss_nil (ss_if (b_val (ev_nnmeth m0 hr P.a_393_cursor rfl hx P.m_Cursor_skip ff.handled (ev_str ?_))))⟩
    rw [show PySem.Str.ofString "(" = T [40] by kernel_rfl]
    refine (cur_skip P hx hl hi (by decide) ?_).call
    rw [no2 h2]
    exact ⟨_, rfl, ss_nil (item_whole (sub := sub) (deep := deep) (res := .err t) P ff hr hx hl hi (by rw [D]; exact h3) (rw := .err t) (by rw [D]; exact h4) (fun _ _ _ e => nomatch e) (fun t' fs τ e he hk => by cases e; exact hbad _ _ _ rfl he hk) _)⟩

theorem rd_item_k (P : PK c) (hl : l.length < 2 ^ 20) (m : Nat) (r x dx dr : Addr) : ∀ (k : Nat) (d : Int), d = 2 - k → ItemC c (PIt k) (m + 8 + 2 * k) d r x dx dr l
  | 0, d, hd => fun hr hx hi hQ hok hbad => by
    refine rd_item1 (m := m) (d := d) (sub := fun _ _ => False) (deep := true) P (fun s vs kV doc pm an ct hK hv => ?_) (fun h => nomatch h) (decide_eq_true (by omega)) hr hx hl hi hQ hok hbad
    obtain ⟨v, u, rfl, b⟩ := br2 (x := "self") (y := "depth") hv
    obtain ⟨o, z, t, e, dd⟩ := P.d_333
    exact ⟨_, .of_defaults rfl (hK _ _ e) dd rfl rfl, b⟩
  | k + 1, d, hd => fun hr hx hi hQ hok hbad => by
    rw [show m + 8 + 2 * (k + 1) = m + 2 + 2 * k + 8 by omega]
    refine rd_item1 (m := m + 2 + 2 * k) (d := d) (sub := PIt k) (deep := false) P (fun s vs kV doc pm an ct hK hv => ?_) (fun _ => ?_) ?_ hr hx hl hi hQ hok hbad
    · obtain ⟨v, u, rfl, b⟩ := br2 (x := "self") (y := "depth") hv
      obtain ⟨o, z, t, e, dd⟩ := P.d_333
      exact ⟨_, .of_defaults rfl (hK _ _ e) dd rfl rfl, b⟩
    · rw [show m + 2 + 2 * k + 6 = m + 8 + 2 * k by omega]
      exact rd_item_k P hl m r x dx dr k (d + 1) (by omega)
    · exact decide_eq_false (by omega)

theorem rd_item0 (P : PK c) {res : PR PV} (hr : σ r = some (rdO dr x nl)) (hx : σ x = some (cuO dx l i)) (hl : l.length < 2 ^ 20) (hi : i ≤ l.length) (hQ : PIt 2 (l.drop i) res)
    (hok : ∀ a t j, res = .ok a t → l.drop j = t → i ≤ j → j ≤ l.length → Φ a (cu σ x dx l j))
    (hbad : ∀ t fs τ, res = .err t → ErrAt (l.length - t.length) fs τ → Keep r x σ τ → X 95 fs τ) : CallC c (m + 12) (.ref 340) [.k (.ref r)] σ Φ X := by
  obtain ⟨o, k, t, e, d⟩ := P.d_333
  refine rd_item1 (m := m + 4) (d := 0) (sub := PIt 1) (deep := false) P (fun s vs kV doc pm an ct hK hv => ?_) (fun _ => ?_) rfl hr hx hl hi hQ hok hbad
  · obtain ⟨v, rfl, b⟩ := br1 (x := "self") hv
    refine ⟨_, .of_defaults rfl (hK _ _ e) d rfl rfl, ?_⟩
    cases b with
    | cons a b => exact .cons a (.cons (.int 0 t) .nil)
  · exact rd_item_k P hl m r x dx dr 1 1 rfl
end
end Mine
end B10
section B11
open PySem PySem.W PySem.Calls PyProof.Rows PySem.Challenge
set_option maxRecDepth 100000
set_option linter.unusedVariables false
namespace Mine

inductive LT : Nat → List PV → List Nat → PR (List PV) → Prop
  | zero {acc : List PV} {t : List Nat} : LT 0 acc (10 :: t) (.ok acc t)
  | zerox {acc : List PV} {r : List Nat} : (∀ t, r ≠ 10 :: t) → LT 0 acc r (.err r)
  | next {k : Nat} {acc : List PV} {r t : List Nat} {a : PV} {res : PR (List PV)} : PIt 2 r (.ok a t) → LT k (acc ++ [a]) t res → LT (k + 1) acc (32 :: r) res
  | nextx {k : Nat} {acc : List PV} {r t : List Nat} : PIt 2 r (.err t) → LT (k + 1) acc (32 :: r) (.err t)
  | nextb {k : Nat} {acc : List PV} {r : List Nat} : (∀ t, r ≠ 32 :: t) → LT (k + 1) acc r (.err r)
inductive IT (w : List Nat) : List Nat → PR (List PV) → Prop
  | word {r : List Nat} : (∀ t, r ≠ (w ++ [32]) ++ t) → IT w r (.err r)
  | many {r t : List Nat} : WR r (.err t) → IT w ((w ++ [32]) ++ r) (.err t)
  | colon {r t : List Nat} {a : Int} : WR r (.ok a t) → (∀ u, t ≠ 58 :: u) → IT w ((w ++ [32]) ++ r) (.err t)
  | go {r t : List Nat} {a : Int} {res : PR (List PV)} : WR r (.ok a (58 :: t)) → a < 2 ^ 60 → -(2 ^ 60) < a → LT a.toNat [] t res → IT w ((w ++ [32]) ++ r) res

section
variable {c : Cx} {fm : Fm} {loc : Loc} {n m : Nat} {σ : Sto} {Φ : NPr} {X : CXPr} {r x dx dr : Addr} {l : List Nat} {i nl : Nat}

inductive ItmI (σ : Sto) (r x dx S : Addr) (l w : List Nat) (i : Nat) (a : Int) (res : PR (List PV)) (k : Nat) (lo : Loc) (τ : Sto) : Prop
  | mk (j : Nat) (acc : List PV) (h0 : k ≤ a.toNat) (h1 : acc.length ≤ j) (h2 : i ≤ j) (h3 : j ≤ l.length) (h4 : LT (a.toNat - k) acc (l.drop j) res) (h5 : lo = ([("self", .k (.ref r)), ("word", .str (T w)), ("many", .int a), ("found", .k (.ref S))] : Loc)) (h6 : Sub (cu (upd σ S (.list acc)) x dx l j) τ)
theorem rd_items (P : PK c) {w : List Nat} {res : PR (List PV)} (hr : σ r = some (rdO dr x nl)) (hx : σ x = some (cuO dx l i)) (hl : l.length < 2 ^ 20) (hi : i ≤ l.length) (hw : w.length < 1000) (hQ : IT w (l.drop i) res)
    (hok : ∀ ps t j S, res = .ok ps t → l.drop j = t → i ≤ j → j ≤ l.length → ps.length ≤ l.length → σ S = none → Φ (.k (.ref S)) (upd (upd (cu σ x dx l j) r (rdO dr x (nl + 1))) S (.list ps)))
    (hbad : ∀ t fs τ, res = .err t → ErrAt (l.length - t.length) fs τ → Keep r x σ τ → X 95 fs τ) : CallC c (m + 13) (.ref 354) [.k (.ref r), .str (T w)] σ Φ X := by
  refine call_pl P.f_LineReader_items [("self", .k (.ref r)), ("word", .str (T w))] (fun s vs kV doc pm an ct _ hv => ?_) (by kernel_rfl) (by kernel_rfl) fun L A' hL ff => ?_
  · obtain ⟨v, u, rfl, b⟩ := br2 (x := "self") (y := "word") hv
    exact ⟨_, .of_eq rfl, b⟩
  have hr' := cu_r hr hx
  have hww : (w ++ [32]).length = w.length + 1 := by rw [List.length_append]; rfl
  refine ss_expr (ev_nmeth m0 hr P.m_LineReader_need ff.handled (ev_binop (ev_name m1 (ev_str (op_cat ?_ ?_)))))
  · rw [show (PySem.Str.ofString " ").length = 1 by kernel_rfl, T_len]; unfold sizeLine; omega
  rw [show PySem.Str.ofString " " = T [32] by kernel_rfl, T_append]
  by_cases hp : ∀ t, l.drop i ≠ (w ++ [32]) ++ t
  · refine (rd_need (n := m + 6) P hr hx hl hi (by omega) (fun q => by rw [take_bne hp] at q; cases q) fun q fs τ he hs => ⟨_, .refl _, hbad (l.drop i) fs τ ?_ ?_ (.of_sub hs)⟩).call
    · generalize hD : l.drop i = L0 at hQ hp
      cases hQ with
      | word => rfl
      | _ => exact absurd rfl (hp _)
    · rw [← drop_pos rfl hi]; exact he
  have hp : ∃ t, l.drop i = (w ++ [32]) ++ t := Classical.byContradiction fun h => hp fun t q => h ⟨t, q⟩
  obtain ⟨r1, D⟩ := hp
  have hlen := drop_len D hi
  rw [List.length_append, hww] at hlen
  have D1 := drop_add D
  rw [hww] at D1
  refine (rd_need (n := m + 6) P hr hx hl hi (by omega) (fun _ => ?_) fun q => absurd (take_beq D) (by rw [q]; decide)).call
  rw [hww]
  have hW : ∃ rw, WR r1 rw ∧ (∀ t, rw = .err t → res = .err t) ∧ (∀ a t, rw = .ok a t → ((∀ u, t ≠ 58 :: u) → res = .err t) ∧ (∀ u, t = 58 :: u → a < 2 ^ 60 ∧ -(2 ^ 60) < a ∧ LT a.toNat [] u res)) := by
    rw [D] at hQ
    generalize hz : (w ++ [32]) ++ r1 = L0 at hQ
    cases hQ with
    | word h => exact absurd hz.symm (h _)
    | many h =>
      rw [List.append_cancel_left hz]
      exact ⟨.err _, h, fun t e => by cases e; rfl, fun a t e => (nomatch e)⟩
    | colon h h1 =>
      rw [List.append_cancel_left hz]
      exact ⟨.ok _ _, h, fun t e => (nomatch e), fun a t e => by cases e; exact ⟨fun _ => rfl, fun u q => absurd q (h1 u)⟩⟩
    | go h h1 h2 h3 =>
      rw [List.append_cancel_left hz]
      exact ⟨.ok _ _, h, fun t e => (nomatch e), fun a t e => by cases e; exact ⟨fun q => absurd rfl (q _), fun u q => by cases q; exact ⟨h1, h2, h3⟩⟩⟩
  obtain ⟨rw0, hW, hWx, hWo⟩ := hW
  refine ss_let (ev_nmeth m0 (hr' _) P.m_LineReader_whole ff.handled (rd_whole (n := m + 6) P (hr' _) (cu_x _) hl (by omega) (by rw [D1]; exact hW) (fun a t j e D2 h3 h4 => ⟨_, .nx (.nx .nil), ?_⟩) fun t fs τ e he hk => ⟨_, .refl _, hbad _ _ _ (hWx t e) he (.trans .cu hk)⟩).call)
  rw [cu_cu]
  obtain ⟨hc1, hc2⟩ := hWo a t e
  have hlen2 := drop_len D2 h4
  refine ss_expr (ev_nmeth m0 (hr' _) P.m_LineReader_need ff.handled (ev_str ?_))
  rw [show PySem.Str.ofString ":" = T [58] by kernel_rfl]
  by_cases hp : ∀ u, t ≠ 58 :: u
  · refine (rd_need (n := m + 6) P (hr' _) (cu_x _) hl h4 (by decide) (fun q => by rw [take_bne (w := [58]) (fun u q => hp u (D2.symm.trans q))] at q; cases q) fun q fs τ he hs => ⟨_, .refl _, hbad _ _ _ (hc1 hp) ?_ (.trans .cu (.of_sub hs))⟩).call
    rw [← drop_pos D2 h4]; exact he
  have hp : ∃ u, t = 58 :: u := Classical.byContradiction fun h => hp fun t q => h ⟨t, q⟩
  obtain ⟨u, rfl⟩ := hp
  have D3 : l.drop j = [58] ++ u := D2
  have D4 := drop_add D3
  obtain ⟨ha1, ha2, hLT⟩ := hc2 u rfl
  simp only [List.length_cons] at hlen2
  simp only [List.length_cons, List.length_nil] at D4
  refine (rd_need (n := m + 6) P (hr' _) (cu_x _) hl h4 (by decide) (fun _ => ?_) fun q => absurd (take_beq D3) (by rw [q]; decide)).call
  rw [cu_cu]
  simp only [List.length_cons, List.length_nil]
  refine ss_let (ev_list (fun S hS => ⟨_, .nx (.nx (.nx .nil)), ?_⟩))
  have hS0 : σ S = none := by
    unfold cu at hS
    by_cases q : S = x
    · rw [q, upd_same] at hS; cases hS
    · rw [upd_ne _ _ q] at hS; exact hS
  have hSx : S ≠ x := fun q => by rw [q, hx] at hS0; cases hS0
  have hSr : S ≠ r := fun q => by rw [q, hr] at hS0; cases hS0
  have hS' : ∀ acc j', cu (upd σ S (.list acc)) x dx l j' S = some (.list acc) := fun acc j' => by unfold cu; rw [upd_ne _ _ hSx, upd_same]
  have hy : ∀ acc j', cu (upd σ S (.list acc)) x dx l j' x = some (cuO dx l j') := fun acc j' => upd_same _ _ _
  have hr2 : ∀ acc j', cu (upd σ S (.list acc)) x dx l j' r = some (rdO dr x nl) := fun acc j' => by unfold cu; rw [upd_ne _ _ (rx_ne hr hx), upd_ne _ _ (Ne.symm hSr)]; exact hr
  have kp : ∀ acc j', Keep r x σ (cu (upd σ S (.list acc)) x dx l j') := fun acc j' => .trans (.new hS0) .cu
  have e0 : upd (cu σ x dx l (j + (0 + 1))) S (.list []) = cu (upd σ S (.list [])) x dx l (j + (0 + 1)) := upd_comm _ _ _ (Ne.symm hSx)
  rw [e0]
  refine ss_for ff (ItmI σ r x dx S l w i a res) ?_
  refine ev_call (ev_builtin P.b_range rfl ⟨_, rfl, ev_name m2 ⟨kT, c_range fun R hR => ?_⟩⟩) ff.handled
  refine ⟨_, _, _, src_range (upd_same _ _ _) (by omega) (by omega), trivial, ⟨j + 1, [], by omega, by simp, by omega, by omega, by rw [D4]; exact hLT, rfl, sub_new _ hR⟩, fun _ _ _ _ => trivial, ?_, ?_⟩
  · rintro k q lo τ hq ⟨j2, acc, hk0, hz, hij, hj, hQ, rfl, hs⟩
    obtain ⟨rfl, hk⟩ := rangePV_get hq
    refine as_name (.nx (.nx (.nx (.nx .nil)))) (ss_forget (fun p hp => hp) hs ?_)
    obtain ⟨z, hz1, hz2⟩ : ∃ z, a.toNat - k = z + 1 ∧ a.toNat - (k + 1) = z := ⟨a.toNat - (k + 1), by omega, rfl⟩
    rw [hz1] at hQ
    refine ss_expr (ev_nmeth m0 (hr2 _ _) P.m_LineReader_need ff.handled (ev_str ?_))
    generalize D : l.drop j2 = rr at hQ
    have hlen := drop_len D hj
    cases hQ with
    | next h1 h2 =>
      rename_i r1 t a'
      have D1 : l.drop j2 = [32] ++ r1 := D
      simp only [List.length_cons] at hlen
      refine (rd_need (n := m + 6) P (hr2 _ _) (hy _ _) hl hj (by decide) (fun _ => ?_) fun q => absurd (take_beq D1) (by rw [q]; decide)).call
      rw [cu_cu]
      refine ss_expr (ev_methG (ev_name m3 ⟨_, _, gm_append (hS' _ _), ev_nmeth m0 (hr2 _ _) P.m_LineReader_item ff.handled (rd_item0 (m := m) P (res := .ok a' t) (hr2 _ _) (hy _ _) hl (by simp; omega) (by rw [drop_add D1]; exact h1) (fun a3 t' j' e D2 h3 h4 => ?_) (fun _ _ _ e => nomatch e)).call⟩) ff.handled)
      cases e
      rw [cu_cu]
      refine ⟨kB, c_append (hS' _ _) (by unfold sizeLine; omega) ?_⟩
      rw [cu_list _ _ hSx]
      simp only [List.length_cons, List.length_nil] at h3
      exact ss_nil ⟨_, _, fun p hp => List.mem_of_mem_take (i := 4) hp, .refl _, j', acc ++ [a'], by omega, by rw [List.length_append]; simp; omega, by omega, h4, by rw [D2, hz2]; exact h2, rfl, .refl _⟩
    | nextx h1 =>
      rename_i r1 t
      have D1 : l.drop j2 = [32] ++ r1 := D
      simp only [List.length_cons] at hlen
      refine (rd_need (n := m + 6) P (hr2 _ _) (hy _ _) hl hj (by decide) (fun _ => ?_) fun q => absurd (take_beq D1) (by rw [q]; decide)).call
      rw [cu_cu]
      refine ss_expr (ev_methG (ev_name m3 ⟨_, _, gm_append (hS' _ _), ev_nmeth m0 (hr2 _ _) P.m_LineReader_item ff.handled (rd_item0 (m := m) P (res := .err t) (hr2 _ _) (hy _ _) hl (by simp; omega) (by rw [drop_add D1]; exact h1) (fun _ _ _ e => nomatch e) (fun t' fs τ e he hk => ?_)).call⟩) ff.handled)
      cases e
      exact ⟨_, .refl _, hbad _ _ _ rfl he (.trans (kp _ _) hk)⟩
    | nextb h1 =>
      refine (rd_need (n := m + 6) P (hr2 _ _) (hy _ _) hl hj (by decide) (fun q => ?_) fun q fs τ he hs => ⟨_, .refl _, hbad _ _ _ rfl ?_ (.trans (kp _ _) (.of_sub hs))⟩).call
      · rw [take_bne (w := [32]) (fun u q => h1 u (D.symm.trans q))] at q; cases q
      · rw [← drop_pos D hj]; exact he
  · rintro lo τ ⟨j2, acc, hk0, hz, hij, hj, hQ, rfl, hs⟩
    rw [rangePV_len, Nat.sub_self] at hQ
    refine ss_forget (fun p hp => hp) hs ?_
    generalize D : l.drop j2 = rr at hQ
    cases hQ with
    | zero =>
      rename_i t
      have D1 : l.drop j2 = [10] ++ t := D
      have hlen := drop_len D hj
      simp only [List.length_cons] at hlen
      refine ss_expr (ev_nmeth m0 (hr2 _ _) P.m_LineReader_end_line ff.handled (rd_end_line (n := m + 5) P (hr2 _ _) (hy _ _) hl hj (fun _ => ?_) fun q => absurd (take_beq D1) (by rw [show ([10] : List Nat).length = 1 from rfl, q]; decide)).call)
      rw [cu_cu]
      refine ss_ret (ev_name m3 ⟨_, .refl _, ?_⟩)
      have e : upd (cu (upd σ S (.list acc)) x dx l (j2 + 1)) r (rdO dr x (nl + 1)) = upd (upd (cu σ x dx l (j2 + 1)) r (rdO dr x (nl + 1))) S (.list acc) := by
        unfold cu
        rw [upd_comm _ _ _ hSx, upd_comm _ _ _ hSr]
      rw [e]
      exact hok _ _ _ _ rfl (drop_add D1) (by omega) (by omega) (by omega) hS0
    | zerox h =>
      refine ss_expr (ev_nmeth m0 (hr2 _ _) P.m_LineReader_end_line ff.handled (rd_end_line (n := m + 5) P (hr2 _ _) (hy _ _) hl hj (fun q => ?_) fun q fs τ he hs => ⟨_, .refl _, hbad _ _ _ rfl ?_ (.trans (kp _ _) (.of_sub hs))⟩).call)
      · rw [show ((l.drop j2).take 1 == [10]) = false from take_bne (w := [10]) (fun u q => h u (D.symm.trans q))] at q; cases q
      · rw [← drop_pos D hj]; exact he
end
end Mine
end B11
section B12
open PySem PySem.W PySem.Calls PyProof.Rows PySem.Challenge
set_option maxRecDepth 100000
set_option linter.unusedVariables false
namespace Mine

theorem op_not {c : Cx} {b : Bool} {σ : Sto} {Φ : NPr} (h : Φ (.k (.bool (!b))) σ) : Op1 c (unaryOp .Not) (.k (.bool b)) σ Φ := ⟨fun A n s v R hv => by
  cases hv
  exact PyProof.Rows.not_of (wpAny_truthy_bool ⟨_, _, h, .k _, R, .refl _ _⟩)⟩

noncomputable def forBody : Stmt → List Stmt
  | .For _ _ b _ _ => b
  | _ => []
noncomputable def oi : Option Int → PV
  | some a => .int a
  | none => .k .none
noncomputable def numOk (lo hi : Option Int) : PV → Bool
  | .int a => lo.all (fun b => decide (b ≤ a)) && hi.all (fun b => decide (a ≤ b))
  | _ => false
noncomputable def numsOk (lo hi : Option Int) (many : Option Int) (ps : List PV) : Bool := many.all (fun b => decide ((ps.length : Int) = b)) && ps.all (numOk lo hi)
theorem oi_none (o : Option Int) : (oi o).isNone = o.isNone := by cases o <;> rfl

theorem m7 {α : Type _} {a b c d e f g h : α} {r : List α} : h ∈ a :: b :: c :: d :: e :: f :: g :: h :: r := .tail _ m6
inductive NumI (r S : Addr) (w : List Nat) (lo hi many : Option Int) (ps : List PV) (τ : Sto) (k : Nat) (lo' : Loc) (τ' : Sto) : Prop
  | mk (a : k ≤ ps.length) (b : (ps.take k).all (numOk lo hi) = true) (e : lo' = ([("self", .k (.ref r)), ("word", .str (T w)), ("least", oi lo), ("most", oi hi), ("many", oi many), ("found", .k (.ref S))] : Loc)) (q : τ' = τ)

section
variable {c : Cx} {fm : Fm} {loc : Loc} {n m : Nat} {σ : Sto} {Φ : NPr} {X : CXPr} {r x dx dr : Addr} {l : List Nat} {i nl : Nat}

noncomputable abbrev ln (σ : Sto) (r x dr dx : Addr) (l : List Nat) (j nl : Nat) : Sto := upd (cu σ x dx l j) r (rdO dr x nl)
theorem ln_r {j : Nat} : ln σ r x dr dx l j nl r = some (rdO dr x nl) := upd_same _ _ _
theorem ln_x (h : r ≠ x) (j : Nat) : ln σ r x dr dx l j nl x = some (cuO dx l j) := by unfold ln; rw [upd_ne _ _ (Ne.symm h)]; exact upd_same _ _ _
theorem ln_none {j : Nat} {S : Addr} (hr : σ r = some (rdO dr x nl)) (hx : σ x = some (cuO dx l i)) (hS : σ S = none) {k : Nat} : ln σ r x dr dx l j k S = none := by
  unfold ln cu
  rw [upd_ne, upd_ne]
  · exact hS
  · exact fun q => by rw [q, hx] at hS; cases hS
  · exact fun q => by rw [q, hr] at hS; cases hS
theorem Keep.ln {j k : Nat} : Keep r x σ (ln σ r x dr dx l j k) := .trans .cu .at

theorem rd_numbers (P : PK c) {w : List Nat} {lo hi many : Option Int} {res : PR (List PV)} (hr : σ r = some (rdO dr x nl)) (hx : σ x = some (cuO dx l i)) (hl : l.length < 2 ^ 20) (hi' : i ≤ l.length) (hw : w.length < 1000) (hQ : IT w (l.drop i) res)
    (hpl : ∀ ps t, res = .ok ps t → ∀ p ∈ ps, p.plain = true)
    (hok : ∀ ps t j S, res = .ok ps t → numsOk lo hi many ps = true → l.drop j = t → i ≤ j → j ≤ l.length → σ S = none → Φ (.k (.ref S)) (upd (ln σ r x dr dx l j (nl + 1)) S (.list ps)))
    (hbad : ∀ t fs τ, (res = .err t ∨ ∃ ps, res = .ok ps t ∧ numsOk lo hi many ps = false) → ErrAt (l.length - t.length) fs τ → Keep r x σ τ → X 95 fs τ) : CallC c (m + 14) (.ref 362) [.k (.ref r), .str (T w), oi lo, oi hi, oi many] σ Φ X := by
  obtain ⟨o, z, e, dd⟩ := P.d_355
  refine call_pl P.f_LineReader_numbers [("self", .k (.ref r)), ("word", .str (T w)), ("least", oi lo), ("most", oi hi), ("many", oi many)] (fun s vs kV doc pm an ct hK hv => ?_) (by kernel_rfl) (by kernel_rfl) fun L A' hL ff => ?_
  · cases hv with
    | cons a1 hv => cases hv with
      | cons a2 hv => cases hv with
        | cons a3 hv => cases hv with
          | cons a4 hv => cases hv with
            | cons a5 hv =>
              cases hv
              exact ⟨_, .of_defaults rfl (hK _ _ e) dd rfl rfl, .cons a1 (.cons a2 (.cons a3 (.cons a4 (.cons a5 .nil))))⟩
  have hrx := rx_ne hr hx
  refine ss_let (ev_nmeth m0 hr P.m_LineReader_items ff.handled (ev_name m1 (rd_items (m := m) P hr hx hl hi' hw hQ (fun ps t j S e D h1 h2 h3 hS => ⟨_, .nx (.nx (.nx (.nx (.nx .nil)))), ?_⟩) fun t fs τ e he hk => ⟨_, .refl _, hbad _ _ _ (.inl e) he hk⟩).call))
  have hps := hpl _ _ e
  have hSx : S ≠ x := fun q => by rw [q, hx] at hS; cases hS
  have hSr : S ≠ r := fun q => by rw [q, hr] at hS; cases hS
  have hS' : upd (ln σ r x dr dx l j (nl + 1)) S (.list ps) S = some (.list ps) := upd_same _ _ _
  have hx' : upd (ln σ r x dr dx l j (nl + 1)) S (.list ps) x = some (cuO dx l j) := by rw [upd_ne _ _ (Ne.symm hSx)]; exact ln_x hrx _
  have hr' : upd (ln σ r x dr dx l j (nl + 1)) S (.list ps) r = some (rdO dr x (nl + 1)) := by rw [upd_ne _ _ (Ne.symm hSr)]; exact ln_r
  have kp : Keep r x σ (upd (ln σ r x dr dx l j (nl + 1)) S (.list ps)) := .trans .ln (.new (ln_none hr hx hS))
  have hj := drop_pos D h2
  have bad : numsOk lo hi many ps = false → ∀ fs τ, ErrAt j fs τ → Sub (upd (ln σ r x dr dx l j (nl + 1)) S (.list ps)) τ → X 95 fs τ := fun q fs τ he hs => hbad _ _ _ (.inr ⟨_, e, q⟩) (by rw [← hj]; exact he) (.trans kp (.of_sub hs))
  generalize hτ : upd (ln σ r x dr dx l j (nl + 1)) S (.list ps) = τ at *
  have loop : ∀ {N : NXt}, many.all (fun b => decide ((ps.length : Int) = b)) = true → SS c (fm0 (fnScope (inSt 20 9)) L "LineReader.numbers" 362 (.ref 361) A' (m + 13)) ((fnBody (inSt 20 9)).drop 2)
      [("self", .k (.ref r)), ("word", .str (T w)), ("least", oi lo), ("most", oi hi), ("many", oi many), ("found", .k (.ref S))] τ N (UpR Φ) (UpX X) := by
    intro N hm
    refine ss_for ff (NumI r S w lo hi many ps τ) ?_
    refine ev_name m5 ⟨_, _, _, src_list hS', trivial, ⟨Nat.zero_le _, by rw [List.take_zero]; rfl, rfl, rfl⟩, fun _ _ _ ⟨_, _, _, h⟩ => by rw [h]; exact hS', ?_, ?_⟩
    · rintro k q lo' τ' hq ⟨hk, ha, rfl, rfl⟩
      have hkl := (List.getElem?_eq_some_iff.mp hq).1
      have hpq : q.plain = true := hps q (List.mem_of_getElem? hq)
      have hall : (ps.take (k + 1)).all (numOk lo hi) = numOk lo hi q := by
        rw [List.take_add_one, List.all_append, ha, hq]
        simp
      have hno : numOk lo hi q = false → numsOk lo hi many ps = false := fun z => by
        unfold numsOk
        rw [hm, Bool.true_and]
        exact List.all_eq_false.mpr ⟨q, List.mem_of_getElem? hq, by rw [z]; decide⟩
      refine as_name (.nx (.nx (.nx (.nx (.nx (.nx .nil)))))) ?_
      have fail : ∀ {N : NXt} {Rt : NPr} (b : PV), numOk lo hi q = false → SS c (fm0 (fnScope (inSt 20 9)) L "LineReader.numbers" 362 (.ref 361) A' (m + 13)) (ifBody ((forBody (((fnBody (inSt 20 9))[2]?).getD passS))[1]?.getD passS))
          [("self", .k (.ref r)), ("word", .str (T w)), ("least", oi lo), ("most", oi hi), ("many", oi many), ("found", .k (.ref S)), ("item", q), ("is_out", b)] τ' N Rt (UpX X) := fun b z =>
        ss_expr (ev_nmeth m0 hr' P.m_LineReader_fail ff.handled (ev_binop (ev_str (ev_name m1 (op_cat (by rw [show (PySem.Str.ofString "a wrong number for ").length = 19 by kernel_rfl, T_len]; unfold sizeLine; omega) (rd_fail (n := m + 8) P hr' hx' hl h2 fun fs τ he hs => ⟨_, .refl _, bad (hno z) _ _ he hs⟩).call)))))
      have go : ∀ b : Bool, (b = true → numOk lo hi q = false) → (b = false → ∃ a, q = .int a ∧ lo.all (fun b => decide (b ≤ a)) = true) →
          SS c (fm0 (fnScope (inSt 20 9)) L "LineReader.numbers" 362 (.ref 361) A' (m + 13)) ((forBody (((fnBody (inSt 20 9))[2]?).getD passS)).drop 1)
          [("self", .k (.ref r)), ("word", .str (T w)), ("least", oi lo), ("most", oi hi), ("many", oi many), ("found", .k (.ref S)), ("item", q), ("is_out", .k (.bool b))] τ'
          (TurnN (NumI r S w lo hi many ps τ') (k + 1))
          (UpR Φ) (UpX X) := by
        intro b h1 h2
        have fine : ∀ {u : PV}, numOk lo hi q = true → TurnN (NumI r S w lo hi many ps τ') (k + 1) [("self", .k (.ref r)), ("word", .str (T w)), ("least", oi lo), ("most", oi hi), ("many", oi many), ("found", .k (.ref S)), ("item", q), ("is_out", u)] τ' :=
          fun {u} z => ⟨_, _, fun p hp => List.mem_of_mem_take (i := 6) hp, .refl _, by omega, by rw [hall, z], rfl, rfl⟩
        refine ss_if (b_bool (b_val (ev_name m7 ⟨_, rfl, ?_⟩)))
        cases b with
        | true => exact fail _ (h1 rfl)
        | false =>
          obtain ⟨a, rfl, h3⟩ := h2 rfl
          refine b_bool (b_cmp (ev_name m3 (ev_none (cmp_isnot ?_))))
          rw [oi_none]
          cases hi with
          | none =>
            exact ss_nil (ss_nil (fine (by show (_ && _) = true; rw [h3]; rfl)))
          | some u =>
            refine b_cmp (ev_name m6 (ev_name m3 (cmp_gt ?_)))
            by_cases h4 : u < a
            · rw [decide_eq_true h4]
              exact fail _ (by show (_ && decide (a ≤ u)) = false; rw [decide_eq_false (by omega), Bool.and_false])
            · rw [decide_eq_false h4]
              exact ss_nil (ss_nil (fine (by show (_ && decide (a ≤ u)) = true; rw [h3, decide_eq_true (by omega)]; rfl)))
      refine ss_let (ev_or (ev_unop (ev_call (ev_builtin P.b_isinstance rfl ⟨_, rfl, ev_name m6 (ev_builtin P.b_int rfl ⟨kB, c_isi_int hpq (op_not ⟨_, rfl, ?_⟩)⟩)⟩) ff.handled)))
      cases q with
      | int a =>
        refine ev_one (ev_and (ev_cmp (ev_name m2 (ev_none (cmp_isnot ⟨_, rfl, ?_⟩)))))
        rw [oi_none]
        cases lo with
        | none => exact ⟨_, .nx (.nx (.nx (.nx (.nx (.nx (.nx .nil)))))), go false (fun z => nomatch z) (fun _ => ⟨a, rfl, rfl⟩)⟩
        | some u =>
          refine ev_one (ev_cmp (ev_name m6 (ev_name m2 (cmp_lt ⟨_, .nx (.nx (.nx (.nx (.nx (.nx (.nx .nil)))))), go _ (fun z => ?_) (fun z => ⟨a, rfl, ?_⟩)⟩))))
          · have := of_decide_eq_true z
            show (decide (u ≤ a) && _) = false
            rw [decide_eq_false (by omega), Bool.false_and]
          · have := of_decide_eq_false z
            show decide (u ≤ a) = true
            exact decide_eq_true (by omega)
      | _ => exact ⟨_, .nx (.nx (.nx (.nx (.nx (.nx (.nx .nil)))))), go true (fun _ => rfl) (fun z => nomatch z)⟩
    · rintro lo' τ' ⟨_, ha, rfl, rfl⟩
      rw [List.take_length] at ha
      refine ss_ret (ev_name m5 ⟨_, .refl _, ?_⟩)
      rw [← hτ]
      exact hok _ _ _ _ e (by unfold numsOk; rw [hm, ha]; rfl) D h1 h2 hS
  refine ss_if (b_bool (b_cmp (ev_name m4 (ev_none (cmp_isnot ?_)))))
  rw [oi_none]
  cases many with
  | none => exact ss_nil (loop rfl)
  | some b =>
    refine b_cmp (ev_call (ev_builtin P.b_len rfl ⟨_, rfl, ev_name m5 ⟨kB, c_len_list hS' (by omega) (ev_name m4 (cmp_ne ?_))⟩⟩) ff.handled)
    by_cases q : (ps.length : Int) = b
    · rw [show ((ps.length : Int) != b) = false by simp [q]]
      exact ss_nil (loop (decide_eq_true q))
    · rw [show ((ps.length : Int) != b) = true by simp [q]]
      exact ss_expr (ev_nmeth m0 hr' P.m_LineReader_fail ff.handled (ev_binop (ev_str (ev_name m1 (op_cat (by rw [show (PySem.Str.ofString "a wrong number of items for ").length = 28 by kernel_rfl, T_len]; unfold sizeLine; omega) (rd_fail (n := m + 8) P hr' hx' hl h2 fun fs τ he hs => ⟨_, .refl _, bad (by show (decide _ && _) = false; rw [decide_eq_false q, Bool.false_and]) _ _ he hs⟩).call)))))
end
end Mine
end B12
section B13
open PySem PySem.W PySem.Calls PyProof.Rows PySem.Challenge
set_option maxRecDepth 100000
set_option linter.unusedVariables false
namespace Mine

theorem okDs_all {k : Nat} : ∀ {ps : List PV}, okDs k ps = ps.all (PV.okD k)
  | [] => by unfold okDs; rfl
  | p :: r => by unfold okDs; rw [List.all_cons, okDs_all]
theorem okDs_take {k : Nat} {ps : List PV} (n : Nat) (h : okDs k ps = true) : okDs k (ps.take n) = true := by
  rw [okDs_all] at h ⊢
  exact List.all_eq_true.mpr fun p hp => List.all_eq_true.mp h p (List.mem_of_mem_take hp)
theorem okDs_get {k i : Nat} {ps : List PV} {p : PV} (h : okDs k ps = true) (e : ps[i]? = some p) : p.okD k = true := by
  rw [okDs_all] at h
  exact List.all_eq_true.mp h p (List.mem_of_getElem? e)
theorem okD_plain {k : Nat} {p : PV} (h : p.okD k = true) : p.plain = true := by
  cases p with
  | k w => cases k <;> (unfold PV.okD at h; exact h)
  | _ => rfl
noncomputable def txtOk (ps : List PV) (i : Nat) : Bool := match ps[i]? with
  | some (.str s) => !((dats (ps.take i)).any fun y => PyData.eqv y (PV.str s).dat)
  | _ => false
noncomputable def txtsOk (ps : List PV) : Bool := (List.range ps.length).all (txtOk ps)
theorem clip_nat {n k : Nat} (h : k ≤ n) : clipAt n (k : Int) = k := (clip_min n k).trans (Nat.min_eq_left h)

inductive FN (nl : Nat) : List Nat → PR Unit → Prop
  | word {r : List Nat} : (∀ t, r ≠ [101, 110, 100, 32] ++ t) → FN nl r (.err r)
  | many {r t : List Nat} : WR r (.err t) → FN nl ([101, 110, 100, 32] ++ r) (.err t)
  | wrong {r t : List Nat} {a : Int} : WR r (.ok a t) → a ≠ nl + 1 → FN nl ([101, 110, 100, 32] ++ r) (.err t)
  | noend {r t : List Nat} {a : Int} : WR r (.ok a t) → a = nl + 1 → (∀ u, t ≠ 10 :: u) → FN nl ([101, 110, 100, 32] ++ r) (.err t)
  | behind {r t : List Nat} {a : Int} {k : Nat} : WR r (.ok a (10 :: k :: t)) → a = nl + 1 → FN nl ([101, 110, 100, 32] ++ r) (.err (k :: t))
  | go {r : List Nat} {a : Int} : WR r (.ok a [10]) → a = nl + 1 → FN nl ([101, 110, 100, 32] ++ r) (.ok () [])

section
variable {c : Cx} {fm : Fm} {loc : Loc} {n m : Nat} {σ : Sto} {Φ : NPr} {X : CXPr} {r x dx dr : Addr} {l : List Nat} {i nl : Nat}

inductive TxtI (r S : Addr) (w : List Nat) (ps : List PV) (τ : Sto) (k : Nat) (lo' : Loc) (τ' : Sto) : Prop
  | mk (h0 : k ≤ ps.length) (h1 : (List.range k).all (txtOk ps) = true) (h2 : lo' = ([("self", .k (.ref r)), ("word", .str (T w)), ("found", .k (.ref S))] : Loc)) (h3 : Sub τ τ')
theorem rd_texts (P : PK c) {w : List Nat} {z : Nat} {res : PR (List PV)} (hr : σ r = some (rdO dr x nl)) (hx : σ x = some (cuO dx l i)) (hl : l.length < 2 ^ 20) (hi' : i ≤ l.length) (hw : w.length < 1000) (hQ : IT w (l.drop i) res)
    (hz : z ≤ 60) (hpl : ∀ ps t, res = .ok ps t → okDs z ps = true)
    (hok : ∀ ps t j S, res = .ok ps t → txtsOk ps = true → l.drop j = t → i ≤ j → j ≤ l.length → σ S = none → Φ (.k (.ref S)) (upd (ln σ r x dr dx l j (nl + 1)) S (.list ps)))
    (hbad : ∀ t fs τ, (res = .err t ∨ ∃ ps, res = .ok ps t ∧ txtsOk ps = false) → ErrAt (l.length - t.length) fs τ → Keep r x σ τ → X 95 fs τ) : CallC c (m + 14) (.ref 376) [.k (.ref r), .str (T w)] σ Φ X := by
  refine call_pl P.f_LineReader_texts [("self", .k (.ref r)), ("word", .str (T w))] (fun s vs kV doc pm an ct _ hv => ?_) (by kernel_rfl) (by kernel_rfl) fun L A' hL ff => ?_
  · obtain ⟨v, u, rfl, b⟩ := br2 (x := "self") (y := "word") hv
    exact ⟨_, .of_eq rfl, b⟩
  have hrx := rx_ne hr hx
  refine ss_let (ev_nmeth m0 hr P.m_LineReader_items ff.handled (ev_name m1 (rd_items (m := m) P hr hx hl hi' hw hQ (fun ps t j S e D h1 h2 h3 hS => ⟨_, .nx (.nx .nil), ?_⟩) fun t fs τ e he hk => ⟨_, .refl _, hbad _ _ _ (.inl e) he hk⟩).call))
  have hps := hpl _ _ e
  have hSx : S ≠ x := fun q => by rw [q, hx] at hS; cases hS
  have hSr : S ≠ r := fun q => by rw [q, hr] at hS; cases hS
  have hS' : upd (ln σ r x dr dx l j (nl + 1)) S (.list ps) S = some (.list ps) := upd_same _ _ _
  have hx' : upd (ln σ r x dr dx l j (nl + 1)) S (.list ps) x = some (cuO dx l j) := by rw [upd_ne _ _ (Ne.symm hSx)]; exact ln_x hrx _
  have hr' : upd (ln σ r x dr dx l j (nl + 1)) S (.list ps) r = some (rdO dr x (nl + 1)) := by rw [upd_ne _ _ (Ne.symm hSr)]; exact ln_r
  have kp : Keep r x σ (upd (ln σ r x dr dx l j (nl + 1)) S (.list ps)) := .trans .ln (.new (ln_none hr hx hS))
  have hj := drop_pos D h2
  have bad : txtsOk ps = false → ∀ fs τ, ErrAt j fs τ → Sub (upd (ln σ r x dr dx l j (nl + 1)) S (.list ps)) τ → X 95 fs τ := fun q fs τ he hs => hbad _ _ _ (.inr ⟨_, e, q⟩) (by rw [← hj]; exact he) (.trans kp (.of_sub hs))
  generalize hτ : upd (ln σ r x dr dx l j (nl + 1)) S (.list ps) = τ at *
  refine ss_for ff (TxtI r S w ps τ) ?_
  refine ev_call (ev_builtin P.b_range rfl ⟨_, rfl, ev_call (ev_builtin P.b_len rfl ⟨_, rfl, ev_name m2 ⟨kB, c_len_list hS' (by omega) ⟨kT, c_range fun R hR => ?_⟩⟩⟩) ff.handled⟩) ff.handled
  refine ⟨_, _, _, src_range (upd_same _ _ _) (by omega) (by omega), trivial, ⟨Nat.zero_le _, rfl, rfl, sub_new _ hR⟩, fun _ _ _ _ => trivial, ?_, ?_⟩
  · rintro k q lo' τ' hq ⟨hk, ha, rfl, hs⟩
    obtain ⟨rfl, hk2⟩ := rangePV_get hq
    have hk2 : k < ps.length := by omega
    have hq := List.getElem?_eq_getElem hk2
    generalize ps[k] = q at hq
    have hpq : q.plain = true := okD_plain (okDs_get hps hq)
    refine as_name (.nx (.nx (.nx .nil))) (ss_forget (fun p hp => hp) hs ?_)
    have hall : (List.range (k + 1)).all (txtOk ps) = txtOk ps k := by rw [List.range_succ, List.all_append, ha]; simp
    have fail : ∀ {N : NXt} {Rt : NPr}, txtOk ps k = false → SS c (fm0 (fnScope (inSt 20 11)) L "LineReader.texts" 376 (.ref 375) A' (m + 13)) (ifBody ((forBody (((fnBody (inSt 20 11))[1]?).getD passS))[0]?.getD passS))
        [("self", .k (.ref r)), ("word", .str (T w)), ("found", .k (.ref S)), ("at", .int (k : Int))] τ N Rt (UpX X) := fun z =>
      ss_expr (ev_nmeth m0 hr' P.m_LineReader_fail ff.handled (ev_binop (ev_str (ev_name m1 (op_cat (by rw [show (PySem.Str.ofString "a wrong text for ").length = 17 by kernel_rfl, T_len]; unfold sizeLine; omega) (rd_fail (n := m + 8) P hr' hx' hl h2 fun fs τ he hs => ⟨_, .refl _, bad (List.all_eq_false.mpr ⟨k, List.mem_range.mpr hk2, by rw [z]; decide⟩) _ _ he hs⟩).call)))))
    refine ss_if (b_bool (b_not (b_val (ev_call (ev_builtin P.b_isinstance rfl ⟨_, rfl, ev_item (ev_name m2 (ev_name m3 (it_list hS' (by omega) (by omega) hq (ev_builtin P.b_str rfl ⟨kB, c_isi_str hpq ⟨_, rfl, ?_⟩⟩))))⟩) ff.handled))))
    cases q with
    | str s =>
      refine b_cmp (ev_item (ev_name m2 (ev_name m3 (it_list hS' (by omega) (by omega) hq (ev_slice (ev_name m2 (ev_name m3 ⟨_, rfl, sl_list hS' (by unfold sizeLine; omega) fun b hb => ?_⟩)))))))
      rw [show ((ps.drop ((none : Option Int).elim 0 (clipAt ps.length))).take ((some (k : Int)).elim ps.length (clipAt ps.length) - (none : Option Int).elim 0 (clipAt ps.length))) = ps.take k by
        show (ps.drop 0).take (clipAt ps.length (k : Int) - 0) = _
        rw [clip_nat (by omega)]; rfl]
      refine cmp_inl hz (upd_same _ _ _) (okDs_take k hps) (okDs_get hps hq) ?_
      cases hc : (dats (ps.take k)).any fun y => PyData.eqv y (PV.str s).dat with
      | true => exact ss_forget (fun p hp => hp) (sub_new _ hb) (fail (by unfold txtOk; rw [hq]; show (!_) = false; rw [hc]; rfl))
      | false => exact ss_nil (ss_nil ⟨_, _, fun p hp => List.mem_of_mem_take (i := 3) hp, sub_new _ hb, by omega, by rw [hall]; unfold txtOk; rw [hq]; show (!_) = true; rw [hc]; rfl, rfl, .refl _⟩)
    | _ => exact fail (by unfold txtOk; rw [hq])
  · rintro lo' τ' ⟨_, ha, rfl, hs⟩
    rw [rangePV_len] at ha
    refine ss_ret (ev_name m2 ⟨_, hs, ?_⟩)
    rw [← hτ]
    exact hok _ _ _ _ e ha D h1 h2 hS

theorem rd_one (P : PK c) {w : List Nat} {lo hi : Int} {res : PR (List PV)} (hr : σ r = some (rdO dr x nl)) (hx : σ x = some (cuO dx l i)) (hl : l.length < 2 ^ 20) (hi' : i ≤ l.length) (hw : w.length < 1000) (hQ : IT w (l.drop i) res)
    (hpl : ∀ ps t, res = .ok ps t → ∀ p ∈ ps, p.plain = true)
    (hok : ∀ p t τ, res = .ok [p] t → numsOk (some lo) (some hi) (some 1) [p] = true → Keep r x σ τ → Φ p τ)
    (hbad : ∀ t fs τ, (res = .err t ∨ ∃ ps, res = .ok ps t ∧ numsOk (some lo) (some hi) (some 1) ps = false) → ErrAt (l.length - t.length) fs τ → Keep r x σ τ → X 95 fs τ) : CallC c (m + 15) (.ref 369) [.k (.ref r), .str (T w), .int lo, .int hi] σ Φ X := by
  refine call_pl P.f_LineReader_one [("self", .k (.ref r)), ("word", .str (T w)), ("least", .int lo), ("most", .int hi)] (fun s vs kV doc pm an ct _ hv => ?_) (by kernel_rfl) (by kernel_rfl) fun L A' hL ff => ?_
  · obtain ⟨v, u, w, q, rfl, b⟩ := br4 (x := "self") (y := "word") (z := "least") (q := "most") hv
    exact ⟨_, .of_eq rfl, b⟩
  refine ss_ret (ev_item (ev_nmeth m0 hr P.m_LineReader_numbers ff.handled (ev_name m1 (ev_name m2 (ev_name m3 (ev_int ?_))))))
  refine (rd_numbers (m := m) P (lo := some lo) (hi := some hi) (many := some 1) hr hx hl hi' hw hQ hpl (fun ps t j S e h D h1 h2 hS => ev_int ?_) fun t fs τ e he hk => ⟨_, .refl _, hbad _ _ _ e he hk⟩).call
  have hlen : ps.length = 1 := by
    unfold numsOk at h
    have := of_decide_eq_true (Bool.and_eq_true_iff.mp h).1
    omega
  cases ps with
  | nil => cases hlen
  | cons p q =>
    cases q with
    | cons _ _ => simp at hlen
    | nil =>
      refine it_list (upd_same _ _ _) (by omega) (by omega) rfl ⟨_, .refl _, hok _ _ _ e h ?_⟩
      exact .trans .ln (.new (ln_none hr hx hS))

theorem rd_finish (P : PK c) {res : PR Unit} (hr : σ r = some (rdO dr x nl)) (hx : σ x = some (cuO dx l i)) (hl : l.length < 2 ^ 20) (hi : i ≤ l.length) (hQ : FN nl (l.drop i) res)
    (hok : ∀ u t, res = .ok u t → Φ (.k .none) (ln σ r x dr dx l l.length (nl + 1)))
    (hbad : ∀ t fs τ, res = .err t → ErrAt (l.length - t.length) fs τ → Keep r x σ τ → X 95 fs τ) : CallC c (m + 10) (.ref 383) [.k (.ref r)] σ Φ X := by
  refine call_pl P.f_LineReader_finish [("self", .k (.ref r))] (fun s vs kV doc pm an ct _ hv => ?_) (by kernel_rfl) (by kernel_rfl) fun L A' hL ff => ?_
  · obtain ⟨v, rfl, b⟩ := br1 (x := "self") hv
    exact ⟨_, .of_eq rfl, b⟩
  have hr' := cu_r hr hx
  refine ss_expr (ev_nmeth m0 hr P.m_LineReader_need ff.handled (ev_str ?_))
  rw [show PySem.Str.ofString "end " = T [101, 110, 100, 32] by kernel_rfl]
  by_cases hp : ∀ t, l.drop i ≠ [101, 110, 100, 32] ++ t
  · refine (rd_need (n := m + 3) P hr hx hl hi (by decide) (fun q => by rw [take_bne hp] at q; cases q) fun q fs τ he hs => ⟨_, .refl _, hbad (l.drop i) fs τ ?_ ?_ (.of_sub hs)⟩).call
    · generalize hD : l.drop i = L0 at hQ hp
      cases hQ with
      | word => rfl
      | _ => exact absurd rfl (hp _)
    · rw [← drop_pos rfl hi]; exact he
  have hp : ∃ t, l.drop i = [101, 110, 100, 32] ++ t := Classical.byContradiction fun h => hp fun t q => h ⟨t, q⟩
  obtain ⟨r1, D⟩ := hp
  have hlen := drop_len D hi
  rw [List.length_append, show ([101, 110, 100, 32] : List Nat).length = 4 from rfl] at hlen
  have D1 := drop_add D
  rw [show ([101, 110, 100, 32] : List Nat).length = 4 from rfl] at D1
  refine (rd_need (n := m + 3) P hr hx hl hi (by decide) (fun _ => ?_) fun q => absurd (take_beq D) (by rw [q]; decide)).call
  rw [show ([101, 110, 100, 32] : List Nat).length = 4 from rfl]
  have hW : ∃ rw, WR r1 rw ∧ (∀ t, rw = .err t → res = .err t) ∧ (∀ a t, rw = .ok a t → (a ≠ nl + 1 → res = .err t) ∧ (a = nl + 1 → (∀ u, t ≠ 10 :: u) → res = .err t) ∧ (a = nl + 1 → ∀ k u, t = 10 :: k :: u → res = .err (k :: u)) ∧ (a = nl + 1 → t = [10] → res = .ok () [])) := by
    rw [D] at hQ
    generalize hz : [101, 110, 100, 32] ++ r1 = L0 at hQ
    cases hQ with
    | word h => exact absurd hz.symm (h _)
    | many h =>
      rw [List.append_cancel_left hz]
      exact ⟨.err _, h, fun t e => by cases e; rfl, fun a t e => (nomatch e)⟩
    | wrong h h1 =>
      rw [List.append_cancel_left hz]
      exact ⟨.ok _ _, h, fun t e => (nomatch e), fun a t e => by cases e; exact ⟨fun _ => rfl, fun q => absurd q h1, fun q => absurd q h1, fun q => absurd q h1⟩⟩
    | noend h h1 h2 =>
      rw [List.append_cancel_left hz]
      exact ⟨.ok _ _, h, fun t e => (nomatch e), fun a t e => by cases e; exact ⟨fun _ => rfl, fun _ _ => rfl, fun _ k u q => absurd q (h2 _), fun _ q => absurd q (h2 _)⟩⟩
    | behind h h1 =>
      rw [List.append_cancel_left hz]
      exact ⟨.ok _ _, h, fun t e => (nomatch e), fun a t e => by cases e; exact ⟨fun q => absurd h1 q, fun _ q => absurd rfl (q _), fun _ k u q => (by cases q; rfl), fun _ q => (by cases q)⟩⟩
    | go h h1 =>
      rw [List.append_cancel_left hz]
      exact ⟨.ok _ _, h, fun t e => (nomatch e), fun a t e => by cases e; exact ⟨fun q => absurd h1 q, fun _ q => absurd rfl (q _), fun _ k u q => (by cases q), fun _ _ => rfl⟩⟩
  obtain ⟨rw0, hW, hWx, hWo⟩ := hW
  refine ss_if (b_cmp (ev_nmeth m0 (hr' _) P.m_LineReader_whole ff.handled (rd_whole (n := m + 3) P (hr' _) (cu_x _) hl (by omega) (by rw [D1]; exact hW) (fun a t j e D2 h3 h4 => ?_) fun t fs τ e he hk => ⟨_, .refl _, hbad _ _ _ (hWx t e) he (.trans .cu hk)⟩).call))
  rw [cu_cu]
  obtain ⟨hc1, hc2, hc3, hc4⟩ := hWo a t e
  have hlen2 := drop_len D2 h4
  have hj := drop_pos D2 h4
  refine ev_binop (ev_nattr m0 (hr' _) P.a_393_lines rfl rfl (ev_int (op_add (cmp_ne ?_))))
  by_cases q : a = nl + 1
  · rw [show (a != (nl : Int) + 1) = false by simp [q]]
    refine ss_nil (ss_expr (ev_nmeth m0 (hr' _) P.m_LineReader_end_line ff.handled ?_))
    by_cases hp : ∀ u, t ≠ 10 :: u
    · refine (rd_end_line (n := m + 2) P (hr' _) (cu_x _) hl h4 (fun q => ?_) fun q2 fs τ he hs => ⟨_, .refl _, hbad _ _ _ (hc2 q hp) ?_ (.trans .cu (.of_sub hs))⟩).call
      · rw [show ((l.drop j).take 1 == [10]) = false from take_bne (w := [10]) (fun u q => hp u (D2.symm.trans q))] at q; cases q
      · rw [← hj]; exact he
    have hp : ∃ u, t = 10 :: u := Classical.byContradiction fun h => hp fun t q => h ⟨t, q⟩
    obtain ⟨u, rfl⟩ := hp
    have D3 : l.drop j = [10] ++ u := D2
    simp only [List.length_cons] at hlen2
    refine (rd_end_line (n := m + 2) P (hr' _) (cu_x _) hl h4 (fun _ => ?_) fun q => absurd (take_beq D3) (by rw [show ([10] : List Nat).length = 1 from rfl, q]; decide)).call
    rw [cu_cu]
    have hx2 : ln σ r x dr dx l (j + 1) (nl + 1) x = some (cuO dx l (j + 1)) := ln_x (rx_ne hr hx) _
    have hr2 : ln σ r x dr dx l (j + 1) (nl + 1) r = some (rdO dr x (nl + 1)) := ln_r
    refine ss_if (b_not (b_val (ev_nnmeth m0 hr2 P.a_393_cursor rfl hx2 P.m_Cursor_is_done ff.handled (cur_done (n := m + 8) P hx2 hl ⟨_, rfl, ?_⟩).call)))
    cases u with
    | nil =>
      simp only [List.length_nil] at hlen2
      rw [decide_eq_true (by omega)]
      refine ss_nil (ss_nil ⟨_, .refl _, ?_⟩)
      rw [show j + 1 = l.length by omega]
      exact hok _ _ (hc4 q rfl)
    | cons k u =>
      simp only [List.length_cons] at hlen2
      rw [decide_eq_false (by omega)]
      refine ss_expr (ev_nmeth m0 hr2 P.m_LineReader_fail ff.handled (ev_str (rd_fail (n := m + 4) P hr2 hx2 hl (by omega) fun fs τ he hs => ⟨_, .refl _, hbad _ _ _ (hc3 q _ _ rfl) ?_ (.trans .ln (.of_sub hs))⟩).call))
      rw [show l.length - (k :: u).length = j + 1 by rw [List.length_cons]; omega]; exact he
  · rw [show (a != (nl : Int) + 1) = true by simp [q]]
    refine ss_expr (ev_nmeth m0 (hr' _) P.m_LineReader_fail ff.handled (ev_str (rd_fail (n := m + 4) P (hr' _) (cu_x _) hl h4 fun fs τ he hs => ⟨_, .refl _, hbad _ _ _ (hc1 q) ?_ (.trans .cu (.of_sub hs))⟩).call))
    rw [← hj]; exact he
end
end Mine
end B13
section B14
open PySem PySem.W PySem.Calls PyProof.Rows PySem.Challenge
set_option maxRecDepth 100000
set_option linter.unusedVariables false
namespace Mine

section
variable {c : Cx} {fm : Fm} {loc : Loc} {n m : Nat} {σ : Sto} {Φ : NPr} {X : CXPr} {r x dx dr : Addr} {l : List Nat} {i nl : Nat}

theorem rd_same0 (P : PK c) (hr : σ r = some (rdO dr x nl)) (hx : σ x = some (cuO dx l i)) (hok : Φ (.k .none) σ) : CallC c (n + 5) (.ref 390) [.k (.ref r), .str (T l)] σ Φ X := by
  refine call_pl P.f_LineReader_need_same [("self", .k (.ref r)), ("text", .str (T l))] (fun s vs kV doc pm an ct _ hv => ?_) (by kernel_rfl) (by kernel_rfl) fun L A' hL ff => ?_
  · obtain ⟨v, u, rfl, b⟩ := br2 (x := "self") (y := "text") hv
    exact ⟨_, .of_eq rfl, b⟩
  refine ss_let (ev_attr (ev_nattr m0 hr P.a_393_cursor rfl rfl ⟨_, _, _, ⟨x, dx, rfl, .inl hx⟩, P.a_222_text, rfl, rfl, _, .nx (.nx .nil), ?_⟩))
  refine ss_if (b_cmp (ev_name m2 (ev_name m1 (cmp_eqs ?_))))
  rw [T_beq, beq_self_eq_true]
  exact ss_ret0 ⟨_, .refl _, hok⟩

inductive SameI (σ : Sto) (r : Addr) (p b l : List Nat) (k : Nat) (lo : Loc) (τ : Sto) : Prop
  | mk (j : Nat) (h0 : k = p.length - j) (h1 : j ≤ p.length) (h2 : lo = ([("self", .k (.ref r)), ("text", .str (T (p ++ b))), ("own", .str (T l)), ("at", .int (j : Nat))] : Loc)) (h3 : τ = σ)
theorem rd_same1 (P : PK c) {p a b : List Nat} (hr : σ r = some (rdO dr x nl)) (hx : σ x = some (cuO dx l i)) (hl : l.length < 2 ^ 20) (hl2 : (p ++ b).length < 2 ^ 20) (hla : l = p ++ a) (hab : a ≠ b) (hd : ∀ k, a.head? = some k → b.head? ≠ some k)
    (hX : ∀ fs τ, ErrAt p.length fs τ → Sub σ τ → X 95 fs τ) : CallC c (n + 5) (.ref 390) [.k (.ref r), .str (T (p ++ b))] σ Φ X := by
  refine call_pl P.f_LineReader_need_same [("self", .k (.ref r)), ("text", .str (T (p ++ b)))] (fun s vs kV doc pm an ct _ hv => ?_) (by kernel_rfl) (by kernel_rfl) fun L A' hL ff => ?_
  · obtain ⟨v, u, rfl, b⟩ := br2 (x := "self") (y := "text") hv
    exact ⟨_, .of_eq rfl, b⟩
  refine ss_let (ev_attr (ev_nattr m0 hr P.a_393_cursor rfl rfl ⟨_, _, _, ⟨x, dx, rfl, .inl hx⟩, P.a_222_text, rfl, rfl, _, .nx (.nx .nil), ?_⟩))
  refine ss_if (b_cmp (ev_name m2 (ev_name m1 (cmp_eqs ?_))))
  rw [T_beq, show (l == p ++ b) = false by rw [beq_eq_false_iff_ne, hla]; exact fun q => hab (List.append_cancel_left q)]
  refine ss_nil (ss_let (ev_int ⟨_, .nx (.nx (.nx .nil)), ?_⟩))
  refine ss_while ff (SameI σ r p b l) _ ⟨0, rfl, Nat.zero_le _, rfl, rfl⟩ ?_
  rintro k lo τ ⟨j, rfl, hj, rfl, rfl⟩
  have hpl : p.length ≤ l.length := by rw [hla, List.length_append]; omega
  have hla2 : l.length = p.length + a.length := by rw [hla, List.length_append]
  have hlb2 : (p ++ b).length = p.length + b.length := List.length_append
  have out : SS c (fm0 (fnScope (inSt 20 13)) L "LineReader.need_same" 390 (.ref 389) A' (n + 4)) ((fnBody (inSt 20 13)).drop 4) [("self", .k (.ref r)), ("text", .str (T (p ++ b))), ("own", .str (T l)), ("at", .int (p.length : Nat))] τ
      (UpN Φ) (UpR Φ) (UpX X) := by
    refine ss_terr P (off := p.length) ff ⟨n + 2, rfl⟩ (ev_str ⟨rfl, rfl⟩) (ev_nnmeth m0 hr P.a_393_cursor rfl hx P.m_Cursor_position_at ff.handled (ev_name m3 (cur_position_at P hx hl fun q dq ln cl hq => ⟨q, dq, ln, cl, rfl, hq, ?_⟩).call)) fun fs τ' he hs => ⟨τ', .refl _, hX fs τ' he hs⟩
    rw [Nat.min_eq_left hpl]
  refine b_bool (b_cmp (ev_name m3 (ev_call (ev_builtin P.b_len rfl ⟨_, rfl, ev_name m2 ⟨kB, c_len_str (by rw [T_len]; omega) (cmp_lt ?_)⟩⟩) ff.handled)))
  rw [T_len]
  by_cases h1 : j < p.length
  · rw [decide_eq_true (by omega)]
    refine b_cmp (ev_name m3 (ev_call (ev_builtin P.b_len rfl ⟨_, rfl, ev_name m1 ⟨kB, c_len_str (by rw [T_len]; omega) (cmp_lt ?_)⟩⟩) ff.handled))
    rw [T_len, decide_eq_true (by omega)]
    have e1 : l[j]? = some p[j] := by rw [hla, List.getElem?_append_left h1, List.getElem?_eq_getElem h1]
    have e2 : (p ++ b)[j]? = some p[j] := by rw [List.getElem?_append_left h1, List.getElem?_eq_getElem h1]
    refine b_cmp (ev_item (ev_name m2 (ev_name m3 (it_str (x := p[j]) (by omega) (by omega) e1 (ev_item (ev_name m1 (ev_name m3 (it_str (x := p[j]) (by omega) (by omega) e2 (cmp_eqs ?_)))))))))
    rw [T_beq, beq_self_eq_true]
    refine ss_let (ev_binop (ev_name m3 (ev_int (op_add ⟨_, .nx (.nx (.nx .hr)), ss_nil ⟨_, _, _, ?_, fun p hp => hp, .refl _, j + 1, rfl, by omega, rfl, rfl⟩⟩))))
    omega
  · obtain rfl : j = p.length := by omega
    by_cases h2 : p.length < l.length
    · rw [decide_eq_true (by omega)]
      refine b_cmp (ev_name m3 (ev_call (ev_builtin P.b_len rfl ⟨_, rfl, ev_name m1 ⟨kB, c_len_str (by rw [T_len]; omega) (cmp_lt ?_)⟩⟩) ff.handled))
      rw [T_len]
      by_cases h3 : p.length < (p ++ b).length
      · rw [decide_eq_true (by omega)]
        cases a with
        | nil => simp at hla2; omega
        | cons k a =>
          cases b with
          | nil => simp at hlb2 h3
          | cons u b =>
            have e1 : l[p.length]? = some k := by rw [hla, List.getElem?_append_right (Nat.le_refl _), Nat.sub_self]; rfl
            have e2 : (p ++ u :: b)[p.length]? = some u := by rw [List.getElem?_append_right (Nat.le_refl _), Nat.sub_self]; rfl
            refine b_cmp (ev_item (ev_name m2 (ev_name m3 (it_str (x := k) (by omega) (by omega) e1 (ev_item (ev_name m1 (ev_name m3 (it_str (x := u) (by omega) (by omega) e2 (cmp_eqs ?_)))))))))
            rw [T_beq, show ([k] == [u]) = false by simp; exact fun q => hd k rfl (by rw [q]; rfl)]
            exact out
      · rw [decide_eq_false (by omega)]
        exact out
    · rw [decide_eq_false (by omega)]
      exact out

theorem rd_init (P : PK c) (hr : σ r = some (.inst 393 dr [])) (h : ∀ x dx, σ x = none → Φ (.k .none) (upd (upd σ x (cuO dx l 0)) r (rdO dr x 0))) : CallC c (n + 3) (.ref 297) [.k (.ref r), .str (T l)] σ Φ X := by
  refine call_pl P.f_LineReader_init [("self", .k (.ref r)), ("text", .str (T l))] (fun s vs kV doc pm an ct _ hv => ?_) (by kernel_rfl) (by kernel_rfl) fun L A' hL ff => ?_
  · obtain ⟨v, u, rfl, b⟩ := br2 (x := "self") (y := "text") hv
    exact ⟨_, .of_eq rfl, b⟩
  refine ss_setattr (ev_call (ev_glob P.g_Cursor ⟨_, rfl, ev_name m1 ⟨kK P.k_222, ?_⟩⟩) ff.handled)
  refine (call_make P.mk_222 P.in_222 P.if_222 fun x dx hx => cur_init P (upd_same _ _ _) ⟨rfl, ?_⟩).call
  rw [upd_upd]
  have hrx : r ≠ x := fun q => by rw [← q, hr] at hx; cases hx
  have hr' : upd σ x (cuO dx l 0) r = some (.inst 393 dr []) := by rw [upd_ne _ _ hrx]; exact hr
  refine ev_name m0 ⟨_, rfl, .inst hr' P.s_393_cursor (of_decide_eq_true rfl) ?_⟩
  refine ss_setattr (ev_int (ev_name m0 ⟨_, rfl, .inst (upd_same _ _ _) P.s_393_lines (of_decide_eq_true rfl) ?_⟩))
  rw [upd_upd]
  exact ss_nil ⟨_, .refl _, h x dx hx⟩

theorem rd_make (P : PK c) (h : ∀ r dr x dx, σ r = none → σ x = none → r ≠ x → Φ (.k (.ref r)) (upd (upd σ x (cuO dx l 0)) r (rdO dr x 0))) : CallC c (n + 4) (.ref 393) [.str (T l)] σ Φ X := by
  refine call_make P.mk_393 P.in_393 P.if_393 fun r dr hr => rd_init P (upd_same _ _ _) fun x dx hx => ⟨rfl, ?_⟩
  have hrx : r ≠ x := fun q => by rw [q, upd_same] at hx; cases hx
  rw [upd_ne _ _ (Ne.symm hrx)] at hx
  rw [upd_comm _ _ _ hrx, upd_upd]
  exact h r dr x dx hr hx hrx
end
end Mine
end B14
section C2
open PySem PySem.W PySem.Calls PyProof.Rows PySem.Challenge
set_option maxRecDepth 100000
set_option linter.unusedVariables false
namespace Mine

theorem figs_not45 {ds t : List Nat} (h : ∀ k ∈ ds, k ∈ figs) (hn : ds ≠ []) : (ds ++ t).head? ≠ some 45 := by
  cases ds with
  | nil => exact absurd rfl hn
  | cons k r =>
    have := figs_mem.mp (h k (.head _))
    intro q
    have q : k = 45 := by simpa using q
    omega
theorem WR_lit {ds t : List Nat} (h : ∀ k ∈ ds, k ∈ figs) (hn : ds ≠ []) (hl : ds.length ≤ 160) (ht : ∀ k, t.head? = some k → k ∉ figs) : WR (ds ++ t) (.ok (NumText.digitsVal ds : Nat) t) := by
  have e := intText_digits (x := T ds) (fun k hk => figs_mem.mp (h k hk)) hn (by rw [T_len]; omega)
  rw [T_list] at e
  have := WR.ok (neg := false) h ht (fun _ => figs_not45 h hn) hn hl e
  rw [if_neg (by decide), if_neg (by decide), Int.one_mul] at this
  exact this
theorem WR_long {ds t : List Nat} (h : ∀ k ∈ ds, k ∈ figs) (hl : 160 < ds.length) (ht : ∀ k, t.head? = some k → k ∉ figs) : WR (ds ++ t) (.err t) := by
  have := WR.err (neg := false) h ht (fun _ => figs_not45 h (fun q => by rw [q] at hl; simp at hl)) (.inr hl)
  exact this
theorem WR_longn {ds t : List Nat} (h : ∀ k ∈ ds, k ∈ figs) (hl : 160 < ds.length) (ht : ∀ k, t.head? = some k → k ∉ figs) : WR (45 :: (ds ++ t)) (.err t) :=
  WR.err (neg := true) h ht (fun q => nomatch q) (.inr hl)
theorem WR_none {t : List Nat} (ht : ∀ k, t.head? = some k → k ∉ figs) (h45 : t.head? ≠ some 45) : WR t (.err t) :=
  WR.err (neg := false) (ds := []) (fun k h => nomatch h) ht (fun _ => h45) (.inl rfl)
theorem not_fig {k : Nat} {t : List Nat} (h : k < 48 ∨ 57 < k) : ∀ j, (k :: t).head? = some j → j ∉ figs := fun j e q => by
  cases e
  have := figs_mem.mp q
  omega
end Mine
end C2
section B15
open PySem PySem.W PySem.Calls PyProof.Rows PySem.Challenge
set_option maxRecDepth 100000
set_option linter.unusedVariables false
namespace Mine

noncomputable def okSign (k : Nat) : Bool := k == 10 || k == 9 || (decide (32 ≤ k) && decide (k ≤ 126) && k != 63)
noncomputable def escS (k : Nat) : List Nat := if k = 10 then [92, 110] else if k = 9 then [92, 116] else if k = 34 ∨ k = 92 then [92, k] else [k]
noncomputable def escs : List Nat → List Nat
  | [] => []
  | k :: r => escS k ++ escs r
mutual
noncomputable def PV.okI : Nat → PV → Bool
  | _, .k v => v == .none
  | _, .int a => decide (a.natAbs < 10 ^ 160)
  | _, .str s => decide (s.cps.toList.length ≤ 12) && s.cps.toList.all okSign
  | 0, .tup _ => false
  | n + 1, .tup l => decide (l.length ≤ 2) && okIs n l
noncomputable def okIs : Nat → List PV → Bool
  | _, [] => true
  | n, p :: r => p.okI n && okIs n r
end
mutual
noncomputable def shL : PV → List Nat
  | .k _ => [45]
  | .int a => intS a
  | .str s => 34 :: (escs s.cps.toList ++ [34])
  | .tup l => 40 :: (jn [32] (shLs l) ++ [41])
noncomputable def shLs : List PV → List (List Nat)
  | [] => []
  | p :: r => shL p :: shLs r
end
theorem shLs_map : ∀ l : List PV, shLs l = l.map shL
  | [] => by unfold shLs; rfl
  | p :: r => by unfold shLs; rw [shLs_map r]; rfl
theorem okIs_all {k : Nat} : ∀ {ps : List PV}, okIs k ps = ps.all (PV.okI k)
  | [] => by unfold okIs; rfl
  | p :: r => by unfold okIs; rw [List.all_cons, okIs_all]
theorem okI_k {n : Nat} {w : Value} (e : (PV.k w).okI n = true) : w = .none := by cases n <;> (unfold PV.okI at e; exact beq_iff_eq.mp e)
theorem okI_int {n : Nat} {a : Int} (e : (PV.int a).okI n = true) : a.natAbs < 10 ^ 160 := by cases n <;> (unfold PV.okI at e; exact of_decide_eq_true e)
theorem okI_str {n : Nat} {s : PySem.Str} (e : (PV.str s).okI n = true) : s.cps.toList.length ≤ 12 ∧ ∀ k ∈ s.cps.toList, okSign k = true := by
  cases n <;> (unfold PV.okI at e; obtain ⟨a, b⟩ := Bool.and_eq_true_iff.mp e; exact ⟨of_decide_eq_true a, List.all_eq_true.mp b⟩)
theorem okI_tup {n : Nat} {l : List PV} (e : (PV.tup l).okI n = true) : ∃ k, n = k + 1 ∧ l.length ≤ 2 ∧ ∀ p ∈ l, p.okI k = true := by
  cases n with
  | zero => unfold PV.okI at e; cases e
  | succ k =>
    unfold PV.okI at e
    obtain ⟨a, b⟩ := Bool.and_eq_true_iff.mp e
    rw [okIs_all] at b
    exact ⟨k, rfl, of_decide_eq_true a, List.all_eq_true.mp b⟩
theorem okI_plain {n : Nat} {p : PV} (e : p.okI n = true) : p.plain = true := by
  cases p with
  | k w => have := okI_k e; subst this; rfl
  | _ => rfl

section
variable {c : Cx} {fm : Fm} {loc : Loc} {n m : Nat} {σ : Sto} {Φ : NPr} {X : CXPr}

theorem call_clB {f : Addr} {name qual : PySem.Str} {params : Arguments} {body : List Stmt} {scope : Scope} {dV cdv : Value} {args : List PV} (F : FnB c f name qual params body scope dV cdv) (binds loc : Loc) (cells : Addr → List (PySem.Str × Addr)) (hcells : ∀ L, cellsFrom (L + 1) scope.names [] = cells L)
    (hbind : ∀ s vs kV doc pm an ct, c.K.In s.heap → VRs s.heap args vs → ∃ bs, BindsTo s (fnOf name qual params body scope dV kV doc pm an cdv ct) ⟨vs, []⟩ bs ∧ BR s.heap binds bs)
    (hkd : ∀ L, kindsOk scope L binds = true) (hloc : ∀ p ∈ loc, p ∈ binds ∧ scope.names.lookup p.1 = some .local)
    (hbody : ∀ L A', (∀ a, L ≤ a → σ a = none) → FF ⟨envF scope L qual f cdv (cells L), A', n, 0⟩ →
      SS c ⟨envF scope L qual f cdv (cells L), A', n, 0⟩ body loc (cellsSto σ binds (cells L))
        (UpN Φ) (UpR Φ) (UpX X))
    (hnd : decide ((binds.map (·.1)).Nodup) = true := by kernel_rfl) (hone : cellsOk scope = true := by decide +kernel)
    (hco : scope.isCoroutine = false := by rfl) (hgen : scope.isGenerator = false := by rfl) (hk : scope.kind = .function := by rfl) : CallC c (n + 1) (.ref f) args σ Φ X :=
  call_fnB F binds loc hbind (of_decide_eq_true hnd) hkd hloc hone (fun L A' hL ff => by rw [hcells] at ff ⊢; exact hbody L A' hL ff) hco hgen hk

theorem call_cl {f : Addr} {name qual : PySem.Str} {params : Arguments} {body : List Stmt} {scope : Scope} {dV cdv : Value} {args : List PV} (F : FnAt c.K f name qual params body scope dV cdv) (binds loc : Loc) (cells : Addr → List (PySem.Str × Addr)) (hcells : ∀ L, cellsFrom (L + 1) scope.names [] = cells L)
    (hbind : ∀ s vs kV doc pm an ct, c.K.In s.heap → VRs s.heap args vs → ∃ bs, BindsTo s (fnOf name qual params body scope dV kV doc pm an cdv ct) ⟨vs, []⟩ bs ∧ BR s.heap binds bs)
    (hkd : ∀ L, kindsOk scope L binds = true) (hloc : ∀ p ∈ loc, p ∈ binds ∧ scope.names.lookup p.1 = some .local)
    (hbody : ∀ L A', (∀ a, L ≤ a → σ a = none) → FF ⟨envF scope L qual f cdv (cells L), A', n, 0⟩ →
      SS c ⟨envF scope L qual f cdv (cells L), A', n, 0⟩ body loc (cellsSto σ binds (cells L))
        (UpN Φ) (UpR Φ) (UpX X))
    (hnd : decide ((binds.map (·.1)).Nodup) = true := by kernel_rfl) (hone : cellsOk scope = true := by decide +kernel)
    (hco : scope.isCoroutine = false := by rfl) (hgen : scope.isGenerator = false := by rfl) (hk : scope.kind = .function := by rfl) : CallC c (n + 1) (.ref f) args σ Φ X :=
  call_clB F.toB binds loc cells hcells hbind hkd hloc hbody hnd hone hco hgen hk

theorem esc_sign (P : PK c) {k : Nat} (hk : okSign k = true) (h : Φ (.str (T (escS k))) σ) : CallC c (n + 1) (.ref 240) [.str (T [k]), .str (T [34])] σ Φ X := by
  refine call_pl P.f_escaped_sign [("sign", .str (T [k])), ("marks", .str (T [34]))] (fun s vs kV doc pm an ct _ hv => ?_) (by kernel_rfl) (by kernel_rfl) fun L A' hL ff => ?_
  · obtain ⟨v, u, rfl, b⟩ := br2 (x := "sign") (y := "marks") hv
    exact ⟨_, .of_eq rfl, b⟩
  unfold escS at h
  refine ss_if (b_cmp (ev_name m0 (ev_str (cmp_eqs ?_))))
  rw [show PySem.Str.ofString "\n" = T [10] by kernel_rfl, T_beq]
  by_cases h1 : k = 10
  · rw [show ([k] == [10]) = true by rw [h1]; rfl]
    rw [if_pos h1] at h
    refine ss_ret (ev_str ⟨_, .refl _, ?_⟩)
    rw [show PySem.Str.ofString "\\n" = T [92, 110] by kernel_rfl]
    exact h
  rw [show ([k] == [10]) = false by simp [h1]]
  rw [if_neg h1] at h
  refine ss_nil (ss_if (b_cmp (ev_name m0 (ev_str (cmp_eqs ?_)))))
  rw [show PySem.Str.ofString "\t" = T [9] by kernel_rfl, T_beq]
  by_cases h2 : k = 9
  · rw [show ([k] == [9]) = true by rw [h2]; rfl]
    rw [if_pos h2] at h
    refine ss_ret (ev_str ⟨_, .refl _, ?_⟩)
    rw [show PySem.Str.ofString "\\t" = T [92, 116] by kernel_rfl]
    exact h
  rw [show ([k] == [9]) = false by simp [h2]]
  rw [if_neg h2] at h
  refine ss_nil (ss_if (b_bool (b_cmp (ev_name m0 (ev_name m1 (cmp_in ?_))))))
  rw [show (!(Builtin.Str.occurrences (T [34]) (T [k]) 0 (T [34]).length 1).isEmpty) = decide (k ∈ [34]) from found_T _ k]
  have two : ∀ {N : NXt}, k = 34 ∨ k = 92 → SS c (fm0 (fnScope (topSt 13)) L "escaped_sign" 240 (.ref 239) A' n) (ifBody (((fnBody (topSt 13))[2]?).getD passS)) [("sign", .str (T [k])), ("marks", .str (T [34]))] σ N
      (UpR Φ) (UpX X) := fun {N} q => by
    rw [if_pos q] at h
    refine ss_ret (ev_binop (ev_str (ev_name m0 (op_cat ?_ ⟨_, .refl _, ?_⟩))))
    · rw [show (PySem.Str.ofString "\\").length = 1 by kernel_rfl, T_len]; exact of_decide_eq_true rfl
    · rw [show PySem.Str.ofString "\\" = T [92] by kernel_rfl, T_append]
      exact h
  by_cases h3 : k = 34
  · rw [decide_eq_true (by rw [h3]; exact .head _)]
    exact two (.inl h3)
  rw [decide_eq_false (by simp [h3])]
  refine b_cmp (ev_name m0 (ev_str (cmp_eqs ?_)))
  rw [show PySem.Str.ofString "\\" = T [92] by kernel_rfl, T_beq]
  by_cases h4 : k = 92
  · rw [show ([k] == [92]) = true by rw [h4]; rfl]
    exact two (.inr h4)
  rw [show ([k] == [92]) = false by simp [h4]]
  rw [if_neg (by simp [h3, h4])] at h
  have hr : 32 ≤ k ∧ k ≤ 126 := by
    unfold okSign at hk
    simp [h1, h2] at hk
    exact hk.1
  refine ss_nil (ss_let (ev_call (ev_builtin P.b_ord rfl ⟨_, rfl, ev_name m0 ⟨kB, c_ord ⟨_, .nx (.nx .nil), ?_⟩⟩⟩) ff.handled))
  refine ss_if (b_bool (b_bool (b_cmp (ev_name m2 (ev_int (cmp_lt ?_))))))
  rw [decide_eq_false (by omega)]
  refine b_cmp (ev_name m2 (ev_int (cmp_gt ?_)))
  rw [decide_eq_false (by omega)]
  exact ss_nil (ss_ret (ev_name m0 ⟨_, .refl _, h⟩))

theorem esc_len (k : Nat) : (escS k).length ≤ 2 := by unfold escS; split <;> (try split) <;> (try split) <;> simp
theorem escs_len : ∀ l : List Nat, (escs l).length ≤ 2 * l.length
  | [] => Nat.le_refl _
  | k :: r => by
    have := escs_len r
    have := esc_len k
    unfold escs
    rw [List.length_append, List.length_cons]; omega
theorem jn_escs : ∀ l : List Nat, jn [] (l.map escS) = escs l
  | [] => rfl
  | [x] => by show escS x = escS x ++ []; rw [List.append_nil]
  | x :: y :: r => by
    have ih := jn_escs (y :: r)
    show escS x ++ [] ++ jn [] ((y :: r).map escS) = _
    rw [ih, List.append_nil]; rfl
theorem sum_escs (l : List Nat) : (((l.map escS).map T).map (·.length)).sum ≤ 2 * l.length := by
  induction l with
  | nil => exact Nat.le_refl _
  | cons k r ih =>
    have := esc_len k
    rw [List.map_cons, List.map_cons, List.map_cons, List.sum_cons, T_len, List.length_cons]; omega

theorem escaped_c (P : PK c) {l : List Nat} (hk : ∀ k ∈ l, okSign k = true) (hl : l.length < 2 ^ 20) (h : Φ (.str (T (escs l))) σ) : CallC c (n + 2) (.ref 245) [.str (T l), .str (T [34])] σ Φ X := by
  refine call_cl P.f_escaped [("text", .str (T l)), ("end", .str (T [34]))] [("text", .str (T l))] (fun L => [("end", L + 1)]) (fun L => rfl) (fun s vs kV doc pm an ct _ hv => ?_) (fun L => by rfl) (fun p hp => ?_) fun L A' hL ff => ?_
  · obtain ⟨v, u, rfl, b⟩ := br2 (x := "text") (y := "end") hv
    exact ⟨_, .of_eq rfl, b⟩
  · cases hp with
    | head => exact ⟨.head _, by rfl⟩
    | tail _ h => cases h
  have hs : Sub σ (upd σ (L + 1) (.cell (some (.str (T [34]))))) := sub_new _ (hL _ (Nat.le_succ _))
  have hcs : cellsSto σ [("text", .str (T l)), ("end", .str (T [34]))] [("end", L + 1)] = upd σ (L + 1) (.cell (some (.str (T [34])))) := by rfl
  rw [hcs]
  generalize hτ : upd σ (L + 1) (.cell (some (.str (T [34])))) = τ at hs
  have hc : τ (L + 1) = some (.cell (some (.str (T [34])))) := by rw [← hτ]; exact upd_same _ _ _
  refine ss_ret (ev_methG (ev_str ⟨_, _, gm_str PySem.F.slot_str_join PySem.F.type_str_join, ev_comp [("end", L + 1)] (ei_of (ev_name m0 ⟨_, _, _, src_str (fun x hx => ?_), fun i acc τ' => acc = ((l.take i).map escS).map (fun x => PV.str (T x)) ∧ τ' = τ, ⟨rfl, rfl⟩, ?_, ?_⟩)) ff.handled⟩) ff.handled)
  · have := hk x hx
    unfold okSign at this
    simp at this
    omega
  · refine ⟨trivial, by unfold signsPV; rw [List.length_map]; unfold sizeLine; omega, fun _ _ _ _ => trivial, ?_⟩
    rintro C i q acc τ' hq ⟨rfl, rfl⟩
    obtain ⟨k, hk1, rfl⟩ := signsPV_get hq
    refine as_name .nil ?_
    refine ev_call (ev_glob P.g_escaped_sign ⟨_, rfl, ev_name m0 (ev_cell (a := L + 1) rfl hc ⟨kK P.k_escaped_sign, (esc_sign P (hk k (List.mem_of_getElem? hk1)) ⟨_, .refl _, ?_, rfl⟩).call⟩)⟩) ff.handled
    rw [List.take_add_one, hk1]
    simp
  · rintro D acc τ' ⟨rfl, rfl⟩ hD
    have e : (signsPV l).length = l.length := by unfold signsPV; rw [List.length_map]
    rw [e, List.take_length]
    refine ⟨kB, c_join (ps := (l.map escS).map T) ?_ ?_ ⟨σ, ?_, ?_⟩⟩
    · rw [upd_same, List.map_map, List.map_map, List.map_map]; rfl
    · have := sum_escs l
      rw [str_nil, show (T []).length = 0 from rfl]; omega
    · exact .trans hs (sub_new _ hD)
    · rw [str_nil, join_T, jn_escs]; exact h
end
end Mine
end B15
section C1
open PySem PySem.W PySem.Calls PyProof.Rows PySem.Challenge
set_option maxRecDepth 100000
set_option linter.unusedVariables false
namespace Mine

noncomputable def sb (c : Nat) (z : List Nat) : List Nat → List Nat
  | [] => []
  | k :: r => (if k = c then z else [k]) ++ sb c z r
theorem sb_append (c : Nat) (z : List Nat) : ∀ a b : List Nat, sb c z (a ++ b) = sb c z a ++ sb c z b
  | [], _ => rfl
  | k :: r, b => by
    show (if k = c then z else [k]) ++ sb c z (r ++ b) = (if k = c then z else [k]) ++ sb c z r ++ sb c z b
    rw [sb_append c z r b, List.append_assoc]
theorem sb_free (c : Nat) (z : List Nat) : ∀ {l : List Nat}, c ∉ l → sb c z l = l
  | [], _ => rfl
  | k :: r, h => by
    show (if k = c then z else [k]) ++ sb c z r = _
    rw [if_neg (fun e : k = c => h (by rw [e]; exact .head _)), sb_free c z fun m => h (.tail _ m)]; rfl
theorem sb_join (c : Nat) (z : List Nat) : ∀ {ps : List PySem.Str}, (∀ p ∈ ps, c ∉ p.cps.toList) → sb c z (PySem.Str.join ⟨#[c]⟩ ps).cps.toList = (PySem.Str.join (T z) ps).cps.toList
  | [], _ => rfl
  | [p], h => sb_free c z (h p (.head _))
  | p :: q :: r, h => by
    have ih := sb_join c z (ps := q :: r) fun a ha => h a (.tail _ ha)
    show sb c z (p ++ ⟨#[c]⟩ ++ PySem.Str.join ⟨#[c]⟩ (q :: r)).cps.toList = (p ++ T z ++ PySem.Str.join (T z) (q :: r)).cps.toList
    simp only [Str.cps_append, Array.toList_append]
    rw [sb_append, sb_append, ih, sb_free c z (h p (.head _))]
    show p.cps.toList ++ ((if c = c then z else [c]) ++ []) ++ _ = _
    rw [if_pos rfl, List.append_nil]
theorem replace_T (c : Nat) (z l : List Nat) : Txt.replace (T l) (T [c]) (T z) = T (sb c z l) := by
  have e : (Txt.replace (T l) ⟨#[c]⟩ (T z)).cps.toList = sb c z l := by
    rw [StrLaws.replace_one, ← sb_join c z (StrLaws.split_free (T l) c), StrLaws.join_split]
  show Txt.replace (T l) ⟨#[c]⟩ (T z) = _
  rw [T_of (Txt.replace (T l) ⟨#[c]⟩ (T z)), e]
theorem sb_len {c : Nat} {z : List Nat} (hz : z.length = 2) : ∀ l : List Nat, (sb c z l).length ≤ 2 * l.length
  | [] => Nat.le_refl _
  | k :: r => by
    have := sb_len (c := c) hz r
    show ((if k = c then z else [k]) ++ sb c z r).length ≤ 2 * (r.length + 1)
    rw [List.length_append]
    split
    · omega
    · simp; omega
theorem sb_one (c : Nat) (z : List Nat) (k : Nat) : sb c z [k] = if k = c then z else [k] := by show _ ++ [] = _; rw [List.append_nil]
theorem escs_sb : ∀ l : List Nat, sb 9 [92, 116] (sb 10 [92, 110] (sb 34 [92, 34] (sb 92 [92, 92] l))) = escs l
  | [] => rfl
  | k :: r => by
    have ih := escs_sb r
    have one : sb 9 [92, 116] (sb 10 [92, 110] (sb 34 [92, 34] (sb 92 [92, 92] [k]))) = escS k := by
      unfold escS
      by_cases h1 : k = 10
      · subst h1; rfl
      by_cases h2 : k = 9
      · subst h2; rfl
      by_cases h3 : k = 34
      · subst h3; rfl
      by_cases h4 : k = 92
      · subst h4; rfl
      rw [if_neg h1, if_neg h2, if_neg (by simp [h3, h4]), sb_one, if_neg h4, sb_one, if_neg h3, sb_one, if_neg h1, sb_one, if_neg h2]
    rw [show k :: r = [k] ++ r from rfl, sb_append, sb_append, sb_append, sb_append, one, ih]; rfl
end Mine
end C1
section B16
open PySem PySem.W PySem.Calls PyProof.Rows PySem.Challenge
set_option maxRecDepth 100000
set_option linter.unusedVariables false
set_option exponentiation.threshold 2000
namespace Mine

noncomputable def bd : Nat → Nat
  | 0 => 161
  | n + 1 => 2 * bd n + 3
theorem bd_mono : ∀ {a b : Nat}, a ≤ b → bd a ≤ bd b
  | a, b, h => by
    induction b with
    | zero => rw [Nat.le_zero.mp h]; exact Nat.le_refl _
    | succ b ih =>
      rcases Nat.lt_or_ge a (b + 1) with q | q
      · have := ih (by omega)
        show _ ≤ 2 * bd b + 3; omega
      · rw [show a = b + 1 by omega]; exact Nat.le_refl _
theorem bd_ge (k : Nat) : 161 ≤ bd k := bd_mono (a := 0) (Nat.zero_le k)
theorem jn_len {sep : List Nat} {b : Nat} : ∀ {ts : List (List Nat)}, (∀ t ∈ ts, t.length ≤ b) → (jn sep ts).length ≤ ts.length * b + (ts.length - 1) * sep.length
  | [], _ => Nat.zero_le _
  | [x], h => by
    have := h x (.head _)
    show x.length ≤ 1 * b + 0 * _; omega
  | x :: y :: r, h => by
    have ih := jn_len (sep := sep) (ts := y :: r) (fun t ht => h t (.tail _ ht))
    have := h x (.head _)
    show (x ++ sep ++ jn sep (y :: r)).length ≤ (r.length + 1 + 1) * b + (r.length + 1 + 1 - 1) * sep.length
    rw [List.length_append, List.length_append]
    simp only [List.length_cons] at ih
    rw [show r.length + 1 + 1 - 1 = r.length + 1 by omega, Nat.succ_mul (r.length + 1) b, Nat.succ_mul r.length sep.length]
    rw [show r.length + 1 - 1 = r.length by omega] at ih
    omega
theorem shL_len : ∀ {k : Nat} {p : PV}, p.okI k = true → (shL p).length ≤ bd k
  | k, .k w, _ => by unfold shL; have := bd_ge k; simp; omega
  | k, .int a, h => by
    have := intS_len (by decide) (okI_int h)
    have := bd_ge k
    unfold shL; omega
  | k, .str s, h => by
    have h1 := (okI_str h).1
    have := escs_len s.cps.toList
    have := bd_ge k
    unfold shL
    rw [List.length_cons, List.length_append, List.length_singleton]; omega
  | k, .tup l, h => by
    obtain ⟨j, rfl, h1, h2⟩ := okI_tup h
    have := jn_len (sep := [32]) (b := bd j) (ts := shLs l) (by
      rw [shLs_map]
      intro t ht
      obtain ⟨p, hp, rfl⟩ := List.mem_map.mp ht
      exact shL_len (h2 p hp))
    rw [shLs_map, List.length_map] at this
    unfold shL
    rw [List.length_cons, List.length_append, List.length_singleton, shLs_map]
    show _ ≤ 2 * bd j + 3
    have h3 : l.length * bd j ≤ 2 * bd j := Nat.mul_le_mul_right _ h1
    simp only [List.length_singleton] at this
    omega
  termination_by k => k
theorem sum_T : ∀ ts : List (List Nat), ((ts.map T).map (·.length)).sum = (ts.map List.length).sum
  | [] => rfl
  | t :: r => by rw [List.map_cons, List.map_cons, List.sum_cons, sum_T r, T_len, List.map_cons, List.sum_cons]
theorem sum_le {b : Nat} : ∀ {ts : List (List Nat)}, (∀ t ∈ ts, t.length ≤ b) → (ts.map List.length).sum ≤ ts.length * b
  | [], _ => Nat.zero_le _
  | t :: r, h => by
    have ih := sum_le (ts := r) (fun t ht => h t (.tail _ ht))
    have := h t (.head _)
    rw [List.map_cons, List.sum_cons, List.length_cons, Nat.add_mul]; omega

section
variable {c : Cx} {fm : Fm} {loc : Loc} {n m : Nat} {σ : Sto} {Φ : NPr} {X : CXPr}

theorem join_show {ts : List (List Nat)} {D : Addr} {sep : List Nat} {b : Nat} (hD : σ D = some (.list (ts.map fun t => PV.str (T t)))) (hb : ∀ t ∈ ts, t.length ≤ b) (hs : sep.length ≤ 4) (hz : ts.length * (b + 4) ≤ 16777216) (h : Φ (.str (T (jn sep ts))) σ) :
    Call c n (.builtin "str.join") [.str (T sep), .k (.ref D)] σ Φ X := by
  refine c_join (ps := ts.map T) ?_ ?_ ?_
  · rw [hD, List.map_map]; rfl
  · have := sum_le hb
    rw [sum_T, List.length_map, T_len]
    rw [Nat.mul_add] at hz
    have h3 : ts.length * sep.length ≤ ts.length * 4 := Nat.mul_le_mul_left _ hs
    omega
  · rw [join_T]; exact h

theorem show_c (P : PK c) : ∀ (k : Nat) {p : PV} {σ : Sto} {Φ : NPr} {X : CXPr}, p.okI k = true → k ≤ 2 → Φ (.str (T (shL p))) σ → CallC c (n + k + 3) (.ref 250) [p] σ Φ X := by
  intro k
  induction k using Nat.strongRecOn with
  | ind k ih =>
  intro p σ Φ X hp hk h
  have hb := bd_mono hk
  refine call_pl P.f_show_item [("value", p)] (fun s vs kV doc pm an ct _ hv => ?_) (by kernel_rfl) (by kernel_rfl) fun L A' hL ff => ?_
  · obtain ⟨v, rfl, b⟩ := br1 (x := "value") hv
    exact ⟨_, .of_eq rfl, b⟩
  refine ss_if (b_cmp (ev_name m0 (ev_none (cmp_is ?_))))
  cases p with
  | k w =>
    have := okI_k hp
    subst this
    refine ss_ret (ev_str ⟨_, .refl _, ?_⟩)
    rw [show PySem.Str.ofString "-" = T [45] by kernel_rfl]
    exact h
  | int a =>
    refine ss_nil (ss_if (b_val (ev_call (ev_builtin P.b_isinstance rfl ⟨_, rfl, ev_name m0 (ev_builtin P.b_str rfl ⟨kB, c_isi_str rfl ⟨_, rfl, ?_⟩⟩)⟩) ff.handled)))
    refine ss_nil (ss_if (b_val (ev_call (ev_builtin P.b_isinstance rfl ⟨_, rfl, ev_name m0 (ev_tuple (ev_builtin P.b_tuple rfl (ev_builtin P.b_list rfl ⟨kB, c_isi_seq rfl ⟨_, rfl, ?_⟩⟩)))⟩) ff.handled)))
    refine ss_nil (ss_ret (ev_call (ev_builtin P.b_str rfl ⟨_, rfl, ev_name m0 ⟨kT, c_str_int ?_ ⟨_, .refl _, ?_⟩⟩⟩) ff.handled))
    · have h1 := okI_int hp
      by_cases h0 : a.natAbs = 0
      · rw [h0]; decide
      · exact (Nat.log2_lt h0).mpr (Nat.lt_of_lt_of_le h1 (Nat.le_trans (Nat.pow_le_pow_left (m := 16) (by decide) 160) (by rw [show 16 = 2 ^ 4 from rfl, ← Nat.pow_mul]; exact Nat.pow_le_pow_right (by decide) (by decide))))
    · rw [ofString_int]; exact h
  | str s =>
    obtain ⟨h1, h2⟩ := okI_str hp
    refine ss_nil (ss_if (b_val (ev_call (ev_builtin P.b_isinstance rfl ⟨_, rfl, ev_name m0 (ev_builtin P.b_str rfl ⟨kB, c_isi_str rfl ⟨_, rfl, ?_⟩⟩)⟩) ff.handled)))
    refine ss_ret (ev_binop (ev_binop (ev_str (ev_call (ev_glob P.g_escaped ⟨_, rfl, ev_name m0 (ev_str ⟨kK P.k_escaped, ?_⟩)⟩) ff.handled))))
    rw [show PySem.Str.ofString "\"" = T [34] by kernel_rfl]
    have he := escs_len s.cps.toList
    refine (escaped_c (n := n + k) P h2 (by omega) ?_).call
    refine op_cat ?_ (ev_str (op_cat ?_ ⟨_, .refl _, ?_⟩))
    · rw [T_len, T_len]; unfold sizeLine; simp only [List.length_singleton]; omega
    · rw [T_append, T_len, T_len]; unfold sizeLine; simp only [List.length_append, List.length_singleton]; omega
    · rw [T_append, T_append]; exact h
  | tup l =>
    obtain ⟨j, rfl, h1, h2⟩ := okI_tup hp
    refine ss_nil (ss_if (b_val (ev_call (ev_builtin P.b_isinstance rfl ⟨_, rfl, ev_name m0 (ev_builtin P.b_str rfl ⟨kB, c_isi_str rfl ⟨_, rfl, ?_⟩⟩)⟩) ff.handled)))
    refine ss_nil (ss_if (b_val (ev_call (ev_builtin P.b_isinstance rfl ⟨_, rfl, ev_name m0 (ev_tuple (ev_builtin P.b_tuple rfl (ev_builtin P.b_list rfl ⟨kB, c_isi_seq rfl ⟨_, rfl, ?_⟩⟩)))⟩) ff.handled)))
    refine ss_ret (ev_binop (ev_binop (ev_str (ev_methG (ev_str ⟨_, _, gm_str PySem.F.slot_str_join PySem.F.type_str_join, ev_comp [] (ei_of (ev_name m0 ⟨_, _, _, src_tup, fun i acc τ' => acc = ((l.take i).map shL).map (fun x => PV.str (T x)) ∧ τ' = σ, ⟨rfl, rfl⟩, ?_, ?_⟩)) ff.handled⟩) ff.handled))))
    · refine ⟨trivial, by unfold sizeLine; omega, fun _ _ _ _ => trivial, ?_⟩
      rintro C i q acc τ' hq ⟨rfl, rfl⟩
      refine as_name .nil ?_
      refine ev_call (ev_glob P.g_show_item ⟨_, rfl, ev_name m0 ⟨kK P.k_show_item, ?_⟩⟩) ff.handled
      have := ih j (by omega) (p := q) (σ := τ') (Φ := fun y τ4 => ∃ τ3, Sub τ3 τ4 ∧ ((List.map (fun x => PV.str (T x)) (List.map shL (List.take i l)) ++ [y] = ((l.take (i + 1)).map shL).map (fun x => PV.str (T x))) ∧ τ3 = τ')) (X := fun _ _ _ => False) (h2 q (List.mem_of_getElem? hq)) (by omega) ⟨_, .refl _, ?_, rfl⟩
      · exact this.call
      · rw [List.take_add_one, hq]
        simp
    · rintro D acc τ' ⟨rfl, rfl⟩ hD
      rw [List.take_length]
      have hbj : ∀ t ∈ l.map shL, t.length ≤ bd j := fun t ht => by
        obtain ⟨p, hp, rfl⟩ := List.mem_map.mp ht
        exact shL_len (h2 p hp)
      have hbj2 := bd_mono (show j ≤ 2 by omega)
      have hb2 : bd 2 = 653 := rfl
      rw [show PySem.Str.ofString " " = T [32] by kernel_rfl]
      have hj := shL_len hp
      have hsh : shL (.tup l) = 40 :: (jn [32] (l.map shL) ++ [41]) := by unfold shL; rw [shLs_map]
      rw [hsh] at hj h
      rw [List.length_cons, List.length_append, List.length_singleton] at hj
      refine ⟨.inl ⟨_, rfl⟩, join_show (b := bd j) (upd_same _ _ _) hbj (by decide) ?_ (op_cat ?_ (ev_str (op_cat ?_ ⟨_, sub_new _ hD, ?_⟩)))⟩
      · rw [List.length_map]
        have : l.length * (bd j + 4) ≤ 2 * (bd j + 4) := Nat.mul_le_mul_right _ h1
        omega
      · rw [show (PySem.Str.ofString "(").length = 1 by kernel_rfl, T_len]; unfold sizeLine; omega
      · rw [show PySem.Str.ofString "(" = T [40] by kernel_rfl, show (PySem.Str.ofString ")").length = 1 by kernel_rfl, T_append, T_len]; unfold sizeLine; simp; omega
      · rw [show PySem.Str.ofString "(" = T [40] by kernel_rfl, show PySem.Str.ofString ")" = T [41] by kernel_rfl, T_append, T_append]
        exact h
end
end Mine
end B16
section B17
open PySem PySem.W PySem.Calls PyProof.Rows PySem.Challenge
set_option maxRecDepth 100000
set_option linter.unusedVariables false
set_option exponentiation.threshold 2000
namespace Mine

noncomputable def lineL (w : List Nat) (ps : List PV) : List Nat := jn [32] (w :: (digs ps.length ++ [58]) :: ps.map shL)
noncomputable abbrev stPV (ls : List (List Nat)) : List PV := ls.map fun t => PV.str (T t)

section
variable {c : Cx} {fm : Fm} {loc : Loc} {n m : Nat} {σ : Sto} {Φ : NPr} {X : CXPr}

theorem shown_c (P : PK c) : ∀ (k : Nat) {p : PV} {σ : Sto} {Φ : NPr} {X : CXPr}, p.okI k = true → k ≤ 2 → Φ (.str (T (shL p))) σ → CallC c (n + k + 1) (.ref 426) [p] σ Φ X := by
  intro k
  induction k using Nat.strongRecOn with
  | ind k ih =>
  intro p σ Φ X hp hk h
  have hb := bd_mono hk
  refine call_pl P.f_law_shown [("one", p)] (fun s vs kV doc pm an ct _ hv => ?_) (by kernel_rfl) (by kernel_rfl) fun L A' hL ff => ?_
  · obtain ⟨v, rfl, b⟩ := br1 (x := "one") hv
    exact ⟨_, .of_eq rfl, b⟩
  refine ss_if (b_cmp (ev_name m0 (ev_none (cmp_is ?_))))
  cases p with
  | k w =>
    have := okI_k hp
    subst this
    refine ss_ret (ev_str ⟨_, .refl _, ?_⟩)
    rw [show PySem.Str.ofString "-" = T [45] by kernel_rfl]
    exact h
  | int a =>
    refine ss_nil (ss_if (b_val (ev_call (ev_builtin P.b_isinstance rfl ⟨_, rfl, ev_name m0 (ev_builtin P.b_str rfl ⟨kB, c_isi_str rfl ⟨_, rfl, ?_⟩⟩)⟩) ff.handled)))
    refine ss_nil (ss_if (b_val (ev_call (ev_builtin P.b_isinstance rfl ⟨_, rfl, ev_name m0 (ev_builtin P.b_tuple rfl ⟨kB, c_isi_tuple rfl ⟨_, rfl, ?_⟩⟩)⟩) ff.handled)))
    refine ss_nil (ss_ret (ev_call (ev_builtin P.b_str rfl ⟨_, rfl, ev_name m0 ⟨kT, c_str_int ?_ ⟨_, .refl _, ?_⟩⟩⟩) ff.handled))
    · have h1 := okI_int hp
      by_cases h0 : a.natAbs = 0
      · rw [h0]; decide
      · exact (Nat.log2_lt h0).mpr (Nat.lt_of_lt_of_le h1 (Nat.le_trans (Nat.pow_le_pow_left (m := 16) (by decide) 160) (by rw [show 16 = 2 ^ 4 from rfl, ← Nat.pow_mul]; exact Nat.pow_le_pow_right (by decide) (by decide))))
    · rw [ofString_int]; exact h
  | str s =>
    obtain ⟨h1, h2⟩ := okI_str hp
    refine ss_nil (ss_if (b_val (ev_call (ev_builtin P.b_isinstance rfl ⟨_, rfl, ev_name m0 (ev_builtin P.b_str rfl ⟨kB, c_isi_str rfl ⟨_, rfl, ?_⟩⟩)⟩) ff.handled)))
    refine ss_ret (ev_binop (ev_upop rfl (ev_replace (of_decide_eq_true rfl) (ev_replace (of_decide_eq_true rfl) (ev_replace (of_decide_eq_true rfl) (ev_replace (of_decide_eq_true rfl) (ev_name m0 ⟨_, rfl, ?_, _, rfl, ?_, _, rfl, ?_, _, rfl, ?_, ?_⟩) (by kernel_rfl)) (by kernel_rfl)) (by kernel_rfl)) (by kernel_rfl))))
    all_goals try rw [show PySem.Str.ofString "\\" = T [92] by kernel_rfl]
    all_goals try rw [show PySem.Str.ofString "\\\\" = T [92, 92] by kernel_rfl]
    all_goals try rw [show Txt.replace s (T [92]) (T [92, 92]) = T (sb 92 [92, 92] s.cps.toList) from replace_T ..]
    all_goals try rw [show PySem.Str.ofString "\"" = T [34] by kernel_rfl]
    all_goals try rw [show PySem.Str.ofString "\\\"" = T [92, 34] by kernel_rfl]
    all_goals try rw [replace_T]
    all_goals try rw [show PySem.Str.ofString "\n" = T [10] by kernel_rfl]
    all_goals try rw [show PySem.Str.ofString "\\n" = T [92, 110] by kernel_rfl]
    all_goals try rw [replace_T]
    all_goals try rw [show PySem.Str.ofString "\t" = T [9] by kernel_rfl]
    all_goals try rw [show PySem.Str.ofString "\\t" = T [92, 116] by kernel_rfl]
    all_goals try rw [replace_T]
    all_goals have l1 := sb_len (c := 92) (z := [92, 92]) rfl s.cps.toList
    all_goals have l2 := sb_len (c := 34) (z := [92, 34]) rfl (sb 92 [92, 92] s.cps.toList)
    all_goals have l3 := sb_len (c := 10) (z := [92, 110]) rfl (sb 34 [92, 34] (sb 92 [92, 92] s.cps.toList))
    · have : s.length = s.cps.toList.length := Array.length_toList.symm
      simp only [T_len, List.length_cons, List.length_nil]; omega
    · simp only [T_len, List.length_cons, List.length_nil]; omega
    · simp only [T_len, List.length_cons, List.length_nil]; omega
    · simp only [T_len, List.length_cons, List.length_nil]; omega
    · rw [escs_sb]
      have he := escs_len s.cps.toList
      refine op_cat ?_ (ev_str (op_cat ?_ ⟨_, .refl _, ?_⟩))
      · rw [T_len, T_len]; unfold sizeLine; simp only [List.length_singleton]; omega
      · rw [T_append, T_len, T_len]; unfold sizeLine; simp only [List.length_append, List.length_singleton]; omega
      · rw [T_append, T_append]; exact h
  | tup l =>
    obtain ⟨j, rfl, h1, h2⟩ := okI_tup hp
    refine ss_nil (ss_if (b_val (ev_call (ev_builtin P.b_isinstance rfl ⟨_, rfl, ev_name m0 (ev_builtin P.b_str rfl ⟨kB, c_isi_str rfl ⟨_, rfl, ?_⟩⟩)⟩) ff.handled)))
    refine ss_nil (ss_if (b_val (ev_call (ev_builtin P.b_isinstance rfl ⟨_, rfl, ev_name m0 (ev_builtin P.b_tuple rfl ⟨kB, c_isi_tuple rfl ⟨_, rfl, ?_⟩⟩)⟩) ff.handled)))
    refine ss_ret (ev_binop (ev_binop (ev_str (ev_methG (ev_str ⟨_, _, gm_str PySem.F.slot_str_join PySem.F.type_str_join, ev_comp [] (ei_of (ev_name m0 ⟨_, _, _, src_tup, fun i acc τ' => acc = stPV ((l.take i).map shL) ∧ τ' = σ, ⟨rfl, rfl⟩, ?_, ?_⟩)) ff.handled⟩) ff.handled))))
    · refine ⟨trivial, by unfold sizeLine; omega, fun _ _ _ _ => trivial, ?_⟩
      rintro C i q acc τ' hq ⟨rfl, rfl⟩
      refine as_name .nil ?_
      refine ev_call (ev_glob P.g_law_shown ⟨_, rfl, ev_name m0 ⟨kK P.k_law_shown, ?_⟩⟩) ff.handled
      have := ih j (by omega) (p := q) (σ := τ') (Φ := fun y τ4 => ∃ τ3, Sub τ3 τ4 ∧ (stPV ((l.take i).map shL) ++ [y] = stPV ((l.take (i + 1)).map shL) ∧ τ3 = τ')) (X := fun _ _ _ => False) (h2 q (List.mem_of_getElem? hq)) (by omega) ⟨_, .refl _, ?_, rfl⟩
      · exact this.call
      · rw [List.take_add_one, hq]
        simp [stPV]
    · rintro D acc τ' ⟨rfl, rfl⟩ hD
      rw [List.take_length]
      have hbj : ∀ t ∈ l.map shL, t.length ≤ bd j := fun t ht => by
        obtain ⟨p, hp, rfl⟩ := List.mem_map.mp ht
        exact shL_len (h2 p hp)
      have hbj2 := bd_mono (show j ≤ 2 by omega)
      have hb2 : bd 2 = 653 := rfl
      rw [show PySem.Str.ofString " " = T [32] by kernel_rfl]
      have hj := shL_len hp
      have hsh : shL (.tup l) = 40 :: (jn [32] (l.map shL) ++ [41]) := by unfold shL; rw [shLs_map]
      rw [hsh] at hj h
      rw [List.length_cons, List.length_append, List.length_singleton] at hj
      refine ⟨.inl ⟨_, rfl⟩, join_show (b := bd j) (upd_same _ _ _) hbj (by decide) ?_ (op_cat ?_ (ev_str (op_cat ?_ ⟨_, sub_new _ hD, ?_⟩)))⟩
      · rw [List.length_map]
        have : l.length * (bd j + 4) ≤ 2 * (bd j + 4) := Nat.mul_le_mul_right _ h1
        omega
      · rw [show (PySem.Str.ofString "(").length = 1 by kernel_rfl, T_len]; unfold sizeLine; omega
      · rw [show PySem.Str.ofString "(" = T [40] by kernel_rfl, show (PySem.Str.ofString ")").length = 1 by kernel_rfl, T_append, T_len]; unfold sizeLine; simp; omega
      · rw [show PySem.Str.ofString "(" = T [40] by kernel_rfl, show PySem.Str.ofString ")" = T [41] by kernel_rfl, T_append, T_append]
        exact h
theorem line_len {w : List Nat} {ps : List PV} {k : Nat} (hw : w.length ≤ 100) (hn : ps.length ≤ 100) (hps : ∀ p ∈ ps, p.okI k = true) (hk : k ≤ 2) : ∀ t ∈ (w :: (digs ps.length ++ [58]) :: ps.map shL), t.length ≤ 653 := fun t ht => by
  have hb : bd k ≤ 653 := bd_mono hk
  rcases List.mem_cons.mp ht with rfl | ht
  · omega
  rcases List.mem_cons.mp ht with rfl | ht
  · have := digs_len (n := ps.length) (m := 3) (by decide) (by omega)
    rw [List.length_append, List.length_singleton]; omega
  obtain ⟨p, hp, rfl⟩ := List.mem_map.mp ht
  exact Nat.le_trans (shL_len (hps p hp)) hb
theorem lineL_len {w : List Nat} {ps : List PV} {k : Nat} (hw : w.length ≤ 100) (hn : ps.length ≤ 100) (hps : ∀ p ∈ ps, p.okI k = true) (hk : k ≤ 2) : (lineL w ps).length ≤ (ps.length + 2) * 654 := by
  have := jn_len (sep := [32]) (line_len hw hn hps hk)
  unfold lineL
  simp only [List.length_cons, List.length_map, List.length_nil] at this
  omega

theorem line_c (P : PK c) {w : List Nat} {ps : List PV} {I : Addr} (hI : σ I = some (.list ps)) (hw : w.length ≤ 100) (hn : ps.length ≤ 100) (hps : ∀ p ∈ ps, p.okI 2 = true) (h : Φ (.str (T (lineL w ps))) σ) : CallC c (n + 4) (.ref 431) [.str (T w), .k (.ref I)] σ Φ X := by
  refine call_pl P.f_law_line [("word", .str (T w)), ("some", .k (.ref I))] (fun s vs kV doc pm an ct _ hv => ?_) (by kernel_rfl) (by kernel_rfl) fun L A' hL ff => ?_
  · obtain ⟨v, u, rfl, b⟩ := br2 (x := "word") (y := "some") hv
    exact ⟨_, .of_eq rfl, b⟩
  refine ss_ret (ev_methG (ev_str ⟨_, _, gm_str PySem.F.slot_str_join PySem.F.type_str_join, ev_binop (ev_list (ev_name m0 (ev_binop (ev_call (ev_builtin P.b_str rfl ⟨_, rfl, ev_call (ev_builtin P.b_len rfl ⟨_, rfl, ev_name m1 ⟨kB, c_len_list hI (by omega) ⟨kT, c_str_int ?_ (ev_str (op_cat ?_ fun D hD => ?_))⟩⟩⟩) ff.handled⟩) ff.handled))))⟩) ff.handled)
  · have : ((ps.length : Nat) : Int).natAbs.log2 ≤ ((ps.length : Nat) : Int).natAbs := Nat.log2_le_self _
    omega
  · rw [ofString_int, show (PySem.Str.ofString ":").length = 1 by kernel_rfl, T_len]
    have := intS_len (a := (ps.length : Int)) (m := 3) (by decide) (by omega)
    unfold sizeLine; omega
  have e1 : PySem.Str.ofString (toString ((ps.length : Nat) : Int)) ++ PySem.Str.ofString ":" = T (digs ps.length ++ [58]) := by
    rw [ofString_int, show PySem.Str.ofString ":" = T [58] by kernel_rfl, T_append]
    unfold intS
    rw [if_neg (by omega), Int.natAbs_natCast]
  rw [e1]
  have hI' : upd σ D (.list [.str (T w), .str (T (digs ps.length ++ [58]))]) I = some (.list ps) := by rw [upd_ne _ _ fun q => by rw [q, hD] at hI; cases hI]; exact hI
  generalize hτ : upd σ D (.list [.str (T w), .str (T (digs ps.length ++ [58]))]) = τ at hI'
  have hs : Sub σ τ := by rw [← hτ]; exact sub_new _ hD
  have hDτ : τ D = some (.list [.str (T w), .str (T (digs ps.length ++ [58]))]) := by rw [← hτ]; exact upd_same _ _ _
  refine ev_comp [] (ei_of (ev_name m1 ⟨_, _, _, src_list hI', fun i acc τ' => acc = stPV ((ps.take i).map shL) ∧ τ' = τ, ⟨rfl, rfl⟩, ?_, ?_⟩)) ff.handled
  · refine ⟨trivial, by unfold sizeLine; omega, fun _ _ _ h => by rw [h.2]; exact hI', ?_⟩
    rintro C i q acc τ' hq ⟨rfl, rfl⟩
    refine as_name .nil ?_
    refine ev_call (ev_glob P.g_law_shown ⟨_, rfl, ev_name m0 ⟨kK P.k_law_shown, ?_⟩⟩) ff.handled
    refine (shown_c (n := n) P 2 (hps q (List.mem_of_getElem? hq)) (Nat.le_refl _) ⟨_, .refl _, ?_, rfl⟩).call
    rw [List.take_add_one, hq]
    simp [stPV]
  · rintro D2 acc τ' ⟨rfl, rfl⟩ hD2
    rw [List.take_length]
    have hne : D ≠ D2 := fun q => by rw [← q, hDτ] at hD2; cases hD2
    refine op_lists (by rw [upd_ne _ _ hne]; exact hDτ) (upd_same _ _ _) ?_ fun R hR => ⟨.inl ⟨_, rfl⟩, ?_⟩
    · unfold stPV; rw [List.length_map, List.length_map]; unfold sizeLine; simp; omega
    rw [show PySem.Str.ofString " " = T [32] by kernel_rfl]
    refine join_show (ts := w :: (digs ps.length ++ [58]) :: ps.map shL) (b := 653) (upd_same _ _ _) (line_len hw hn hps (Nat.le_refl _)) (by decide) ?_ ⟨σ, .trans hs (.trans (sub_new _ hD2) (sub_new _ hR)), h⟩
    simp only [List.length_cons, List.length_map]
    omega
end
end Mine
end B17
section B18
open PySem PySem.W PySem.Calls PyProof.Rows PySem.Challenge
set_option maxRecDepth 100000
set_option linter.unusedVariables false
set_option exponentiation.threshold 2000
namespace Mine

noncomputable abbrev wrO (dw S : Addr) : AO := .inst 279 dw [("lines", .k (.ref S))]
noncomputable def endL (n : Nat) : List Nat := [101, 110, 100, 32] ++ digs n
noncomputable def textL (ls : List (List Nat)) : List Nat := jn [10] (ls ++ [endL (ls.length + 1)]) ++ [10]

section
variable {c : Cx} {fm : Fm} {loc : Loc} {n m : Nat} {σ : Sto} {Φ : NPr} {X : CXPr} {W dw S : Addr} {ls : List (List Nat)}

theorem wr_make (P : PK c) {w : List Nat} (h : ∀ W dw S, σ W = none → σ S = none → W ≠ S → Φ (.k (.ref W)) (upd (upd σ S (.list (stPV [w]))) W (wrO dw S))) : CallC c (n + 2) (.ref 279) [.str (T w)] σ Φ X := by
  refine call_make P.mk_279 P.in_279 P.if_279 fun W dw hW => call_pl P.f_LineWriter_init [("self", .k (.ref W)), ("head", .str (T w))] (fun s vs kV doc pm an ct _ hv => ?_) (by kernel_rfl) (by kernel_rfl) fun L A' hL ff => ?_
  · obtain ⟨v, u, rfl, b⟩ := br2 (x := "self") (y := "head") hv
    exact ⟨_, .of_eq rfl, b⟩
  refine ss_setattr (ev_list (ev_name m1 fun S hS => ?_))
  have hne : W ≠ S := fun q => by rw [q, upd_same] at hS; cases hS
  have hS' : σ S = none := by rw [upd_ne _ _ (Ne.symm hne)] at hS; exact hS
  refine ev_name m0 ⟨_, rfl, .inst (by rw [upd_ne _ _ hne]; exact upd_same _ _ _) P.s_279_lines (of_decide_eq_true rfl) ?_⟩
  refine ss_nil ⟨_, .refl _, rfl, ?_⟩
  rw [upd_comm _ _ _ hne, upd_upd]
  exact h W dw S hW hS' hne

theorem wr_add (P : PK c) {w : List Nat} {ps : List PV} {I : Addr} (hW : σ W = some (wrO dw S)) (hS : σ S = some (.list (stPV ls))) (hls : ls.length ≤ 100) (hI : σ I = some (.list ps)) (hw : w.length ≤ 100) (hn : ps.length ≤ 100) (hps : ∀ p ∈ ps, p.okI 2 = true)
    (h : Φ (.k .none) (upd σ S (.list (stPV (ls ++ [lineL w ps]))))) : CallC c (n + 6) (.ref 269) [.k (.ref W), .str (T w), .k (.ref I)] σ Φ X := by
  refine call_pl P.f_LineWriter_add [("self", .k (.ref W)), ("word", .str (T w)), ("items", .k (.ref I))] (fun s vs kV doc pm an ct _ hv => ?_) (by kernel_rfl) (by kernel_rfl) fun L A' hL ff => ?_
  · obtain ⟨v, u, y, rfl, b⟩ := br3 (x := "self") (y := "word") (z := "items") hv
    exact ⟨_, .of_eq rfl, b⟩
  refine ss_expr (ev_methG (ev_nattr m0 hW P.a_279_lines rfl rfl ⟨_, _, gm_append hS, ?_⟩) ff.handled)
  refine ev_methG (ev_str ⟨_, _, gm_str PySem.F.slot_str_join PySem.F.type_str_join, ev_binop (ev_list (ev_name m1 (ev_binop (ev_call (ev_builtin P.b_str rfl ⟨_, rfl, ev_call (ev_builtin P.b_len rfl ⟨_, rfl, ev_name m2 ⟨kB, c_len_list hI (by omega) ⟨kT, c_str_int ?_ (ev_str (op_cat ?_ fun D hD => ?_))⟩⟩⟩) ff.handled⟩) ff.handled))))⟩) ff.handled
  · have : ((ps.length : Nat) : Int).natAbs.log2 ≤ ((ps.length : Nat) : Int).natAbs := Nat.log2_le_self _
    omega
  · rw [ofString_int, show (PySem.Str.ofString ":").length = 1 by kernel_rfl, T_len]
    have := intS_len (a := (ps.length : Int)) (m := 3) (by decide) (by omega)
    unfold sizeLine; omega
  have e1 : PySem.Str.ofString (toString ((ps.length : Nat) : Int)) ++ PySem.Str.ofString ":" = T (digs ps.length ++ [58]) := by
    rw [ofString_int, show PySem.Str.ofString ":" = T [58] by kernel_rfl, T_append]
    unfold intS
    rw [if_neg (by omega), Int.natAbs_natCast]
  rw [e1]
  have hI' : upd σ D (.list [.str (T w), .str (T (digs ps.length ++ [58]))]) I = some (.list ps) := by rw [upd_ne _ _ fun q => by rw [q, hD] at hI; cases hI]; exact hI
  have hS' : upd σ D (.list [.str (T w), .str (T (digs ps.length ++ [58]))]) S = some (.list (stPV ls)) := by rw [upd_ne _ _ fun q => by rw [q, hD] at hS; cases hS]; exact hS
  generalize hτ : upd σ D (.list [.str (T w), .str (T (digs ps.length ++ [58]))]) = τ at hI' hS'
  have hs : Sub σ τ := by rw [← hτ]; exact sub_new _ hD
  have hDτ : τ D = some (.list [.str (T w), .str (T (digs ps.length ++ [58]))]) := by rw [← hτ]; exact upd_same _ _ _
  refine ev_comp [] (ei_of (ev_name m2 ⟨_, _, _, src_list hI', fun i acc τ' => acc = stPV ((ps.take i).map shL) ∧ τ' = τ, ⟨rfl, rfl⟩, ?_, ?_⟩)) ff.handled
  · refine ⟨trivial, by unfold sizeLine; omega, fun _ _ _ h => by rw [h.2]; exact hI', ?_⟩
    rintro C i q acc τ' hq ⟨rfl, rfl⟩
    refine as_name .nil ?_
    refine ev_call (ev_glob P.g_show_item ⟨_, rfl, ev_name m0 ⟨kK P.k_show_item, ?_⟩⟩) ff.handled
    refine (show_c (n := n) P 2 (hps q (List.mem_of_getElem? hq)) (Nat.le_refl _) ⟨_, .refl _, ?_, rfl⟩).call
    rw [List.take_add_one, hq]
    simp [stPV]
  · rintro D2 acc τ' ⟨rfl, rfl⟩ hD2
    rw [List.take_length]
    have hne : D ≠ D2 := fun q => by rw [← q, hDτ] at hD2; cases hD2
    refine op_lists (by rw [upd_ne _ _ hne]; exact hDτ) (upd_same _ _ _) ?_ fun R hR => ⟨.inl ⟨_, rfl⟩, ?_⟩
    · unfold stPV; rw [List.length_map, List.length_map]; unfold sizeLine; simp; omega
    rw [show PySem.Str.ofString " " = T [32] by kernel_rfl]
    have hnS2 : S ≠ D2 := fun q => by rw [← q, hS'] at hD2; cases hD2
    have hS2 : upd τ' D2 (.list (stPV (ps.map shL))) S = some (.list (stPV ls)) := by rw [upd_ne _ _ hnS2]; exact hS'
    have hnR : S ≠ R := fun q => by rw [← q, hS2] at hR; cases hR
    refine join_show (ts := w :: (digs ps.length ++ [58]) :: ps.map shL) (b := 653) (upd_same _ _ _) (line_len hw hn hps (Nat.le_refl _)) (by decide) ?_ ⟨kB, c_append (by rw [upd_ne _ _ hnR]; exact hS2) ?_ (ss_nil ⟨_, ?_, h⟩)⟩
    · simp only [List.length_cons, List.length_map]
      omega
    · unfold stPV; rw [List.length_map]; unfold sizeLine; omega
    · rw [show stPV (ls ++ [lineL w ps]) = stPV ls ++ [PV.str (T (lineL w ps))] by unfold stPV; simp]
      exact sub_upd (.trans hs (.trans (sub_new _ hD2) (sub_new _ hR))) _ _

theorem end_str {k : Nat} (hk : k ≤ 1000) : PySem.Str.ofString "end " ++ PySem.Str.ofString (toString ((k : Nat) : Int)) = T (endL k) := by
  rw [ofString_int, show PySem.Str.ofString "end " = T [101, 110, 100, 32] by kernel_rfl, T_append]
  unfold intS endL
  rw [if_neg (by omega), Int.natAbs_natCast]
theorem end_len {k : Nat} (hk : k ≤ 1000) : (endL k).length ≤ 8 := by
  have := digs_len (n := k) (m := 4) (by decide) (by omega)
  unfold endL
  rw [List.length_append]
  simp only [List.length_cons, List.length_nil]; omega

theorem wr_text (P : PK c) (hW : σ W = some (wrO dw S)) (hS : σ S = some (.list (stPV ls))) (hls : ls.length ≤ 100) (hb : ∀ t ∈ ls, t.length ≤ 66708) (h : Φ (.str (T (textL ls))) σ) : CallC c (n + 1) (.ref 276) [.k (.ref W)] σ Φ X := by
  refine call_pl P.f_LineWriter_text [("self", .k (.ref W))] (fun s vs kV doc pm an ct _ hv => ?_) (by kernel_rfl) (by kernel_rfl) fun L A' hL ff => ?_
  · obtain ⟨v, rfl, b⟩ := br1 (x := "self") hv
    exact ⟨_, .of_eq rfl, b⟩
  have hlen : (stPV ls).length = ls.length := by unfold stPV; rw [List.length_map]
  refine ss_ret (ev_binop (ev_methG (ev_str ⟨_, _, gm_str PySem.F.slot_str_join PySem.F.type_str_join, ev_binop (ev_nattr m0 hW P.a_279_lines rfl rfl (ev_list (ev_binop (ev_str (ev_call (ev_builtin P.b_str rfl ⟨_, rfl, ev_binop (ev_call (ev_builtin P.b_len rfl ⟨_, rfl, ev_nattr m0 hW P.a_279_lines rfl rfl ⟨kB, c_len_list hS (by omega) (ev_int (op_add ⟨kT, c_str_int ?_ (op_cat ?_ fun D hD => ?_)⟩))⟩⟩) ff.handled)⟩) ff.handled)))))⟩) ff.handled))
  · have : ((((stPV ls).length : Nat) : Int) + 1).natAbs.log2 ≤ ((((stPV ls).length : Nat) : Int) + 1).natAbs := Nat.log2_le_self _
    omega
  · rw [hlen, ofString_int, show (PySem.Str.ofString "end ").length = 4 by kernel_rfl, T_len]
    have := intS_len (a := (ls.length : Int) + 1) (m := 4) (by decide) (by omega)
    unfold sizeLine; omega
  rw [hlen, show (ls.length : Int) + 1 = ((ls.length + 1 : Nat) : Int) by omega, end_str (by omega)]
  have hS' : upd σ D (.list [.str (T (endL (ls.length + 1)))]) S = some (.list (stPV ls)) := by rw [upd_ne _ _ fun q => by rw [q, hD] at hS; cases hS]; exact hS
  have hel := end_len (k := ls.length + 1) (by omega)
  have hb2 : ∀ t ∈ ls ++ [endL (ls.length + 1)], t.length ≤ 66708 := fun t ht => by
    rcases List.mem_append.mp ht with ht | ht
    · exact hb t ht
    · rw [List.mem_singleton.mp ht]; omega
  refine op_lists hS' (upd_same _ _ _) (by rw [hlen]; unfold sizeLine; simp; omega) fun R hR => ⟨.inl ⟨_, rfl⟩, ?_⟩
  rw [show PySem.Str.ofString "\n" = T [10] by kernel_rfl]
  refine join_show (ts := ls ++ [endL (ls.length + 1)]) (b := 66708) (by rw [upd_same, List.map_append]; rfl) hb2 (by decide) ?_ (ev_str (op_cat ?_ ⟨σ, .trans (sub_new _ hD) (sub_new _ hR), ?_⟩))
  · rw [List.length_append, List.length_singleton]; omega
  · have := jn_len (sep := [10]) hb2
    rw [List.length_append] at this
    simp only [List.length_singleton] at this
    simp only [T_len, List.length_singleton]; unfold sizeLine; omega
  · rw [T_append]; exact h
end
end Mine
end B18
section C3
open PySem PySem.W PySem.Calls PyProof.Rows PySem.Challenge
set_option maxRecDepth 100000
set_option linter.unusedVariables false
set_option exponentiation.threshold 2000
namespace Mine

theorem QR_esc : ∀ {l t : List Nat}, (∀ k ∈ l, okSign k = true) → QR (escs l ++ (34 :: t)) (some (l, t))
  | [], t, _ => .close t
  | k :: r, t, h => by
    have ih := QR_esc (t := t) fun x hx => h x (.tail _ hx)
    show QR (escS k ++ escs r ++ _) _
    rw [List.append_assoc]
    unfold escS
    by_cases h1 : k = 10
    · rw [if_pos h1, h1]
      exact QR.esc (k := 110) (v := 10) rfl ih
    rw [if_neg h1]
    by_cases h2 : k = 9
    · rw [if_pos h2, h2]
      exact QR.esc (k := 116) (v := 9) rfl ih
    rw [if_neg h2]
    by_cases h3 : k = 34 ∨ k = 92
    · rw [if_pos h3]
      rcases h3 with rfl | rfl
      · exact QR.esc (k := 34) (v := 34) rfl ih
      · exact QR.esc (k := 92) (v := 92) rfl ih
    · rw [if_neg h3]
      exact QR.sign (fun q => h3 (.inl q)) (fun q => h3 (.inr q)) ih

noncomputable def itemsL : List PV → List Nat
  | [] => []
  | p :: r => 32 :: (shL p ++ itemsL r)
theorem itemsL_head (ps : List PV) (k : Nat) (t : List Nat) (hk : k < 48 ∨ 57 < k) : ∀ j, (itemsL ps ++ k :: t).head? = some j → j ∉ figs := by
  cases ps with
  | nil => exact not_fig hk
  | cons p r => exact not_fig (by decide)
theorem jn_items : ∀ (x : List Nat) (ps : List PV), jn [32] (x :: ps.map shL) = x ++ itemsL ps
  | x, [] => by show x = x ++ []; rw [List.append_nil]
  | x, p :: r => by
    have ih := jn_items (shL p) r
    show x ++ [32] ++ jn [32] (shL p :: r.map shL) = _
    rw [ih, List.append_assoc]; rfl
theorem lineL_eq (w : List Nat) (ps : List PV) : lineL w ps = (w ++ [32]) ++ (digs ps.length ++ 58 :: itemsL ps) := by
  unfold lineL
  show w ++ [32] ++ jn [32] ((digs ps.length ++ [58]) :: ps.map shL) = _
  rw [jn_items, List.append_assoc (digs ps.length)]; rfl

theorem LB_items {k : Nat} {t : List Nat} (H : ∀ p : PV, p.okI k = true → ∀ t, (∀ x, t.head? = some x → x ∉ figs) → PIt k (shL p ++ t) (.ok p t)) : ∀ (ps acc : List PV), (∀ p ∈ ps, p.okI k = true) → LB (PIt k) acc (itemsL ps ++ 41 :: t) (.ok (.tup (acc ++ ps)) t)
  | [], acc, _ => by rw [List.append_nil]; exact .close
  | p :: r, acc, h => by
    have ih := LB_items (t := t) H r (acc ++ [p]) fun q hq => h q (.tail _ hq)
    rw [List.append_assoc] at ih
    show LB _ _ (32 :: (shL p ++ itemsL r ++ 41 :: t)) _
    rw [List.append_assoc]
    exact .item (H p (h p (.head _)) _ (itemsL_head _ _ _ (by decide))) ih
theorem sh_no41 {k : Nat} {p : PV} (h : p.okI k = true) (t : List Nat) : ∀ u, shL p ++ t ≠ 41 :: u := fun u q => by
  cases p with
  | k w => unfold shL at q; simp at q
  | int a =>
    obtain ⟨x, r, e, hx⟩ := intS_head a
    unfold shL at q
    rw [e] at q
    have q : x = 41 := (List.cons.inj q).1
    rcases hx with hx | hx
    · omega
    · have := figs_mem.mp hx; omega
  | str s => unfold shL at q; simp at q
  | tup l => unfold shL at q; simp at q

theorem PIt_sh : ∀ (k : Nat) (p : PV), p.okI k = true → ∀ t, (∀ x, t.head? = some x → x ∉ figs) → PIt k (shL p ++ t) (.ok p t) := by
  intro k
  induction k using Nat.strongRecOn with
  | ind k ih =>
  intro p hp t ht
  have base : ∀ (sub : List Nat → PR PV → Prop) (deep : Bool), (∀ l, p ≠ .tup l) → IB sub deep (shL p ++ t) (.ok p t) := fun sub deep hnt => by
    cases p with
    | k w =>
      have := okI_k hp
      subst this
      unfold shL
      exact .none ht
    | int a =>
      unfold shL
      obtain ⟨x, r, e, hx⟩ := intS_head a
      have hW := WR_int (okI_int hp) ht
      refine .int ?_ ?_ ?_ hW
      · rw [e]
        intro u q
        have q : x = 34 := (List.cons.inj q).1
        rcases hx with hx | hx
        · omega
        · have := figs_mem.mp hx; omega
      · rw [e]
        intro u q
        have q : x = 40 := (List.cons.inj q).1
        rcases hx with hx | hx
        · omega
        · have := figs_mem.mp hx; omega
      · intro u q
        unfold intS at q
        split at q
        · have q : digs a.natAbs ++ t = u := (List.cons.inj q).2
          cases hd : digs a.natAbs with
          | nil => exact absurd hd (digs_ne _)
          | cons y z =>
            rw [hd] at q
            exact ⟨y, by rw [← q]; rfl, digs_figs y (by rw [hd]; exact .head _)⟩
        · have := figs_not45 (t := t) (digs_figs (n := a.natAbs)) (digs_ne _)
          rw [q] at this
          exact absurd rfl this
    | str s =>
      have hs := (okI_str hp).2
      unfold shL
      have q := QR_esc (t := t) hs
      have e := IB.str (sub := sub) (deep := deep) q
      rw [show 34 :: (escs s.cps.toList ++ [34]) ++ t = 34 :: (escs s.cps.toList ++ (34 :: t)) by simp]
      exact e
    | tup l => exact absurd rfl (hnt l)
  cases hpt : p with
  | tup l =>
    subst hpt
    obtain ⟨j, rfl, h1, h2⟩ := okI_tup hp
    unfold shL PIt
    rw [shLs_map]
    show IB (PIt j) false (40 :: (jn [32] (l.map shL) ++ [41] ++ t)) _
    refine .brack ?_
    cases l with
    | nil => exact .nil
    | cons q r =>
      have e : jn [32] ((q :: r).map shL) ++ [41] ++ t = shL q ++ (itemsL r ++ 41 :: t) := by
        rw [List.map_cons, jn_items]; simp
      rw [e]
      refine .fst (sh_no41 (h2 q (.head _)) _) (ih j (by omega) q (h2 q (.head _)) _ (itemsL_head _ _ _ (by decide))) ?_
      exact LB_items (fun p hp t ht => ih j (by omega) p hp t ht) r [q] fun x hx => h2 x (.tail _ hx)
  | _ =>
    rw [← hpt]
    cases k with
    | zero => exact base _ _ (fun l q => by rw [hpt] at q; cases q)
    | succ k => exact base _ _ (fun l q => by rw [hpt] at q; cases q)

theorem LT_items {t : List Nat} : ∀ (ps acc : List PV), (∀ p ∈ ps, p.okI 2 = true) → LT ps.length acc (itemsL ps ++ 10 :: t) (.ok (acc ++ ps) t)
  | [], acc, _ => by rw [List.append_nil]; exact .zero
  | p :: r, acc, h => by
    have ih := LT_items (t := t) r (acc ++ [p]) fun q hq => h q (.tail _ hq)
    rw [List.append_assoc] at ih
    show LT _ _ (32 :: (shL p ++ itemsL r ++ 10 :: t)) _
    rw [List.append_assoc]
    exact .next (PIt_sh 2 p (h p (.head _)) _ (itemsL_head _ _ _ (by decide))) ih

theorem IT_line {w : List Nat} {ps : List PV} {t : List Nat} (hn : ps.length ≤ 100) (h : ∀ p ∈ ps, p.okI 2 = true) : IT w (lineL w ps ++ 10 :: t) (.ok ps t) := by
  rw [show lineL w ps ++ 10 :: t = (w ++ [32]) ++ (digs ps.length ++ 58 :: (itemsL ps ++ 10 :: t)) by rw [lineL_eq]; simp]
  have e := digs_val ps.length
  have hd := digs_len (n := ps.length) (m := 3) (by decide) (by omega)
  have hW := WR_lit (ds := digs ps.length) (t := 58 :: (itemsL ps ++ 10 :: t)) digs_figs (digs_ne _) (by omega) (not_fig (by decide))
  rw [e] at hW
  refine .go hW (by omega) (by omega) ?_
  rw [Int.toNat_natCast]
  exact LT_items ps [] h
end Mine
end C3
section C4
open PySem PySem.W PySem.Calls PyProof.Rows PySem.Challenge
set_option maxRecDepth 100000
set_option linter.unusedVariables false
set_option exponentiation.threshold 2000
namespace Mine
open StrLaws Builtin Builtin.Str

theorem first_at {x y : PySem.Str} {p : Nat} (hA : At x y x.length p) (hn : ∀ j, j < p → ¬ At x y x.length j) : ∃ rest, occurrences x y 0 x.length 1 = p :: rest := by
  rw [occ_eq]
  have hp : p ≤ x.length := by have := hA.1; omega
  have hg : ∀ i, i < x.length + 1 → (List.range' 0 (x.length + 1 - 0))[i]? = some i := fun i hi => by
    rw [List.getElem?_range' (by omega)]; simp
  rcases occ_first x y x.length 1 (Nat.le_refl 1) (List.range' 0 (x.length + 1 - 0)) 0 (fun i _ => Nat.zero_le i) with ⟨_, h⟩ | ⟨pre, a, post, hl, hf, hAa, hpre⟩
  · exact absurd hA (h p (List.mem_of_getElem? (hg p (by omega))))
  · have ha : a = pre.length := by
      have h1 : (pre ++ a :: post)[pre.length]? = some a := by rw [List.getElem?_append_right (Nat.le_refl _), Nat.sub_self]; rfl
      rw [← hl] at h1
      have h2 := (List.getElem?_eq_some_iff.mp h1).1
      rw [List.length_range'] at h2
      rw [hg _ (by omega)] at h1
      exact (Option.some.inj h1).symm
    have hap : a = p := by
      rcases Nat.lt_trichotomy a p with q | q | q
      · exact absurd hAa (hn a q)
      · exact q
      · refine absurd hA (hpre p ?_)
        have h1 := hg p (by omega)
        rw [hl, List.getElem?_append_left (by omega)] at h1
        exact List.mem_of_getElem? h1
    subst hap
    have hf' : (forIn (List.range' 0 (x.length + 1 - 0)) ((#[] : Array Nat), 0) (occBody x y x.length 1)).run.fst.toList[0]? = some a := by
      rw [Array.getElem?_toList]; exact hf
    cases e : (forIn (List.range' 0 (x.length + 1 - 0)) ((#[] : Array Nat), 0) (occBody x y x.length 1)).run.fst.toList with
    | nil => rw [e] at hf'; cases hf'
    | cons b r => rw [e] at hf'; cases hf'; exact ⟨r, rfl⟩

theorem index_T {a w b : List Nat} (h : ∀ j, j < a.length → ((a ++ (w ++ b)).drop j).take w.length ≠ w) : ∃ rest, occurrences (T (a ++ (w ++ b))) (T w) 0 (T (a ++ (w ++ b))).length 1 = a.length :: rest := by
  refine first_at ⟨?_, ?_⟩ fun j hj hA => ?_
  · rw [T_len, T_len, List.length_append, List.length_append]; omega
  · rw [subAt_eq]
    show (((a ++ (w ++ b)).drop a.length).take (T w).length == w) = true
    rw [T_len, List.drop_left' rfl, List.take_left' rfl]; exact beq_self_eq_true w
  · have e := hA.2
    rw [subAt_eq] at e
    refine h j hj ?_
    have e : (((a ++ (w ++ b)).drop j).take (T w).length == w) = true := e
    rw [T_len] at e
    exact beq_iff_eq.mp e
theorem index_one {a b : List Nat} {k : Nat} (h : k ∉ a) : ∃ rest, occurrences (T (a ++ ([k] ++ b))) (T [k]) 0 (T (a ++ ([k] ++ b))).length 1 = a.length :: rest := by
  refine index_T fun j hj q => h ?_
  have e := congrArg (·[0]?) q
  simp only [List.getElem?_take, List.getElem?_drop] at e
  rw [if_pos (by simp), Nat.add_zero, List.getElem?_append_left hj] at e
  exact List.mem_of_getElem? e
end Mine
end C4
section C5
open PySem PySem.W PySem.Calls PyProof.Rows PySem.Challenge
set_option maxRecDepth 100000
set_option linter.unusedVariables false
set_option exponentiation.threshold 2000
namespace Mine

noncomputable def endr : List Nat := [101, 110, 100, 32, 51, 10]
noncomputable def WrongOk (w : List Nat) (v : Int) : Prop := ∃ t, IT [122] (w ++ 10 :: endr) (.err t) ∧ v = ((w.length + 7 - t.length : Nat) : Int) ∧ t.length ≤ w.length + 7
theorem pit2 : PIt 2 = IB (PIt 1) false := rfl
theorem pit1 : PIt 1 = IB (PIt 0) false := rfl
theorem pit0 : PIt 0 = IB (fun _ _ => False) true := rfl
theorem wr1 (t : List Nat) (k : Nat) (h : k < 48 ∨ 57 < k) : WR (49 :: k :: t) (.ok 1 (k :: t)) := WR_lit (ds := [49]) (by decide) (by decide) (by decide) (not_fig h)
theorem it1 {t : List Nat} {res : PR (List PV)} (h : LT 1 [] t res) : IT [122] (122 :: 32 :: 49 :: 58 :: t) res := .go (w := [122]) (r := 49 :: 58 :: t) (wr1 t 58 (by decide)) (by decide) (by decide) h

theorem wrong4 : WrongOk [122, 32, 49, 58, 32, 40, 40, 40, 49, 41, 41, 41] 8 :=
  ⟨[49, 41, 41, 41, 10, 101, 110, 100, 32, 51, 10], it1 (.nextx (by
    rw [pit2]
    exact .brack (.fstx (fun t e => by cases e) (by
      rw [pit1]
      exact .brack (.fstx (fun t e => by cases e) (by
        rw [pit0]
        exact .brack .deep)))))), rfl, by decide⟩
theorem seven_figs : ∀ k ∈ List.replicate 161 55, k ∈ figs := fun k h => by rw [(List.mem_replicate.mp h).2]; decide
theorem wrong5 : WrongOk ([122, 32, 49, 58, 32] ++ List.replicate 161 55) 166 :=
  ⟨10 :: endr, by
    show IT [122] (122 :: 32 :: 49 :: 58 :: 32 :: (List.replicate 161 55 ++ 10 :: endr)) _
    refine it1 (.nextx ?_)
    rw [pit2]
    exact .intx (fun t e => by cases e) (fun t e => by cases e) (fun t e => by cases e) (WR_long seven_figs (by rw [List.length_replicate]; decide) (not_fig (by decide))), by rw [List.length_append, List.length_replicate]; rfl, Nat.le_add_left 7 _⟩
theorem wrong6 : WrongOk ([122, 32, 49, 58, 32, 45] ++ List.replicate 161 55) 167 :=
  ⟨10 :: endr, by
    show IT [122] (122 :: 32 :: 49 :: 58 :: 32 :: 45 :: (List.replicate 161 55 ++ 10 :: endr)) _
    refine it1 (.nextx ?_)
    rw [pit2]
    exact .intx (fun t e => by cases e) (fun t e => by cases e) (fun t e => ⟨55, by rw [← (List.cons.inj e).2]; rfl, by decide⟩) (WR_longn seven_figs (by rw [List.length_replicate]; decide) (not_fig (by decide))), by rw [List.length_append, List.length_replicate]; rfl, Nat.le_add_left 7 _⟩
theorem wrong7 : WrongOk [122, 32, 49, 58, 32, 120] 5 :=
  ⟨[120, 10, 101, 110, 100, 32, 51, 10], it1 (.nextx (by
    rw [pit2]
    exact .intx (fun t e => by cases e) (fun t e => by cases e) (fun t e => by cases e) (WR_none (not_fig (by decide)) (by decide)))), rfl, by decide⟩
theorem wrong8 : WrongOk [122, 32, 120, 58, 32, 49] 2 :=
  ⟨[120, 58, 32, 49, 10, 101, 110, 100, 32, 51, 10], .many (w := [122]) (r := [120, 58, 32, 49, 10, 101, 110, 100, 32, 51, 10]) (WR_none (not_fig (by decide)) (by decide)), rfl, by decide⟩
theorem wrong9 : WrongOk [122, 32, 49, 32, 49] 3 :=
  ⟨[32, 49, 10, 101, 110, 100, 32, 51, 10], .colon (w := [122]) (r := [49, 32, 49, 10, 101, 110, 100, 32, 51, 10]) (wr1 _ 32 (by decide)) (fun u e => by cases e), rfl, by decide⟩
theorem one1 (k : Nat) (t : List Nat) (h : k < 48 ∨ 57 < k) : PIt 1 (49 :: k :: t) (.ok (.int 1) (k :: t)) := by
  rw [pit1]
  exact .int (fun t e => by cases e) (fun t e => by cases e) (fun t e => by cases e) (wr1 _ _ h)
theorem wrong10 : WrongOk [122, 32, 49, 58, 32, 40, 49] 7 :=
  ⟨[10, 101, 110, 100, 32, 51, 10], it1 (.nextx (by
    rw [pit2]
    exact .brack (.fst (fun t e => by cases e) (one1 10 _ (by decide)) (.bad (fun t e => by cases e) (fun t e => by cases e))))), rfl, by decide⟩
theorem wrong11 : WrongOk [122, 32, 49, 58, 32, 40, 49, 44, 50, 41] 7 :=
  ⟨[44, 50, 41, 10, 101, 110, 100, 32, 51, 10], it1 (.nextx (by
    rw [pit2]
    exact .brack (.fst (fun t e => by cases e) (one1 44 _ (by decide)) (.bad (fun t e => by cases e) (fun t e => by cases e))))), rfl, by decide⟩
theorem wrong12 : WrongOk [122, 32, 49, 58, 32, 45, 45, 49] 6 :=
  ⟨[45, 49, 10, 101, 110, 100, 32, 51, 10], it1 (.next (a := .k .none) (t := [45, 49, 10, 101, 110, 100, 32, 51, 10]) (by
    rw [pit2]
    exact .none (not_fig (by decide))) (.zerox (fun t e => by cases e))), rfl, by decide⟩

theorem LT_more {t : List Nat} (k : Nat) : ∀ (ps acc : List PV), (∀ p ∈ ps, p.okI 2 = true) → LT (ps.length + (k + 1)) acc (itemsL ps ++ 10 :: t) (.err (10 :: t))
  | [], acc, _ => by rw [List.length_nil, Nat.zero_add]; exact .nextb (fun t e => by cases e)
  | p :: r, acc, h => by
    have ih := LT_more (t := t) k r (acc ++ [p]) fun q hq => h q (.tail _ hq)
    show LT (r.length + 1 + (k + 1)) _ (32 :: (shL p ++ itemsL r ++ 10 :: t)) _
    rw [List.append_assoc, show r.length + 1 + (k + 1) = (r.length + (k + 1)) + 1 by omega]
    exact .next (PIt_sh 2 p (h p (.head _)) _ (itemsL_head _ _ _ (by decide))) ih
theorem LT_less {t : List Nat} {p : PV} : ∀ (ps acc : List PV), (∀ p ∈ ps, p.okI 2 = true) → LT ps.length acc (itemsL (ps ++ [p]) ++ 10 :: t) (.err (32 :: (shL p ++ 10 :: t)))
  | [], acc, _ => by
    show LT 0 acc (32 :: (shL p ++ []) ++ 10 :: t) _
    rw [List.append_nil]
    exact .zerox (fun t e => by cases e)
  | q :: r, acc, h => by
    have ih := LT_less (t := t) (p := p) r (acc ++ [q]) fun q hq => h q (.tail _ hq)
    show LT (r.length + 1) _ (32 :: (shL q ++ itemsL (r ++ [p]) ++ 10 :: t)) _
    rw [List.append_assoc]
    exact .next (PIt_sh 2 q (h q (.head _)) _ (itemsL_head _ _ _ (by decide))) ih
theorem digs1 {n : Nat} (h : n < 10) : (digs n).length = 1 := by
  have h1 := digs_len (n := n) (m := 1) (by decide) (by omega)
  have h2 := digs_ne n
  cases e : digs n with
  | nil => exact absurd e h2
  | cons a r => rw [e] at h1; simp at h1 ⊢; exact h1
theorem itemsL_snoc (ps : List PV) (p : PV) : itemsL (ps ++ [p]) = itemsL ps ++ 32 :: shL p := by
  induction ps with
  | nil => show 32 :: (shL p ++ []) = _; rw [List.append_nil]; rfl
  | cons q r ih => show 32 :: (shL q ++ itemsL (r ++ [p])) = 32 :: (shL q ++ itemsL r) ++ _; rw [ih]; simp
theorem WR_digs {n : Nat} (h : n < 1000) (k : Nat) (t : List Nat) (hk : k < 48 ∨ 57 < k) : WR (digs n ++ k :: t) (.ok (n : Nat) (k :: t)) := by
  have := WR_lit (ds := digs n) (t := k :: t) digs_figs (digs_ne _) (by have := digs_len (n := n) (m := 3) (by decide) (by omega); omega) (not_fig hk)
  rw [digs_val] at this
  exact this
theorem wrong1 {ps : List PV} (hn : ps.length ≤ 3) (h : ∀ p ∈ ps, p.okI 2 = true) : WrongOk (([122, 32] ++ digs (ps.length + 1)) ++ 58 :: itemsL ps) ((lineL [122] ps).length : Nat) := by
  refine ⟨10 :: endr, ?_, ?_, Nat.le_add_left 7 _⟩
  · have := WR_digs (n := ps.length + 1) (by omega) 58 (itemsL ps ++ 10 :: endr) (by decide)
    have e := IT.go (w := [122]) this (by omega) (by omega) (by rw [Int.toNat_natCast]; exact LT_more 0 ps [] h)
    rw [show (([122, 32] ++ digs (ps.length + 1)) ++ 58 :: itemsL ps) ++ 10 :: endr = ([122] ++ [32]) ++ (digs (ps.length + 1) ++ 58 :: (itemsL ps ++ 10 :: endr)) by simp]
    exact e
  · have a := digs1 (n := ps.length + 1) (by omega)
    have b := digs1 (n := ps.length) (by omega)
    rw [lineL_eq]
    simp only [List.length_append, List.length_cons, List.length_nil, a, b, endr]
    omega
theorem wrong2 {ps : List PV} {p : PV} (hn : ps.length ≤ 2) (h : ∀ q ∈ ps ++ [p], q.okI 2 = true) : WrongOk (([122, 32] ++ digs ps.length) ++ 58 :: itemsL (ps ++ [p])) ((lineL [122] ps).length : Nat) := by
  refine ⟨32 :: (shL p ++ 10 :: endr), ?_, ?_, by rw [itemsL_snoc]; simp only [List.length_append, List.length_cons, List.length_nil, endr]; omega⟩
  · have := WR_digs (n := ps.length) (by omega) 58 (itemsL (ps ++ [p]) ++ 10 :: endr) (by decide)
    have e := IT.go (w := [122]) this (by omega) (by omega) (by rw [Int.toNat_natCast]; exact LT_less ps [] fun q hq => h q (List.mem_append_left _ hq))
    rw [show (([122, 32] ++ digs ps.length) ++ 58 :: itemsL (ps ++ [p])) ++ 10 :: endr = ([122] ++ [32]) ++ (digs ps.length ++ 58 :: (itemsL (ps ++ [p]) ++ 10 :: endr)) by simp]
    exact e
  · rw [lineL_eq, itemsL_snoc]
    simp only [List.length_append, List.length_cons, List.length_nil, endr]
    omega
theorem wrong3 {ps : List PV} : WrongOk ([122, 122] ++ (lineL [122] ps).drop 1) 0 := by
  refine ⟨([122, 122] ++ (lineL [122] ps).drop 1) ++ 10 :: endr, .word (fun t e => ?_), ?_, by simp only [List.length_append, List.length_cons, List.length_nil, endr]; omega⟩
  · simp at e
  · simp only [List.length_append, List.length_cons, List.length_nil, endr]
    omega
theorem wrongQ : IT [122] [122, 32, 49, 58, 32, 34, 97, 98, 10, 101, 110, 100, 32, 51, 10] (.err []) := it1 (.nextx (by
  rw [pit2]
  refine .strx ?_
  have e : ∀ (k : Nat) (r : List Nat), k ≠ 34 → k ≠ 92 → QR r none → QR (k :: r) none := fun k r a b h => QR.sign a b h
  exact e _ _ (by decide) (by decide) (e _ _ (by decide) (by decide) (e _ _ (by decide) (by decide) (e _ _ (by decide) (by decide) (e _ _ (by decide) (by decide) (e _ _ (by decide) (by decide) (e _ _ (by decide) (by decide) (e _ _ (by decide) (by decide) (e _ _ (by decide) (by decide) .done))))))))))
end Mine
end C5
section C6
open PySem PySem.W PySem.Calls PyProof.Rows PySem.Challenge
set_option maxRecDepth 100000
set_option linter.unusedVariables false
set_option exponentiation.threshold 2000
namespace Mine

theorem okI_okD : ∀ {k : Nat} {p : PV}, p.okI k = true → p.okD k = true
  | k, .k w, h => by have := okI_k h; subst this; cases k <;> rfl
  | k, .int a, h => by cases k <;> (unfold PV.okD; rfl)
  | k, .str s, h => by
    have h2 := (okI_str h).2
    have : s.cps.all (· < 0x110000) = true := by
      rw [← Array.all_toList]
      refine List.all_eq_true.mpr fun x hx => ?_
      have := h2 x hx
      unfold okSign at this
      simp at this ⊢
      omega
    cases k <;> (unfold PV.okD; exact this)
  | k, .tup l, h => by
    obtain ⟨j, rfl, h1, h2⟩ := okI_tup h
    unfold PV.okD
    rw [okDs_all]
    exact List.all_eq_true.mpr fun x hx => okI_okD (h2 x hx)
  termination_by k => k
theorem okIs_okDs {k : Nat} {ps : List PV} (h : ∀ p ∈ ps, p.okI k = true) : okDs k ps = true := by
  rw [okDs_all]; exact List.all_eq_true.mpr fun x hx => okI_okD (h x hx)

theorem escs_63 : ∀ {l : List Nat}, (∀ k ∈ l, okSign k = true) → 63 ∉ escs l
  | [], _, q => nomatch q
  | k :: r, h, q => by
    have q : 63 ∈ escS k ++ escs r := q
    rcases List.mem_append.mp q with q | q
    · have hk := h k (.head _)
      unfold escS at q
      split at q
      · simp at q
      · split at q
        · simp at q
        · split at q
          · rename_i h3
            rcases h3 with rfl | rfl <;> simp at q
          · simp at q
            subst q
            revert hk; decide
    · exact escs_63 (fun x hx => h x (.tail _ hx)) q
theorem jn_not {x : Nat} {sep : List Nat} (hs : x ∉ sep) : ∀ {ts : List (List Nat)}, (∀ t ∈ ts, x ∉ t) → x ∉ jn sep ts
  | [], _, q => nomatch q
  | [t], h, q => h t (.head _) q
  | t :: u :: r, h, q => by
    have q : x ∈ t ++ sep ++ jn sep (u :: r) := q
    rcases List.mem_append.mp q with q | q
    · rcases List.mem_append.mp q with q | q
      · exact h t (.head _) q
      · exact hs q
    · exact jn_not hs (fun y hy => h y (.tail _ hy)) q
theorem digs_not {x n : Nat} (h : x < 48 ∨ 57 < x) : x ∉ digs n := fun q => by have := digs_digit q; omega
theorem intS_63 (a : Int) : 63 ∉ intS a := fun q => by
  unfold intS at q
  split at q
  · rcases List.mem_cons.mp q with q | q
    · cases q
    · exact digs_not (by decide) q
  · exact digs_not (by decide) q
theorem shL_63 : ∀ {k : Nat} {p : PV}, p.okI k = true → 63 ∉ shL p
  | k, .k w, h, q => by unfold shL at q; simp at q
  | k, .int a, h, q => by unfold shL at q; exact intS_63 a q
  | k, .str s, h, q => by
    unfold shL at q
    rcases List.mem_cons.mp q with q | q
    · cases q
    · rcases List.mem_append.mp q with q | q
      · exact escs_63 (okI_str h).2 q
      · simp at q
  | k, .tup l, h, q => by
    obtain ⟨j, rfl, h1, h2⟩ := okI_tup h
    unfold shL at q
    rw [shLs_map] at q
    rcases List.mem_cons.mp q with q | q
    · cases q
    · rcases List.mem_append.mp q with q | q
      · refine jn_not (by decide) (fun t ht => ?_) q
        obtain ⟨y, hy, rfl⟩ := List.mem_map.mp ht
        exact shL_63 (h2 y hy)
      · simp at q
  termination_by k => k
theorem lineL_63 {w : List Nat} {ps : List PV} (hw : 63 ∉ w) (h : ∀ p ∈ ps, p.okI 2 = true) : 63 ∉ lineL w ps := by
  refine jn_not (by decide) fun t ht => ?_
  rcases List.mem_cons.mp ht with rfl | ht
  · exact hw
  rcases List.mem_cons.mp ht with rfl | ht
  · intro q
    rcases List.mem_append.mp q with q | q
    · exact digs_not (by decide) q
    · simp at q
  · obtain ⟨y, hy, rfl⟩ := List.mem_map.mp ht
    exact shL_63 (h y hy)

noncomputable def restL (e : List Nat) : List (List Nat) → List Nat
  | [] => e
  | t :: r => t ++ 10 :: restL e r
theorem jn_rest : ∀ (ts : List (List Nat)) (e : List Nat), jn [10] (ts ++ [e]) ++ [10] = restL (e ++ [10]) ts
  | [], e => rfl
  | [t], e => by show t ++ [10] ++ e ++ [10] = t ++ 10 :: (e ++ [10]); simp
  | t :: u :: r, e => by
    have ih := jn_rest (u :: r) e
    show t ++ [10] ++ jn [10] (u :: (r ++ [e])) ++ [10] = t ++ 10 :: restL (e ++ [10]) (u :: r)
    rw [← ih]
    simp
theorem textL_rest (t : List Nat) (ls : List (List Nat)) : textL (t :: ls) = t ++ 10 :: restL (endL (ls.length + 2) ++ [10]) ls := jn_rest (t :: ls) _
theorem restL_len {b : Nat} {e : List Nat} : ∀ {ts : List (List Nat)}, (∀ t ∈ ts, t.length ≤ b) → (restL e ts).length ≤ ts.length * (b + 1) + e.length
  | [], _ => by show e.length ≤ _; omega
  | t :: r, h => by
    have ih := restL_len (e := e) (ts := r) fun x hx => h x (.tail _ hx)
    have := h t (.head _)
    show (t ++ 10 :: restL e r).length ≤ _
    rw [List.length_append, List.length_cons, List.length_cons, Nat.succ_mul]
    omega
theorem restL_63 {e : List Nat} (he : 63 ∉ e) : ∀ {ts : List (List Nat)}, (∀ t ∈ ts, 63 ∉ t) → 63 ∉ restL e ts
  | [], _, q => he q
  | t :: r, h, q => by
    have q : 63 ∈ t ++ 10 :: restL e r := q
    rcases List.mem_append.mp q with q | q
    · exact h t (.head _) q
    · rcases List.mem_cons.mp q with q | q
      · cases q
      · exact restL_63 he (fun x hx => h x (.tail _ hx)) q
theorem endL_63 (n : Nat) : 63 ∉ endL n ++ [10] := fun q => by
  unfold endL at q
  rcases List.mem_append.mp q with q | q
  · rcases List.mem_append.mp q with q | q
    · simp at q
    · exact digs_not (by decide) q
  · simp at q
theorem FN_end {n : Nat} (hn : n < 1000) : FN n (endL (n + 1) ++ [10]) (.ok () []) := by
  unfold endL
  rw [List.append_assoc]
  have := WR_lit (ds := digs (n + 1)) (t := [10]) digs_figs (digs_ne _) (by have := digs_len (n := n + 1) (m := 4) (by decide) (by omega); omega) (not_fig (by decide))
  rw [digs_val] at this
  exact .go this (by omega)
end Mine
end C6
section B19
open PySem PySem.W PySem.Calls PyProof.Rows PySem.Challenge
set_option maxRecDepth 100000
set_option linter.unusedVariables false
set_option exponentiation.threshold 2000
namespace Mine

noncomputable abbrev penO (D : Addr) (s t : Int) : AO := .list [.k (.ref D), .int s, .int t]
theorem okDs_ints : ∀ is : List Int, okDs 1 (is.map .int) = true
  | [] => by unfold okDs; rfl
  | a :: r => by rw [List.map_cons]; unfold okDs; rw [okDs_ints r]; rfl
theorem eqv_nil (is : List Int) : PyData.eqvAll (dats (is.map .int)) (dats []) = is.isEmpty := by
  cases is with
  | nil => simp [dats, PyData.eqvAll]
  | cons a r => simp [dats, PyData.eqvAll]

section
variable {c : Cx} {fm : Fm} {loc : Loc} {n m : Nat} {σ : Sto} {Φ : NPr} {X : CXPr} {p D : Addr} {s t many : Int} {is : List Int}

theorem mul_ok {a b : Int} (h1 : -(2 ^ 60) ≤ a) (h2 : a ≤ 2 ^ 60) : IntMulOk a b := IntMulOk.of_left (intBits_le_64 (by omega) (by omega))

theorem draw_mixed (P : PK c) {L : Addr} {A' : Around} {N : NXt} {X : XPr} {cell : Int} (ff : FF (fm0 (fnScope (topSt 23)) L "_law_draw" 409 (.ref 408) A' n)) (hs0 : 0 ≤ s) (hs : s < 2 ^ 20) (hm : 0 < many) (h : ∀ d, 0 ≤ d → d < many → Φ (.int d) σ) :
    SS c (fm0 (fnScope (topSt 23)) L "_law_draw" 409 (.ref 408) A' n) ((fnBody (topSt 23)).drop 6) [("pen", .k (.ref p)), ("many", .int many), ("spot", .int s), ("cell", .int cell)] σ N Φ X := by
  have a1 := Int.fmod_nonneg_of_pos cell (b := 2147483587) (by decide)
  have a2 := Int.fmod_lt_of_pos cell (b := 2147483587) (by decide)
  refine ss_let (ev_binop (ev_call (ev_builtin P.b_int rfl ⟨_, rfl, ?_⟩) ff.handled))
  refine ev_binop (ev_binop (ev_binop (ev_binop (ev_call (ev_builtin P.b_int rfl ⟨_, rfl, ev_name m3 ⟨kT, c_int_int ?_⟩⟩) ff.handled))))
  refine ev_int (op_mod (by decide) (ev_binop (ev_int (ev_name m2 ?_))))
  refine op_mul (mul_ok (by decide) (by decide)) (op_add (ev_int (op_add (ev_int ?_))))
  refine op_pow (by decide) (by decide) ?_ ⟨kT, c_int_int (ev_int (op_mod (by decide) ⟨_, .nx (.nx (.nx (.nx .nil))), ?_⟩))⟩
  · omega
  generalize (((cell.fmod 2147483587 + 20947 * s + 3571) ^ (5 : Int).toNat) : Int) = y
  have b1 := Int.fmod_nonneg_of_pos y (b := 2147483629) (by decide)
  have b2 := Int.fmod_lt_of_pos y (b := 2147483629) (by decide)
  generalize y.fmod 2147483629 = z at b1 b2
  have c1 : 0 ≤ z * (2 * s + 7207) := Int.mul_nonneg b1 (by omega)
  have c2 : z * (2 * s + 7207) ≤ 2 ^ 31 * 2 ^ 22 := Int.mul_le_mul (by omega) (by omega) (by omega) (by decide)
  have c3 : 0 ≤ 20947 * s * s := Int.mul_nonneg (by omega) hs0
  have c4 : 20947 * s * s ≤ 2 ^ 35 * 2 ^ 20 := Int.mul_le_mul (by omega) (by omega) hs0 (by decide)
  refine ss_let (ev_binop (ev_call (ev_builtin P.b_int rfl ⟨_, rfl, ?_⟩) ff.handled))
  refine ev_binop (ev_binop (ev_binop (ev_binop (ev_name m4 (ev_binop (ev_binop (ev_int (ev_name m2 ?_))))))))
  refine op_mul (mul_ok (by decide) (by decide)) (ev_int (op_add ?_))
  refine op_mul (mul_ok (by omega) (by omega)) (ev_binop (ev_binop (ev_int (ev_name m2 ?_))))
  refine op_mul (mul_ok (by decide) (by decide)) (ev_name m2 ?_)
  refine op_mul (mul_ok (by omega) (by omega)) (op_add (ev_int (op_add (ev_int ?_))))
  refine op_pow (by decide) (by decide) ?_ ⟨kT, c_int_int (ev_int (op_mod (by decide) ⟨_, .nx (.nx (.nx (.nx .hr))), ?_⟩))⟩
  · omega
  generalize ((z * (2 * s + 7207) + 20947 * s * s + 31) ^ (3 : Int).toNat).fmod 2147483579 = u
  refine ss_ret (ev_binop (ev_call (ev_builtin P.b_int rfl ⟨_, rfl, ev_binop (ev_name m4 (ev_int ?_))⟩) ff.handled))
  refine op_div (by decide) (PyProof.noPylong_small (by decide)) ⟨kT, c_int_int (ev_name m1 (op_mod (by omega) (h _ ?_ ?_)))⟩
  · exact Int.fmod_nonneg_of_pos _ hm
  · exact Int.fmod_lt_of_pos _ hm

theorem draw_c (P : PK c) (hp : σ p = some (penO D s t)) (hD : σ D = some (.list (is.map .int))) (hz : is.length ≤ 40) (hs0 : 0 ≤ s) (hs : s < 2 ^ 19) (ht : 0 ≤ t) (hm : 0 < many) (hm2 : many < 2 ^ 30)
    (h : ∀ d s' t', 0 ≤ d → d < many → s ≤ s' → s' ≤ s + 1 → 0 ≤ t' → Φ (.int d) (upd σ p (penO D s' t'))) : CallC c (n + 1) (.ref 409) [.k (.ref p), .int many] σ Φ X := by
  refine call_pl P.f_law_draw [("pen", .k (.ref p)), ("many", .int many)] (fun s vs kV doc pm an ct _ hv => ?_) (by kernel_rfl) (by kernel_rfl) fun L A' hL ff => ?_
  · obtain ⟨v, u, rfl, b⟩ := br2 (x := "pen") (y := "many") hv
    exact ⟨_, .of_eq rfl, b⟩
  have hne : p ≠ D := fun q => by
    rw [q, hD] at hp
    have := AO.list.inj (Option.some.inj hp)
    cases is with
    | nil => cases this
    | cons a r => cases (List.cons.inj this).1
  have i0 : (penO D s t) = .list [.k (.ref D), .int s, .int t] := rfl
  refine ss_if (b_cmp (ev_item (ev_name m0 (ev_int (it_list hp (by decide) (by decide) rfl (ev_int (cmp_gt ?_)))))))
  by_cases h1 : 0 < t
  · rw [decide_eq_true h1]
    refine ss_let (ev_binop (ev_call (ev_builtin P.b_int rfl ⟨_, rfl, ev_item (ev_name m0 (ev_int (it_list hp (by decide) (by decide) rfl ⟨kT, c_int_int ?_⟩)))⟩) ff.handled))
    refine ev_name m1 (op_mod (by omega) ⟨_, .nx (.nx .nil), ?_⟩)
    refine ss_setitem (ev_binop (ev_call (ev_builtin P.b_int rfl ⟨_, rfl, ev_item (ev_name m0 (ev_int (it_list hp (by decide) (by decide) rfl ⟨kT, c_int_int ?_⟩)))⟩) ff.handled))
    refine ev_name m1 (op_div (by omega) (PyProof.noPylong_small (by omega)) (ev_name m0 (ev_int ⟨_, _, _, rfl, rfl, hp, by decide, of_decide_eq_true rfl, of_decide_eq_true rfl, ss_ret (ev_name m2 ⟨_, .refl _, ?_⟩)⟩)))
    exact h _ s _ (Int.fmod_nonneg_of_pos _ hm) (Int.fmod_lt_of_pos _ hm) (by omega) (by omega) (Int.fdiv_nonneg ht (by omega))
  rw [decide_eq_false h1]
  refine ss_nil (ss_let (ev_item (ev_name m0 (ev_int (it_list hp (by decide) (by decide) rfl ⟨_, .nx (.nx .nil), ?_⟩)))))
  refine ss_setitem (ev_binop (ev_name m2 (ev_int (op_add (ev_name m0 (ev_int ⟨_, _, _, rfl, rfl, hp, by decide, of_decide_eq_true rfl, of_decide_eq_true rfl, ?_⟩))))))
  show SS c _ _ _ (upd σ p (penO D (s + 1) t)) _ _ _
  have hτp : upd σ p (penO D (s + 1) t) p = some (penO D (s + 1) t) := upd_same _ _ _
  have hτD : upd σ p (penO D (s + 1) t) D = some (.list (is.map .int)) := by rw [upd_ne _ _ (Ne.symm hne)]; exact hD
  have fin : ∀ d t', 0 ≤ d → d < many → 0 ≤ t' → Φ (.int d) (upd (upd σ p (penO D (s + 1) t)) p (penO D (s + 1) t')) := fun d t' a b e => by rw [upd_upd]; exact h d _ _ a b (by omega) (by omega) e
  have fin0 : ∀ d, 0 ≤ d → d < many → Φ (.int d) (upd σ p (penO D (s + 1) t)) := fun d a b => h d _ _ a b (by omega) (by omega) ht
  generalize upd σ p (penO D (s + 1) t) = τ at hτp hτD fin fin0
  have hlen : (is.map PV.int).length = is.length := List.length_map ..
  refine ss_let (ev_binop (ev_binop (ev_binop (ev_int (ev_name m2 (op_mul (mul_ok (by decide) (by decide)) (ev_int (op_add (ev_binop (ev_call (ev_builtin P.b_int rfl ⟨_, rfl, ?_⟩) ff.handled))))))))))
  refine ev_call (ev_builtin P.b_sum rfl ⟨_, rfl, ev_slice (ev_item (ev_name m0 (ev_int (it_list hτp (by decide) (by decide) rfl ?_))))⟩) ff.handled
  refine ev_int ⟨_, rfl, sl_list hτD (by rw [hlen]; unfold sizeLine; omega) fun S1 hS1 => ⟨.inl ⟨_, rfl⟩, ?_⟩⟩
  refine c_sum (is := is.take 1) ?_ ⟨kT, c_int_int (ev_int (op_mod (by decide) (op_add ⟨_, .nx (.nx (.nx .nil)), ss_forget (fun p hp => hp) (sub_new _ hS1) ?_⟩)))⟩
  · rw [upd_same, List.map_take]
    show some (AO.list (((is.map PV.int).drop 0).take (clipAt (is.map PV.int).length 1 - 0))) = _
    rw [show clipAt (is.map PV.int).length 1 - 0 = min 1 (is.map PV.int).length from clip_min _ 1, List.drop_zero]
    congr 2
    rcases Nat.lt_or_ge (is.map PV.int).length 1 with q | q
    · rw [Nat.min_eq_right (by omega), List.take_length, List.take_of_length_le (by omega)]
    · rw [Nat.min_eq_left q]
  generalize 20947 * s + 3571 + (is.take 1).sum.fmod 1000003 = cell
  have rest : ∀ {N : NXt} (cell : Int), SS c (fm0 (fnScope (topSt 23)) L "_law_draw" 409 (.ref 408) A' n) ((fnBody (topSt 23)).drop 5) [("pen", .k (.ref p)), ("many", .int many), ("spot", .int s), ("cell", .int cell)] τ N
      (UpR Φ) (UpX X) := by
    intro N cell
    have go : ∀ {N : NXt}, SS c (fm0 (fnScope (topSt 23)) L "_law_draw" 409 (.ref 408) A' n) ((fnBody (topSt 23)).drop 6) [("pen", .k (.ref p)), ("many", .int many), ("spot", .int s), ("cell", .int cell)] τ N
      (UpR Φ) (UpX X) := draw_mixed P ff hs0 (by omega) hm fun d a b => ⟨_, .refl _, fin0 d a b⟩
    refine ss_if (b_bool (b_cmp (ev_name m2 (ev_call (ev_builtin P.b_len rfl ⟨_, rfl, ev_item (ev_name m0 (ev_int (it_list hτp (by decide) (by decide) rfl ⟨kB, c_len_list hτD (by rw [hlen]; omega) (cmp_lt ?_)⟩)))⟩) ff.handled))))
    by_cases h2 : s < ((is.map PV.int).length : Int)
    · rw [decide_eq_true h2]
      refine b_cmp (ev_call (ev_builtin P.b_abs rfl ⟨_, rfl, ev_name m3 ⟨kB, c_abs (ev_binop (ev_int (ev_int (op_pow (by decide) (by decide) (by decide) (cmp_ge ?_)))))⟩⟩) ff.handled)
      by_cases h3 : (10 : Int) ^ (18 : Int).toNat ≤ (if cell < 0 then -cell else cell)
      · rw [decide_eq_true h3]
        refine ss_let (ev_binop (ev_binop (ev_int (ev_binop (ev_call (ev_builtin P.b_abs rfl ⟨_, rfl, ev_name m3 ⟨kB, c_abs ?_⟩⟩) ff.handled)))))
        refine ev_binop (ev_int (ev_int (op_pow (by decide) (by decide) (by decide) (op_sub ?_))))
        refine op_mul (mul_ok (by decide) (by decide)) (ev_call (ev_builtin P.b_int rfl ⟨_, rfl, ev_cmp (ev_name m3 (ev_int (cmp_lt ⟨kT, c_int_bool (op_add ⟨_, .nx (.nx (.nx (.nx .nil))), ?_⟩)⟩)))⟩) ff.handled)
        have hg : 0 ≤ 2 * ((if cell < 0 then -cell else cell) - (10 : Int) ^ (18 : Int).toNat) + (if decide (cell < 0) = true then 1 else 0) := by
          have : (0 : Int) ≤ if decide (cell < 0) = true then 1 else 0 := by split <;> decide
          omega
        generalize 2 * ((if cell < 0 then -cell else cell) - (10 : Int) ^ (18 : Int).toNat) + (if decide (cell < 0) = true then 1 else 0) = great at hg
        refine ss_setitem (ev_binop (ev_call (ev_builtin P.b_int rfl ⟨_, rfl, ev_name m4 ⟨kT, c_int_int ?_⟩⟩) ff.handled))
        refine ev_name m1 (op_div (by omega) (PyProof.noPylong_small (by omega)) (ev_name m0 (ev_int ⟨_, _, _, rfl, rfl, hτp, by decide, of_decide_eq_true rfl, of_decide_eq_true rfl, ?_⟩)))
        refine ss_ret (ev_binop (ev_call (ev_builtin P.b_int rfl ⟨_, rfl, ev_name m4 ⟨kT, c_int_int (ev_name m1 (op_mod (by omega) ⟨_, .refl _, ?_⟩))⟩⟩) ff.handled))
        exact fin _ _ (Int.fmod_nonneg_of_pos _ hm) (Int.fmod_lt_of_pos _ hm) (Int.fdiv_nonneg hg (by omega))
      · rw [decide_eq_false h3]
        exact ss_nil go
    · rw [decide_eq_false h2]
      exact ss_nil go
  refine ss_if (b_cmp (ev_item (ev_name m0 (ev_int (it_list hτp (by decide) (by decide) rfl (ev_list fun E hE => ?_))))))
  have hDE : D ≠ E := fun q => by rw [← q, hτD] at hE; cases hE
  refine cmp_nel (k := 1) (by decide) (by rw [upd_ne _ _ hDE]; exact hτD) (upd_same _ _ _) (okDs_ints is) (by unfold okDs; rfl) ?_
  rw [eqv_nil]
  cases hi : is with
  | nil => exact ss_forget (fun p hp => hp) (sub_new _ hE) (ss_nil (rest cell))
  | cons a r =>
    rw [hi] at hτD hlen
    refine ss_forget (fun p hp => hp) (sub_new _ hE) ?_
    refine ss_let (ev_item (ev_item (ev_name m0 (ev_int (it_list hτp (by decide) (by decide) rfl ?_)))))
    have hpos : (0 : Int) < (((a :: r).map PV.int).length : Int) := by rw [hlen, List.length_cons]; omega
    have g1 := Int.fmod_nonneg_of_pos s hpos
    have g2 := Int.fmod_lt_of_pos s hpos
    have hidx : ((a :: r).map PV.int)[(s.fmod (((a :: r).map PV.int).length : Int)).toNat]? = some (.int ((a :: r)[(s.fmod (((a :: r).map PV.int).length : Int)).toNat]?.getD 0)) := by
      have hlt : (s.fmod (((a :: r).map PV.int).length : Int)).toNat < (a :: r).length := by rw [hlen] at g1 g2 ⊢; omega
      rw [List.getElem?_map, List.getElem?_eq_getElem hlt]; rfl
    refine ev_binop (ev_call (ev_builtin P.b_int rfl ⟨_, rfl, ev_name m2 ⟨kT, c_int_int ?_⟩⟩) ff.handled)
    refine ev_call (ev_builtin P.b_len rfl ⟨_, rfl, ev_item (ev_name m0 (ev_int (it_list hτp (by decide) (by decide) rfl ⟨kB, c_len_list hτD (by rw [hlen]; rw [hi] at hz; omega) ?_⟩)))⟩) ff.handled
    refine op_mod (by omega) (it_list hτD g1 (by rw [hi] at hz; simp only [hlen] at g2 ⊢; omega) hidx ⟨_, .nx (.nx (.nx .hr)), ?_⟩)
    rw [← hi] at hτD hlen
    exact ss_nil (rest _)
end
end Mine
end B19
section B20
open PySem PySem.W PySem.Calls PyProof.Rows PySem.Challenge
set_option maxRecDepth 100000
set_option linter.unusedVariables false
set_option exponentiation.threshold 2000
namespace Mine

noncomputable def drs : Nat → Int
  | 0 => 5
  | n + 1 => 2 + 2 * drs n
theorem okI_of_int {k : Nat} {a : Int} (h : decide (a.natAbs < 10 ^ 160) = true) : (PV.int a).okI k = true := by cases k <;> (unfold PV.okI; exact h)
theorem okI_of_none {k : Nat} : (PV.k .none).okI k = true := by cases k <;> rfl
theorem okI_of_str {k : Nat} {l : List Nat} (h1 : l.length ≤ 12) (h2 : ∀ x ∈ l, okSign x = true) : (PV.str (T l)).okI k = true := by
  cases k <;> (unfold PV.okI; exact Bool.and_eq_true_iff.mpr ⟨decide_eq_true h1, List.all_eq_true.mpr h2⟩)
theorem okI_of_tup {k : Nat} {l : List PV} (h1 : l.length ≤ 2) (h2 : ∀ x ∈ l, x.okI k = true) : (PV.tup l).okI (k + 1) = true := by
  unfold PV.okI
  exact Bool.and_eq_true_iff.mpr ⟨decide_eq_true h1, by rw [okIs_all]; exact List.all_eq_true.mpr h2⟩
theorem jn_mem : ∀ {ts : List (List Nat)} {x : Nat}, x ∈ jn [] ts → ∃ t ∈ ts, x ∈ t
  | [], x, h => nomatch h
  | [t], x, h => ⟨t, .head _, h⟩
  | t :: u :: r, x, h => by
    have h : x ∈ t ++ [] ++ jn [] (u :: r) := h
    rw [List.append_nil] at h
    rcases List.mem_append.mp h with h | h
    · exact ⟨t, .head _, h⟩
    · obtain ⟨v, hv, hx⟩ := jn_mem h
      exact ⟨v, .tail _ hv, hx⟩

section
variable {c : Cx} {fm : Fm} {loc : Loc} {n m : Nat} {σ : Sto} {Φ : NPr} {X : CXPr} {p D : Addr} {s t many : Int} {is : List Int}

theorem pick_c (P : PK c) {I : Addr} {ps : List PV} (hp : σ p = some (penO D s t)) (hD : σ D = some (.list (is.map .int))) (hz : is.length ≤ 40) (hs0 : 0 ≤ s) (hs : s < 2 ^ 19) (ht : 0 ≤ t) (hI : σ I = some (.list ps)) (hIp : I ≠ p) (hps : 0 < ps.length) (hps2 : ps.length < 1000)
    (h : ∀ q s' t', q ∈ ps → s ≤ s' → s' ≤ s + 1 → 0 ≤ t' → Φ q (upd σ p (penO D s' t'))) : CallC c (n + 2) (.ref 416) [.k (.ref p), .k (.ref I)] σ Φ X := by
  refine call_pl P.f_law_pick [("pen", .k (.ref p)), ("some", .k (.ref I))] (fun s vs kV doc pm an ct _ hv => ?_) (by kernel_rfl) (by kernel_rfl) fun L A' hL ff => ?_
  · obtain ⟨v, u, rfl, b⟩ := br2 (x := "pen") (y := "some") hv
    exact ⟨_, .of_eq rfl, b⟩
  refine ss_ret (ev_item (ev_name m1 (ev_call (ev_glob P.g_law_draw ⟨_, rfl, ev_name m0 (ev_call (ev_builtin P.b_len rfl ⟨_, rfl, ev_name m1 ⟨kB, c_len_list hI (by omega) ⟨kK P.k_law_draw, ?_⟩⟩⟩) ff.handled)⟩) ff.handled)))
  refine (draw_c (n := n) P hp hD hz hs0 hs ht (by omega) (by omega) fun d s' t' h1 h2 h3 h4 h5 => ?_).call
  have hlt : d.toNat < ps.length := by omega
  refine it_list (by rw [upd_ne _ _ hIp]; exact hI) h1 (by omega) (List.getElem?_eq_getElem hlt) ⟨_, .refl _, ?_⟩
  exact h _ _ _ (List.getElem_mem hlt) h3 h4 h5

theorem pen_c (P : PK c) {a : Addr} {vs : List Value} {is : List Int} (ha : c.h₀.IsList a vs.toArray) (hi : IntsAre vs is) (hz : vs.length ≤ sizeLine)
    (h : ∀ p D (is : List Int), is.length ≤ 40 → σ p = none → σ D = none → p ≠ D → Φ (.k (.ref p)) (upd (upd σ D (.list (is.map .int))) p (penO D 0 0))) : CallC c (n + 1) (.ref 402) [.k (.ref a)] σ Φ X := by
  refine call_pl P.f_law_pen [("script", .k (.ref a))] (fun s vs kV doc pm an ct _ hv => ?_) (by kernel_rfl) (by kernel_rfl) fun L A' hL ff => ?_
  · obtain ⟨v, rfl, b⟩ := br1 (x := "script") hv
    exact ⟨_, .of_eq rfl, b⟩
  have hlen : (is.take 40).length ≤ 40 := by rw [List.length_take]; omega
  obtain ⟨js, hjs⟩ : ∃ js, js = is.take 40 := ⟨_, rfl⟩
  refine ss_ret (ev_list (ev_comp [] (ei_of (ev_slice (ev_name m0 (ev_int ⟨_, rfl, sl_base (up := 40) ha hi hz fun S hS => ⟨_, _, _, src_list (l := js.map .int) (by rw [hjs]; exact upd_same _ _ _), fun i acc τ' => acc = (js.take i).map .int ∧ Sub σ τ' ∧ τ' S = some (.list (js.map .int)), ⟨rfl, sub_new _ hS, by rw [hjs]; exact upd_same _ _ _⟩, ?_, ?_⟩⟩)))) ff.handled))
  all_goals rw [← hjs] at hlen
  · refine ⟨trivial, by rw [List.length_map]; unfold sizeLine; omega, fun _ _ _ h => h.2.2, ?_⟩
    rintro C i q acc τ' hq ⟨rfl, hs, hS'⟩
    rw [List.getElem?_map] at hq
    obtain ⟨x, hx, rfl⟩ := Option.map_eq_some_iff.mp hq
    refine as_name .nil ?_
    refine ev_call (ev_builtin P.b_int rfl ⟨_, rfl, ev_name m0 ⟨kT, c_int_int ⟨_, .refl _, ?_, hs, hS'⟩⟩⟩) ff.handled
    rw [List.take_add_one, hx]; simp
  · rintro D acc τ' ⟨rfl, hs, hS'⟩ hD
    rw [List.length_map, List.take_length]
    refine ev_int (ev_int fun p hp => ⟨_, sub_upd (sub_upd hs _ _) _ _, ?_⟩)
    have hpD : p ≠ D := fun q => by rw [q, upd_same] at hp; cases hp
    refine h p D _ hlen ?_ ?_ hpD
    · rw [upd_ne _ _ hpD] at hp
      cases q : σ p with
      | none => rfl
      | some o => rw [hs _ _ q] at hp; cases hp
    · cases q : σ D with
      | none => rfl
      | some o => rw [hs _ _ q] at hD; cases hD

theorem sub_none {σ τ : Sto} (hs : Sub σ τ) {a : Addr} (h : τ a = none) : σ a = none := by
  cases q : σ a with
  | none => rfl
  | some o => rw [hs _ _ q] at h; cases h

inductive StrI (σ1 : Sto) (p D : Addr) (s : Int) (i : Nat) (acc : List PV) (τ : Sto) : Prop
  | mk (s' : Int) (t' : Int) (ts : List (List Nat)) (h0 : acc = stPV ts) (h1 : ts.length = i) (h2 : (∀ u ∈ ts, u.length ≤ 4 ∧ ∀ x ∈ u, okSign x = true)) (h3 : s ≤ s') (h4 : s' ≤ s + 2 + i) (h5 : 0 ≤ t') (h6 : Sub (upd σ1 p (penO D s' t')) τ)
inductive TupI (σ1 : Sto) (p D : Addr) (s : Int) (j : Nat) (i : Nat) (acc : List PV) (τ : Sto) : Prop
  | mk (s' : Int) (t' : Int) (h0 : acc.length = i) (h1 : (∀ u ∈ acc, u.okI j = true)) (h2 : s ≤ s') (h3 : s' ≤ s + 2 + i * drs j) (h4 : 0 ≤ t') (h5 : Sub (upd σ1 p (penO D s' t')) τ)
theorem item_c (P : PK c) (hz : is.length ≤ 40) : ∀ (k : Nat) {d : Int} {σ : Sto} {Φ : NPr} {X : CXPr} {s t : Int}, d = 2 - k → k ≤ 2 → σ p = some (penO D s t) → σ D = some (.list (is.map .int)) → 0 ≤ s → s + drs k < 2 ^ 18 → 0 ≤ t →
    (∀ q s' t', q.okI k = true → s ≤ s' → s' ≤ s + drs k → 0 ≤ t' → Φ q (upd σ p (penO D s' t'))) → CallC c (n + k + 3) (.ref 421) [.k (.ref p), .int d] σ Φ X := by
  intro k
  induction k using Nat.strongRecOn with
  | ind k ih =>
  intro d σ Φ X s t hd hk hp hD hs0 hs ht h
  have hpD : p ≠ D := fun q => by
    rw [q, hD] at hp
    have := AO.list.inj (Option.some.inj hp)
    cases is with
    | nil => cases this
    | cons a r => cases (List.cons.inj this).1
  refine call_cl P.f_law_item [("pen", .k (.ref p)), ("deep", .int d)] [] (fun L => [("deep", L + 1 + 1), ("pen", L + 1)]) (fun L => rfl) (fun s vs kV doc pm an ct _ hv => ?_) (fun L => by rfl) (fun p hp => nomatch hp) fun L A' hL ff => ?_
  · obtain ⟨v, u, rfl, b⟩ := br2 (x := "pen") (y := "deep") hv
    exact ⟨_, .of_eq rfl, b⟩
  have hcs : cellsSto σ [("pen", .k (.ref p)), ("deep", .int d)] [("deep", L + 1 + 1), ("pen", L + 1)] = upd (upd σ (L + 1) (.cell (some (.k (.ref p))))) (L + 1 + 1) (.cell (some (.int d))) := by rfl
  rw [hcs]
  have n1 : σ (L + 1) = none := hL _ (Nat.le_succ _)
  have n2 : σ (L + 1 + 1) = none := hL _ (Nat.le_add_right L 2)
  have h21 : L + 1 + 1 ≠ L + 1 := Nat.succ_ne_self (L + 1)
  have hs1 : Sub σ (upd (upd σ (L + 1) (.cell (some (.k (.ref p))))) (L + 1 + 1) (.cell (some (.int d)))) := .trans (sub_new _ n1) (sub_new _ (by rw [upd_ne _ _ h21]; exact n2))
  have c1 : upd (upd σ (L + 1) (.cell (some (.k (.ref p))))) (L + 1 + 1) (.cell (some (.int d))) (L + 1) = some (.cell (some (.k (.ref p)))) := by rw [upd_ne _ _ (Ne.symm h21)]; exact upd_same _ _ _
  have c2 : upd (upd σ (L + 1) (.cell (some (.k (.ref p))))) (L + 1 + 1) (.cell (some (.int d))) (L + 1 + 1) = some (.cell (some (.int d))) := upd_same _ _ _
  generalize upd (upd σ (L + 1) (.cell (some (.k (.ref p))))) (L + 1 + 1) (.cell (some (.int d))) = σ1 at hs1 c1 c2
  have p1 : L + 1 ≠ p := fun q => by rw [q, hp] at n1; cases n1
  have p2 : L + 1 + 1 ≠ p := fun q => by rw [q, hp] at n2; cases n2
  have fp : ∀ s' t', upd σ1 p (penO D s' t') p = some (penO D s' t') := fun _ _ => upd_same _ _ _
  have fD : ∀ s' t', upd σ1 p (penO D s' t') D = some (.list (is.map .int)) := fun _ _ => by rw [upd_ne _ _ (Ne.symm hpD)]; exact hs1 _ _ hD
  have f1 : ∀ s' t', upd σ1 p (penO D s' t') (L + 1) = some (.cell (some (.k (.ref p)))) := fun _ _ => by rw [upd_ne _ _ p1]; exact c1
  have f2 : ∀ s' t', upd σ1 p (penO D s' t') (L + 1 + 1) = some (.cell (some (.int d))) := fun _ _ => by rw [upd_ne _ _ p2]; exact c2
  have up : ∀ s' t' s'' t'', upd (upd σ1 p (penO D s' t')) p (penO D s'' t'') = upd σ1 p (penO D s'' t'') := fun _ _ _ _ => upd_upd _ _ _ _
  have fin : ∀ q s' t' τ, q.okI k = true → s ≤ s' → s' ≤ s + drs k → 0 ≤ t' → Sub (upd σ1 p (penO D s' t')) τ → UpR Φ q τ := fun q s' t' τ a b e f g => ⟨_, .trans (sub_upd hs1 _ _) g, h q s' t' a b e f⟩
  have e0 : σ1 = upd σ1 p (penO D s t) := (upd_self (hs1 _ _ hp)).symm
  rw [e0]
  have hdr : 5 ≤ drs k := by cases k with
    | zero => exact Int.le_refl _
    | succ j =>
      have : 5 ≤ drs j := by
        rcases (show j = 0 ∨ j = 1 by omega) with rfl | rfl <;> decide
      show 5 ≤ 2 + 2 * drs j; omega
  have hdr2 : drs k ≤ 26 := by
    rcases (show k = 0 ∨ k = 1 ∨ k = 2 by omega) with rfl | rfl | rfl <;> decide
  obtain ⟨mw, hmw, hmw2⟩ : ∃ mw : Int, mw = (if d < 2 then 6 else 4) ∧ (mw = 6 ∨ mw = 4) := by split <;> exact ⟨_, rfl, by decide⟩
  have pick : ∀ {I : Addr} {ps : List PV} {s' t' : Int} {τ : Sto} {Ψ : NPr} {Y : CXPr}, s ≤ s' → s' ≤ s + 26 → 0 ≤ t' → Sub (upd σ1 p (penO D s' t')) τ → τ p = some (penO D s' t') → τ I = some (.list ps) → I ≠ p → 0 < ps.length → ps.length < 1000 →
      (∀ q s'' t'' τ', q ∈ ps → s' ≤ s'' → s'' ≤ s' + 1 → 0 ≤ t'' → Sub (upd σ1 p (penO D s'' t'')) τ' → Ψ q τ') → Call c (n + k + 2) (.ref 416) [.k (.ref p), .k (.ref I)] τ Ψ Y := fun {I ps s' t' τ Ψ Y} a1 a2 a3 a4 a5 a6 a7 a8 a9 k' =>
    (pick_c (n := n + k) P a5 (a4 _ _ (fD _ _)) hz (by omega) (by omega) a3 a6 a7 a8 a9 fun q s'' t'' b1 b2 b3 b4 => k' q s'' t'' _ b1 b2 b3 b4 (by
      have := sub_upd a4 p (penO D s'' t'')
      rw [up] at this
      exact this)).call
  refine ss_let (ev_call (ev_glob P.g_law_draw ⟨_, rfl, ev_cell (a := L + 1) rfl (f1 _ _) (ev_ifexp (b_cmp (ev_cell (a := L + 1 + 1) rfl (f2 _ _) (ev_int (cmp_lt ?_)))))⟩) ff.handled)
  have cont : ∀ {way s1 t1 : Int}, 0 ≤ way → way < mw → s ≤ s1 → s1 ≤ s + 1 → 0 ≤ t1 → SS c ⟨envF (fnScope (topSt 25)) L "_law_item" 421 (.ref 420) [("deep", L + 1 + 1), ("pen", L + 1)], A', n + k + 2, 0⟩ ((fnBody (topSt 25)).drop 1) [("way", .int way)] (upd σ1 p (penO D s1 t1))
      (UpN Φ) (UpR Φ) (UpX X) := by
    intro way s1 t1 w1 w2 w3 w4 w5
    refine ss_if (b_cmp (ev_name m0 (ev_int (cmp_eq ?_))))
    by_cases q0 : way = 0
    · rw [show (way == 0) = true by simp [q0]]
      exact ss_ret (ev_none (fin _ _ _ _ okI_of_none w3 (by omega) w5 (.refl _)))
    rw [show (way == 0) = false by simp [q0]]
    refine ss_nil (ss_if (b_cmp (ev_name m0 (ev_int (cmp_lt ?_)))))
    by_cases q1 : way < 3
    · rw [decide_eq_true q1]
      refine ss_ret (ev_call (ev_glob P.g_law_pick ⟨_, rfl, ev_cell (a := L + 1) rfl (f1 _ _) (ev_list ?_)⟩) ff.handled)
      refine ev_int (ev_int (ev_unop (ev_int (op_neg (ev_unop (ev_int (op_neg ?_)))))))
      refine ev_binop (ev_binop (ev_int (ev_int (op_pow (by decide) (by decide) (by decide) (ev_int (op_sub ?_))))))
      refine ev_binop (ev_int (ev_binop (ev_int (ev_int (op_pow (by decide) (by decide) (by decide) (op_sub fun I hI => ?_))))))
      have hIp : I ≠ p := fun q => by rw [q, fp] at hI; cases hI
      refine ⟨kK P.k_law_pick, pick w3 (by omega) w5 (sub_new _ hI) (by rw [upd_ne _ _ (Ne.symm hIp)]; exact fp _ _) (upd_same _ _ _) hIp (of_decide_eq_true rfl) (of_decide_eq_true rfl) fun q s'' t'' τ' b1 b2 b3 b4 b5 => fin _ _ _ _ ?_ (by omega) (by omega) b4 b5⟩
      simp only [List.mem_cons, List.not_mem_nil, or_false] at b1
      rcases b1 with rfl | rfl | rfl | rfl | rfl | rfl <;> exact okI_of_int (by decide +kernel)
    rw [decide_eq_false q1]
    refine ss_nil (ss_if (b_cmp (ev_name m0 (ev_int (cmp_eq ?_)))))
    by_cases q2 : way = 3
    · rw [show (way == 3) = true by simp [q2]]
      refine ss_ret (ev_methG (ev_str ⟨_, _, gm_str PySem.F.slot_str_join PySem.F.type_str_join, ev_comp [("pen", L + 1)] (ei_of (ev_call (ev_builtin P.b_range rfl ⟨_, rfl, ev_call (ev_glob P.g_law_draw ⟨_, rfl, ev_cell (a := L + 1) rfl (f1 _ _) (ev_int ⟨kK P.k_law_draw, ?_⟩)⟩) ff.handled⟩) ff.handled)) ff.handled⟩) ff.handled)
      refine (draw_c (n := n + k + 1) P (fp _ _) (fD _ _) hz (by omega) (by omega) w5 (by decide) (by decide) fun d1 s2 t2 x1 x2 x3 x4 x5 => ⟨kT, c_range fun R hR => ?_⟩).call
      rw [up] at hR ⊢
      refine ⟨_, _, _, src_range (upd_same _ _ _) (by omega) (by omega), StrI σ1 p D s,
        ⟨s2, t2, [], rfl, rfl, fun u hu => (nomatch hu), by omega, by omega, x5, sub_new _ hR⟩, ?_, ?_⟩
      · refine ⟨trivial, by rw [rangePV_len]; unfold sizeLine; omega, fun _ _ _ _ => trivial, ?_⟩
        rintro C i q acc τ' hq ⟨s', t', ts, rfl, hlen, hts, y1, y2, y3, hsub⟩
        obtain ⟨rfl, hi⟩ := rangePV_get hq
        refine as_name .nil (e_forget hsub ?_)
        refine ev_call (ev_glob P.g_law_pick ⟨_, rfl, ev_cell (a := L + 1) rfl (f1 _ _) (ev_list ?_)⟩) ff.handled
        refine ev_str (ev_str (ev_str (ev_str (ev_str (ev_str (ev_str fun I hI => ?_))))))
        have hIp : I ≠ p := fun q => by rw [q, fp] at hI; cases hI
        refine ⟨kK P.k_law_pick, pick y1 (by omega) y3 (sub_new _ hI) (by rw [upd_ne _ _ (Ne.symm hIp)]; exact fp _ _) (upd_same _ _ _) hIp (of_decide_eq_true rfl) (of_decide_eq_true rfl) fun q s'' t'' τ'' b1 b2 b3 b4 b5 => ?_⟩
        obtain ⟨u, rfl, hu1, hu2⟩ : ∃ u, q = .str (T u) ∧ u.length ≤ 4 ∧ ∀ x ∈ u, okSign x = true := by
          simp only [List.mem_cons, List.not_mem_nil, or_false] at b1
          rcases b1 with rfl | rfl | rfl | rfl | rfl | rfl | rfl
          · exact ⟨[97], by kernel_rfl, by decide, by decide⟩
          · exact ⟨[45, 32, 49, 58], by kernel_rfl, by decide, by decide⟩
          · exact ⟨[34], by kernel_rfl, by decide, by decide⟩
          · exact ⟨[92], by kernel_rfl, by decide, by decide⟩
          · exact ⟨[10], by kernel_rfl, by decide, by decide⟩
          · exact ⟨[9], by kernel_rfl, by decide, by decide⟩
          · exact ⟨[40], by kernel_rfl, by decide, by decide⟩
        refine ⟨_, .refl _, s'', t'', ts ++ [u], by simp [stPV], by rw [List.length_append, hlen]; rfl, fun v hv => ?_, by omega, by omega, b4, b5⟩
        rcases List.mem_append.mp hv with hv | hv
        · exact hts v hv
        · rw [List.mem_singleton.mp hv]; exact ⟨hu1, hu2⟩
      · rintro D' acc τ' ⟨s', t', ts, rfl, hlen, hts, y1, y2, y3, hsub⟩ hD'
        rw [rangePV_len] at hlen y2
        have hl12 := jn_len (sep := []) (b := 4) (ts := ts) (fun u hu => (hts u hu).1)
        simp only [List.length_nil, Nat.mul_zero, Nat.add_zero] at hl12
        rw [str_nil]
        refine ⟨.inl ⟨_, rfl⟩, join_show (ts := ts) (b := 4) (upd_same _ _ _) (fun u hu => (hts u hu).1) (by decide) (by omega) (fin _ s' t' _ (okI_of_str (by omega) fun x hx => ?_) y1 (by omega) y3 (.trans hsub (sub_new _ hD')))⟩
        obtain ⟨u, hu, hx⟩ := jn_mem hx
        exact (hts u hu).2 x hx
    rw [show (way == 3) = false by simp [q2]]
    have h6 : d < 2 := by
      by_cases q : d < 2
      · exact q
      · rw [if_neg q] at hmw; omega
    obtain ⟨j, rfl⟩ : ∃ j, k = j + 1 := ⟨k - 1, by omega⟩
    have hdj : drs (j + 1) = 2 + 2 * drs j := rfl
    have hj0 : 0 ≤ drs j := by omega
    refine ss_nil (ss_ret (ev_call (ev_builtin P.b_tuple rfl ⟨_, rfl, ev_comp [("pen", L + 1), ("deep", L + 1 + 1)] (ei_of (ev_call (ev_builtin P.b_range rfl ⟨_, rfl, ev_call (ev_glob P.g_law_draw ⟨_, rfl, ev_cell (a := L + 1) rfl (f1 _ _) (ev_int ⟨kK P.k_law_draw, ?_⟩)⟩) ff.handled⟩) ff.handled)) ff.handled⟩) ff.handled))
    refine (draw_c (n := n + (j + 1) + 1) P (fp _ _) (fD _ _) hz (by omega) (by omega) w5 (by decide) (by decide) fun d1 s2 t2 x1 x2 x3 x4 x5 => ⟨kT, c_range fun R hR => ?_⟩).call
    rw [up] at hR ⊢
    refine ⟨_, _, _, src_range (upd_same _ _ _) (by omega) (by omega), TupI σ1 p D s j,
      ⟨s2, t2, rfl, fun u hu => (nomatch hu), by omega, by simp; omega, x5, sub_new _ hR⟩, ?_, ?_⟩
    · refine ⟨trivial, by rw [rangePV_len]; unfold sizeLine; omega, fun _ _ _ _ => trivial, ?_⟩
      rintro C i q acc τ' hq ⟨s', t', hlen, hts, y1, y2, y3, hsub⟩
      obtain ⟨rfl, hi⟩ := rangePV_get hq
      refine as_name .nil (e_forget hsub ?_)
      have hi2 : (i : Int) * drs j ≤ drs j := by
        rcases (show i = 0 ∨ i = 1 by omega) with rfl | rfl <;> simp <;> omega
      have hi3 : (((i + 1 : Nat) : Int)) * drs j = (i : Int) * drs j + drs j := by rw [Int.natCast_add, Int.add_mul]; simp
      refine ev_call (ev_glob P.g_law_item ⟨_, rfl, ev_cell (a := L + 1) rfl (f1 _ _) (ev_binop (ev_cell (a := L + 1 + 1) rfl (f2 _ _) (ev_int (op_add ⟨kK P.k_law_item, ?_⟩))))⟩) ff.handled
      refine (ih j (by omega) (d := d + 1) (by omega) (by omega) (fp _ _) (fD _ _) (by omega) (by omega) y3 fun q s'' t'' b1 b2 b3 b4 => ?_).call
      rw [up]
      refine ⟨_, .refl _, s'', t'', by rw [List.length_append, hlen]; rfl, fun v hv => ?_, by omega, by omega, b4, .refl _⟩
      rcases List.mem_append.mp hv with hv | hv
      · exact hts v hv
      · rw [List.mem_singleton.mp hv]; exact b1
    · rintro D' acc τ' ⟨s', t', hlen, hts, y1, y2, y3, hsub⟩ hD'
      rw [rangePV_len] at hlen y2
      have hi2 : ((d1.toNat : Nat) : Int) * drs j ≤ 2 * drs j := by
        rcases (show d1.toNat = 0 ∨ d1.toNat = 1 ∨ d1.toNat = 2 by omega) with q | q | q <;> rw [q] <;> simp <;> omega
      exact ⟨kT, c_tuple_list (upd_same _ _ _) (by unfold sizeLine; omega) (fin _ s' t' _ (okI_of_tup (by omega) hts) y1 (by omega) y3 (.trans hsub (sub_new _ hD')))⟩
  have go : Call c (n + k + 2) (.ref 409) [.k (.ref p), .int mw] (upd σ1 p (penO D s t)) (LetP c ⟨envF (fnScope (topSt 25)) L "_law_item" 421 (.ref 420) [("deep", L + 1 + 1), ("pen", L + 1)], A', n + k + 2, 0⟩ "way" ((fnBody (topSt 25)).drop 1) []
      (UpN Φ) (UpR Φ) (UpX X)) (UpC X) := by
    refine (draw_c (n := n + k + 1) P (fp _ _) (fD _ _) hz hs0 (by omega) ht (by omega) (by omega) fun d1 s2 t2 x1 x2 x3 x4 x5 => ⟨_, .nil, ?_⟩).call
    rw [up]
    exact cont x1 x2 x3 x4 x5
  by_cases q : d < 2
  · rw [decide_eq_true q]
    rw [if_pos q] at hmw
    rw [hmw] at go
    exact ev_int ⟨kK P.k_law_draw, go⟩
  · rw [decide_eq_false q]
    rw [if_neg q] at hmw
    rw [hmw] at go
    exact ev_int ⟨kK P.k_law_draw, go⟩
end
end Mine
end B20
section B21
open PySem PySem.W PySem.Calls PyProof.Rows PySem.Challenge
set_option maxRecDepth 100000
set_option linter.unusedVariables false
set_option exponentiation.threshold 2000
namespace Mine

noncomputable def headL : List Nat := [104, 101, 97, 100, 32, 49]
theorem headL_of : PySem.Str.ofString "head 1" = T headL := by kernel_rfl

section
variable {c : Cx} {fm : Fm} {loc : Loc} {n m : Nat} {σ : Sto} {Φ : NPr} {X : CXPr} {r x dx dr : Addr} {l : List Nat} {i nl : Nat}

theorem ln_ln (h : r ≠ x) (i j a b : Nat) : ln (ln σ r x dr dx l i a) r x dr dx l j b = ln σ r x dr dx l j b := by
  unfold ln cu
  have e : upd (upd (upd σ x (cuO dx l i)) r (rdO dr x a)) x (cuO dx l j) = upd (upd (upd σ x (cuO dx l i)) x (cuO dx l j)) r (rdO dr x a) := upd_comm _ _ _ h
  rw [e, upd_upd, upd_upd]
theorem cu_ln (h : r ≠ x) (i j a b : Nat) : upd (cu (ln σ r x dr dx l i a) x dx l j) r (rdO dr x b) = ln σ r x dr dx l j b := ln_ln h i j a b
theorem ln_sub (hr : σ r = none) (hx : σ x = none) (h : r ≠ x) (i a : Nat) : Sub σ (ln σ r x dr dx l i a) := .trans (sub_new _ hx) (sub_new _ (by rw [upd_ne _ _ h]; exact hr))
theorem Keep.sub {τ : Sto} {σ1 : Sto} (hs : Sub σ σ1) (hr : σ r = none) (hx : σ x = none) (k : Keep r x σ1 τ) : Sub σ τ := fun a o e => k a o (hs _ _ e) (fun q => by rw [q, hx] at e; cases e) fun q => by rw [q, hr] at e; cases e

theorem place_c (P : PK c) {rest : List Nat} {f : Addr} {v : Int} (hl : l.length < 2 ^ 20) (hT : l = headL ++ 10 :: rest)
    (hf : ∀ τ, Sub σ τ → Kept c τ (.ref f))
    (hask : ∀ r x dr dx σ1, Sub σ σ1 → σ1 r = some (rdO dr x 1) → σ1 x = some (cuO dx l 7) → Call c (n + 8) (.ref f) [.k (.ref r)] σ1 (fun _ τ => v = -1 ∧ Keep r x σ1 τ) (fun C fs τ => C = 95 ∧ (∃ off : Nat, v = off ∧ ErrAt off fs τ) ∧ Keep r x σ1 τ))
    (h : Φ (.int v) σ) : CallC c (n + 9) (.ref 438) [.str (T l), .k (.ref f)] σ Φ X := by
  refine call_pl P.f_law_place [("text", .str (T l)), ("ask", .k (.ref f))] (fun s vs kV doc pm an ct _ hv => ?_) (by kernel_rfl) (by kernel_rfl) fun L A' hL ff => ?_
  · obtain ⟨v, u, rfl, b⟩ := br2 (x := "text") (y := "ask") hv
    exact ⟨_, .of_eq rfl, b⟩
  refine ss_let (ev_call (ev_glob P.g_LineReader ⟨_, rfl, ev_name m0 ⟨kK P.k_393, ?_⟩⟩) ff.handled)
  refine (rd_make (n := n + 4) P fun r dr x dx hr hx hrx => ⟨_, .nx (.nx .nil), ?_⟩).call
  have e0 : upd (upd σ x (cuO dx l 0)) r (rdO dr x 0) = ln σ r x dr dx l 0 0 := rfl
  rw [e0]
  have D : l.drop 0 = headL ++ 10 :: rest := hT
  refine ss_expr (ev_nmeth m2 ln_r P.m_LineReader_head ff.handled (ev_str ?_))
  rw [headL_of]
  refine (rd_head (n := n) P ln_r (ln_x hrx 0) hl (Nat.zero_le _) (by decide) D ?_).call
  rw [cu_ln hrx]
  have hs : Sub σ (ln σ r x dr dx l 7 1) := ln_sub hr hx hrx 7 1
  refine ss_try (Xb := fun C fs lo τ => C = 95 ∧ (∃ off : Nat, v = off ∧ ErrAt off fs τ) ∧ Keep r x (ln σ r x dr dx l 7 1) τ ∧ lo = ([("text", .str (T l)), ("ask", .k (.ref f)), ("reader", .k (.ref r))] : Loc)) P.xi.shape ff P.g_TableError ?_ ?_
  · refine ss_expr (ev_call (ev_name m1 ⟨_, rfl, ev_name m2 ⟨hf _ hs, ?_⟩⟩) ff.handled)
    refine (hask r x dr dx _ hs ln_r (ln_x hrx 7)).mono (fun q τ ⟨hv, hk⟩ => ?_) fun C fs τ ⟨a, b, d⟩ => ⟨a, b, d, rfl⟩
    refine ss_nil (ss_ret (ev_unop (ev_int (op_neg ⟨_, hk.sub hs hr hx, ?_⟩))))
    rw [← hv]; exact h
  · rintro C' fs lo τ ⟨rfl, ⟨off, rfl, w, q, dq, lnn, cl, rfl, hq⟩, hk, rfl⟩
    refine ⟨rfl, fun a dx' na nd => ⟨_, .nx (.nx (.nx .nil)), ?_⟩⟩
    have haq : q ≠ a := fun z => na (z ▸ .inl ⟨_, hq⟩)
    have ha : τ a = none := by
      cases e : τ a with
      | none => rfl
      | some o => exact absurd (.inl ⟨o, e⟩) na
    refine ss_ret (ev_attr (ev_attrX (ev_name m3 ⟨a, 95, dx', _, false, _, rfl, upd_same _ _ _, P.x_95_at, rfl, rfl, ?_⟩)))
    exact ⟨_, _, _, ⟨q, dq, rfl, .inl (by rw [upd_ne _ _ haq]; exact hq)⟩, P.a_46_offset, rfl, rfl, σ, .trans (hk.sub hs hr hx) (sub_new _ ha), h⟩
end
end Mine
end B21
section B22
open PySem PySem.W PySem.Calls PyProof.Rows PySem.Challenge
set_option maxRecDepth 100000
set_option linter.unusedVariables false
set_option exponentiation.threshold 2000
namespace Mine

noncomputable def EndOk (w : List Nat) (v : Int) : Prop := ∃ res, FN 1 (w ++ [10]) res ∧ (∀ u t, res = .ok u t → v = -1) ∧ (∀ t, res = .err t → v = (7 + (w.length + 1) - t.length : Nat))
theorem endOk1 : EndOk [101, 110, 100, 32, 51] 12 := ⟨.err [10], .wrong (r := [51, 10]) (WR_lit (ds := [51]) (t := [10]) (by decide) (by decide) (by decide) (not_fig (by decide))) (by decide), fun _ _ e => (nomatch e), fun t e => by cases e; rfl⟩
theorem endOk2 : EndOk [101, 110, 100, 32, 49] 12 := ⟨.err [10], .wrong (r := [49, 10]) (WR_lit (ds := [49]) (t := [10]) (by decide) (by decide) (by decide) (not_fig (by decide))) (by decide), fun _ _ e => (nomatch e), fun t e => by cases e; rfl⟩
theorem endOk3 : EndOk [101, 110, 100] 7 := ⟨.err [101, 110, 100, 10], .word (fun t e => by simp at e), fun _ _ e => (nomatch e), fun t e => by cases e; rfl⟩
theorem endOk4 : EndOk [101, 110, 100, 32, 50, 120] 12 := ⟨.err [120, 10], .noend (r := [50, 120, 10]) (WR_lit (ds := [50]) (t := [120, 10]) (by decide) (by decide) (by decide) (not_fig (by decide))) (by decide) (fun u e => by simp at e), fun _ _ e => (nomatch e), fun t e => by cases e; rfl⟩
theorem endOk5 : EndOk [101, 110, 100, 32, 50, 10, 10] 13 := ⟨.err [10, 10], .behind (r := [50, 10, 10, 10]) (WR_lit (ds := [50]) (t := [10, 10, 10]) (by decide) (by decide) (by decide) (not_fig (by decide))) (by decide), fun _ _ e => (nomatch e), fun t e => by cases e; rfl⟩
theorem endOk6 : EndOk [101, 110, 100, 32, 50] (-1) := ⟨.ok () [], .go (r := [50, 10]) (WR_lit (ds := [50]) (t := [10]) (by decide) (by decide) (by decide) (not_fig (by decide))) (by decide), fun _ _ e => rfl, fun t e => (nomatch e)⟩
theorem endOk7 : EndOk [101, 110, 100, 32, 48, 50] (-1) := ⟨.ok () [], .go (r := [48, 50, 10]) (WR_lit (ds := [48, 50]) (t := [10]) (by decide) (by decide) (by decide) (not_fig (by decide))) (by decide), fun _ _ e => rfl, fun t e => (nomatch e)⟩

section
variable {c : Cx} {fm : Fm} {loc : Loc} {n m : Nat} {σ : Sto} {Φ : NPr} {X : CXPr} {p D : Addr} {s t : Int} {is : List Int}

theorem after_none {σ τ : Sto} {a b : Addr} {o : AO} (h : σ b = some o) (hs : Sub σ τ) (ha : τ a = none) : a ≠ b := fun q => by rw [q, hs _ _ h] at ha; cases ha

theorem ends_c (P : PK c) (hz : is.length ≤ 40) (hp : σ p = some (penO D s t)) (hD : σ D = some (.list (is.map .int))) (hs0 : 0 ≤ s) (hs : s < 2 ^ 18) (ht : 0 ≤ t) (hP : σ 445 = some (.tab #[])) (hpP : p ≠ 445)
    (h : ∀ τ s' t', (∀ a o, σ a = some o → a ≠ p → a ≠ 445 → τ a = some o) → τ p = some (penO D s' t') → s ≤ s' → s' ≤ s + 1 → 0 ≤ t' → (∃ ps, τ 445 = some (.tab ps)) → Φ (.k (.bool true)) τ) : CallC c (n + 13) (.ref 450) [.k (.ref p)] σ Φ X := by
  refine call_pl P.f_law_ends_hold [("pen", .k (.ref p))] (fun s vs kV doc pm an ct _ hv => ?_) (by kernel_rfl) (by kernel_rfl) fun L A' hL ff => ?_
  · obtain ⟨v, rfl, b⟩ := br1 (x := "pen") hv
    exact ⟨_, .of_eq rfl, b⟩
  refine ss_tuple (ev_call (ev_glob P.g_law_pick ⟨_, rfl, ev_name m0 (ev_list ?_)⟩) ff.handled)
  refine ev_tuple (ev_str (ev_int (ev_tuple (ev_str (ev_int (ev_tuple (ev_str (ev_int (ev_tuple (ev_str (ev_int (ev_tuple (ev_str (ev_int (ev_tuple (ev_str (ev_unop (ev_int (op_neg (ev_tuple (ev_str (ev_unop (ev_int (op_neg (fun I hI => ?_)))))))))))))))))))))))))
  have hIp : I ≠ p := fun q => by rw [q, hp] at hI; cases hI
  have hID : D ≠ I := fun q => by rw [← q, hD] at hI; cases hI
  refine ⟨kK P.k_law_pick, (pick_c (n := n + 10) P (D := D) (s := s) (t := t) (is := is) (by rw [upd_ne _ _ (Ne.symm hIp)]; exact hp) (by rw [upd_ne _ _ hID]; exact hD) hz hs0 (by omega) ht (upd_same _ _ _) hIp (of_decide_eq_true rfl) (of_decide_eq_true rfl) fun q s' t' b1 b2 b3 b4 => ?_).call⟩
  obtain ⟨w, v, rfl, hw, hwl⟩ : ∃ w v, q = .tup [.str (T w), .int v] ∧ EndOk w v ∧ w.length ≤ 20 := by
    simp only [List.mem_cons, List.not_mem_nil, or_false] at b1
    rcases b1 with rfl | rfl | rfl | rfl | rfl | rfl | rfl
    · exact ⟨_, _, by kernel_rfl, endOk1, by decide⟩
    · exact ⟨_, _, by kernel_rfl, endOk2, by decide⟩
    · exact ⟨_, _, by kernel_rfl, endOk3, by decide⟩
    · exact ⟨_, _, by kernel_rfl, endOk4, by decide⟩
    · exact ⟨_, _, by kernel_rfl, endOk5, by decide⟩
    · exact ⟨_, _, by kernel_rfl, endOk6, by decide⟩
    · exact ⟨_, _, by kernel_rfl, endOk7, by decide⟩
  refine as_tuple ff.handled (as_name (.nx .nil) (as_name (.nx (.nx .nil)) ?_))
  refine ss_forget (fun p hp => hp) (sub_upd (sub_new _ hI) p (penO D s' t')) ?_
  have hτP : upd σ p (penO D s' t') 445 = some (.tab #[]) := by rw [upd_ne _ _ (Ne.symm hpP)]; exact hP
  refine ss_ret (ev_cmp (ev_call (ev_glob P.g_law_place ⟨_, rfl, ev_binop (ev_binop (ev_str (ev_name m1 (op_cat ?_ (ev_str (op_cat ?_ ?_))))))⟩) ff.handled))
  · rw [show (PySem.Str.ofString "head 1\n").length = 7 by kernel_rfl, T_len]; unfold sizeLine; omega
  · rw [show PySem.Str.ofString "head 1\n" = T (headL ++ [10]) by kernel_rfl, show (PySem.Str.ofString "\n").length = 1 by kernel_rfl, T_append, T_len, List.length_append]; unfold sizeLine
    have h7 : (headL ++ [10]).length = 7 := rfl
    omega
  rw [show PySem.Str.ofString "head 1\n" = T (headL ++ [10]) by kernel_rfl, show PySem.Str.ofString "\n" = T [10] by kernel_rfl, T_append, T_append]
  refine ev_lambda [] P.h_449 hτP trivial rfl fun f c' pm ctv hf hc hfc => ⟨kK P.k_law_place, ?_⟩
  obtain ⟨res, hF, hF1, hF2⟩ := hw
  have hlen : (headL ++ [10] ++ w ++ [10]).length = 7 + w.length + 1 := by rw [List.length_append, List.length_append]; rfl
  refine (place_c (n := n + 3) P (l := headL ++ [10] ++ w ++ [10]) (rest := w ++ [10]) (v := v) (by omega) (by simp) (fun τ hs => .inr (.inr (.inr ⟨f, _, rfl, hs _ _ (upd_same _ _ _)⟩))) (fun r x dr dx σ1 hs1 hr hx => ?_) (ev_name m2 (cmp_eq ?_))).call
  · refine (call_lam (n := n + 10) (x := "reader") (hs1 _ _ (upd_same _ _ _)) (hs1 _ _ (by rw [upd_ne _ _ (Ne.symm hfc)]; exact upd_same _ _ _)) (fun L A' hL ff => ?_) (fun v => rfl)).call
    refine ev_nmeth m0 hr P.m_LineReader_finish ff.handled (rd_finish (m := n) (res := res) P hr hx (by omega) (by omega) ?_ (fun u t e => ⟨_, .refl _, hF1 u t e, .ln⟩) fun t fs τ e he hk => ⟨τ, .refl _, rfl, ⟨_, ?_, he⟩, hk⟩).call
    · rw [List.append_assoc, List.drop_left' (by rfl)]; exact hF
    · rw [hF2 t e, hlen, Nat.add_assoc]
  · rw [beq_self_eq_true]
    refine ⟨_, .refl _, h _ s' t' (fun a o e h1 h2 => ?_) ?_ b2 b3 b4 ⟨_, by rw [upd_ne _ _ (Ne.symm (after_none hτP (.refl _) hf)), upd_ne _ _ (Ne.symm (after_none hτP (.refl _) hc))]; exact upd_same _ _ _⟩⟩
    · rw [upd_ne, upd_ne, upd_ne _ _ h2, upd_ne _ _ h1]
      · exact e
      · exact fun q => by rw [q] at e; rw [upd_ne _ _ (fun z => h1 (q.trans z))] at hc; rw [hc] at e; cases e
      · exact fun q => by rw [q] at e; rw [upd_ne _ _ (fun z => h1 (q.trans z))] at hf; rw [hf] at e; cases e
    · rw [upd_ne, upd_ne, upd_ne _ _ hpP]
      · exact upd_same _ _ _
      · exact fun q => by rw [← q, upd_same] at hc; cases hc
      · exact fun q => by rw [← q, upd_same] at hf; cases hf
end
end Mine
end B22
section B23
open PySem PySem.W PySem.Calls PyProof.Rows PySem.Challenge
set_option maxRecDepth 100000
set_option linter.unusedVariables false
set_option exponentiation.threshold 2000
namespace Mine

theorem m8 {α : Type _} {a b c d e f g h i : α} {r : List α} : i ∈ a :: b :: c :: d :: e :: f :: g :: h :: i :: r := .tail _ m7
theorem mul7 : Txt.mul (PySem.Str.ofString "7") 161 = T (List.replicate 161 55) := by
  rw [show PySem.Str.ofString "7" = (⟨#[55]⟩ : PySem.Str) by kernel_rfl, T_of (Txt.mul _ _), mul_one_list]; rfl
theorem mul7ok : MulOk (PySem.Str.ofString "7") 161 := by
  have h : (PySem.Str.ofString "7").length = 1 := by kernel_rfl
  unfold MulOk
  rw [h]
  exact ⟨by decide, fun _ _ => by decide, fun _ _ => by decide⟩
theorem nat_str (k : Nat) : PySem.Str.ofString (toString ((k : Nat) : Int)) = T (digs k) := by
  rw [ofString_int]
  unfold intS
  rw [if_neg (by omega), Int.natAbs_natCast]
theorem log2_small {a : Int} (h : a.natAbs < 1000) : a.natAbs.log2 < 1920 := by
  have := Nat.log2_le_self a.natAbs
  omega

section
variable {c : Cx} {fm : Fm} {loc : Loc} {n m : Nat} {σ : Sto} {Φ : NPr} {X : CXPr} {p D : Addr} {s t : Int} {is : List Int}

theorem ev_lam {params : Arguments} {body : Expr} {scope : Scope} {pos : Pos} {cd Q : Addr} {ps : Array Value} {X : XPr} (clos : List (PySem.Str × Addr))
    (C : codeHdIn c.K cd Q = true) (hP : σ Q = some (.tab ps)) (ht : TriplesOk ps.toList) (hnf : codeAmong pos ps.toList = none)
    (h : ∀ f c' pm ctv τ, τ f = some (.lam (kla_fn "<lambda>" (fm.env.qual ++ "<lambda>") params body scope clos pm (.ref c') ctv)) → τ c' = some (.code (fm.env.qual ++ "<lambda>")) → τ Q = some (.tab (ps ++ #[rawInt pos.line, rawInt pos.col, .ref c'])) →
      (∀ a o, σ a = some o → a ≠ Q → τ a = some o) → Φ (.k (.ref f)) τ)
    (hcode : fm.env.code = .ref cd := by rfl) (hcl : closureFor scope fm.env = pure clos := by with_unfolding_all rfl) (hge0 : fm.env.globals = mainGlobals := by rfl) (hdef : defaultsOf params fm.env = ([], []) := by rfl) : E c fm (.Lambda params body scope pos) loc σ Φ X :=
  ev_lambda clos C hP ht hnf (fun f c' pm ctv hf hc hfc => by
    have q1 : f ≠ Q := after_none hP (.refl _) hf
    have q2 : c' ≠ Q := after_none hP (.refl _) hc
    refine h f c' pm ctv _ (upd_same _ _ _) (by rw [upd_ne _ _ (Ne.symm hfc)]; exact upd_same _ _ _) (by rw [upd_ne _ _ (Ne.symm q1), upd_ne _ _ (Ne.symm q2)]; exact upd_same _ _ _) fun a o e hne => ?_
    rw [upd_ne, upd_ne, upd_ne _ _ hne]
    · exact e
    · exact fun q => by rw [q, hc] at e; cases e
    · exact fun q => by rw [q, hf] at e; cases e) hcode hcl hge0 hdef

theorem wrong_place (P : PK c) {w : List Nat} {v : Int} {f c' : Addr} {name qual : PySem.Str} {params : Arguments} {scope : Scope} {pm ctv : Value} {t : List Nat} {body : Expr} {l : List Nat}
    (hl : l.length < 2 ^ 19) (hT : l = headL ++ 10 :: w) (hI : IT [122] w (.err t)) (hv : v = ((l.length - t.length : Nat) : Int))
    (hf : σ f = some (.lam (kla_fn name qual params body scope [] pm (.ref c') ctv))) (hc : σ c' = some (.code qual))
    (hbody : ∀ (L : Addr) (A' : Around) (r : Addr) (σ1 : Sto) (Ψ : NPr) (Y : XPr), FF ⟨envF scope L qual f (.ref c') [], A', n + 13, 0⟩ → (∃ dr x nl, σ1 r = some (rdO dr x nl)) → CallC c (n + 13) (.ref 354) [.k (.ref r), .str (T [122])] σ1 Ψ (fun C fs τ => Y C fs [(("reader" : PySem.Str), .k (.ref r))] τ) → E c ⟨envF scope L qual f (.ref c') [], A', n + 13, 0⟩ body [("reader", .k (.ref r))] σ1 Ψ Y)
    (hbind : ∀ v, bindArgs (kla_fn name qual params body scope [] pm (.ref c') ctv) ⟨[v], []⟩ = pure [(("reader" : PySem.Str), v)])
    (hx : scope.names.lookup ("reader" : PySem.Str) = some NameKind.local) (hcell : (scope.names.all fun y => !(y.2 == .cell)) = true) (hco : scope.isCoroutine = false) (hgen : scope.isGenerator = false) (hk : scope.kind = .function)
    (h : Φ (.int v) σ) : CallC c (n + 15) (.ref 438) [.str (T l), .k (.ref f)] σ Φ X := by
  refine place_c (n := n + 6) P (rest := w) (v := v) (by omega) hT (fun τ hs => .inr (.inr (.inr ⟨f, _, rfl, hs _ _ hf⟩))) (fun r x dr dx σ1 hs1 hr hx1 => ?_) h
  refine (call_lam (n := n + 13) (x := "reader") (hs1 _ _ hf) (hs1 _ _ hc) (fun L A' hL ff => ?_) hbind hx hcell hco hgen hk).call
  refine hbody L A' r σ1 _ _ ff ⟨dr, _, _, hr⟩ (rd_items (m := n) (res := .err t) P hr hx1 (by omega) (by rw [hT]; simp [headL]) (by decide) ?_ (fun _ _ _ _ e => (nomatch e)) fun t' fs τ e he hk => ⟨τ, .refl _, rfl, ⟨_, ?_, he⟩, hk⟩)
  · rw [hT, show headL ++ 10 :: w = (headL ++ [10]) ++ w by simp, List.drop_left' (by rfl)]
    exact hI
  · cases e; exact hv

inductive WrI (σ1 : Sto) (p D : Addr) (s : Int) (i : Nat) (acc : List PV) (τ : Sto) : Prop
  | mk (s' : Int) (t' : Int) (h0 : acc.length = i) (h1 : (∀ u ∈ acc, u.okI 2 = true)) (h2 : s ≤ s') (h3 : s' ≤ s + 1 + i * 26) (h4 : 0 ≤ t') (h5 : Sub (upd σ1 p (penO D s' t')) τ)
theorem wrong_c (P : PK c) (hz : is.length ≤ 40) (hp : σ p = some (penO D s t)) (hD : σ D = some (.list (is.map .int))) (hs0 : 0 ≤ s) (hs : s < 2 ^ 16) (ht : 0 ≤ t) (hP : σ 440 = some (.tab #[])) (hpP : p ≠ 440)
    (h : ∀ τ s' t', (∀ a o, σ a = some o → a ≠ p → a ≠ 440 → τ a = some o) → τ p = some (penO D s' t') → s ≤ s' → s' ≤ s + 100 → 0 ≤ t' → (∃ ps, τ 440 = some (.tab ps)) → Φ (.k (.bool true)) τ) : CallC c (n + 16) (.ref 443) [.k (.ref p)] σ Φ X := by
  have hpD : p ≠ D := fun q => by
    rw [q, hD] at hp
    have := AO.list.inj (Option.some.inj hp)
    cases is with
    | nil => cases this
    | cons a r => cases (List.cons.inj this).1
  refine call_cl P.f_law_wrong_holds [("pen", .k (.ref p))] [] (fun L => [("pen", L + 1)]) (fun L => rfl) (fun s vs kV doc pm an ct _ hv => ?_) (fun L => by rfl) (fun p hp => nomatch hp) fun L A' hL ff => ?_
  · obtain ⟨v, rfl, b⟩ := br1 (x := "pen") hv
    exact ⟨_, .of_eq rfl, b⟩
  have hcs : cellsSto σ [("pen", .k (.ref p))] [("pen", L + 1)] = upd σ (L + 1) (.cell (some (.k (.ref p)))) := by rfl
  rw [hcs]
  have n1 : σ (L + 1) = none := hL _ (Nat.le_succ _)
  have hs1 : Sub σ (upd σ (L + 1) (.cell (some (.k (.ref p))))) := sub_new _ n1
  have c1 : upd σ (L + 1) (.cell (some (.k (.ref p)))) (L + 1) = some (.cell (some (.k (.ref p)))) := upd_same _ _ _
  generalize upd σ (L + 1) (.cell (some (.k (.ref p)))) = σ1 at hs1 c1
  have p1 : L + 1 ≠ p := fun q => by rw [q, hp] at n1; cases n1
  have fp : ∀ s' t', upd σ1 p (penO D s' t') p = some (penO D s' t') := fun _ _ => upd_same _ _ _
  have fD : ∀ s' t', upd σ1 p (penO D s' t') D = some (.list (is.map .int)) := fun _ _ => by rw [upd_ne _ _ (Ne.symm hpD)]; exact hs1 _ _ hD
  have f1 : ∀ s' t', upd σ1 p (penO D s' t') (L + 1) = some (.cell (some (.k (.ref p)))) := fun _ _ => by rw [upd_ne _ _ p1]; exact c1
  have fP : ∀ s' t', upd σ1 p (penO D s' t') 440 = some (.tab #[]) := fun _ _ => by rw [upd_ne _ _ (Ne.symm hpP)]; exact hs1 _ _ hP
  have up : ∀ s' t' s'' t'', upd (upd σ1 p (penO D s' t')) p (penO D s'' t'') = upd σ1 p (penO D s'' t'') := fun _ _ _ _ => upd_upd _ _ _ _
  have keep : ∀ s' t' a o, σ a = some o → a ≠ p → upd σ1 p (penO D s' t') a = some o := fun s' t' a o e h1 => by rw [upd_ne _ _ h1]; exact hs1 _ _ e
  have e0 : σ1 = upd σ1 p (penO D s t) := (upd_self (hs1 _ _ hp)).symm
  rw [e0]
  refine ss_letcomp [("pen", L + 1)] (ei_of (ev_call (ev_builtin P.b_range rfl ⟨_, rfl, ev_binop (ev_int (ev_call (ev_glob P.g_law_draw ⟨_, rfl, ev_cell (a := L + 1) rfl (f1 _ _) (ev_int ⟨kK P.k_law_draw, ?_⟩)⟩) ff.handled))⟩) ff.handled)) ff.handled
  refine (draw_c (n := n + 14) P (fp _ _) (fD _ _) hz hs0 (by omega) ht (by decide) (by decide) fun d1 s2 t2 x1 x2 x3 x4 x5 => op_add ⟨kT, c_range fun R hR => ?_⟩).call
  rw [up] at hR ⊢
  refine ⟨_, _, _, src_range (upd_same _ _ _) (by omega) (by omega), WrI σ1 p D s,
    ⟨s2, t2, rfl, fun u hu => (nomatch hu), by omega, by omega, x5, sub_new _ hR⟩, ?_, ?_⟩
  · refine ⟨trivial, by rw [rangePV_len]; unfold sizeLine; omega, fun _ _ _ _ => trivial, ?_⟩
    rintro C i q acc τ' hq ⟨s', t', hlen, hts, y1, y2, y3, hsub⟩
    obtain ⟨rfl, hi⟩ := rangePV_get hq
    refine as_name .nil (e_forget hsub ?_)
    refine ev_call (ev_glob P.g_law_item ⟨_, rfl, ev_cell (a := L + 1) rfl (f1 _ _) (ev_int ⟨kK P.k_law_item, ?_⟩)⟩) ff.handled
    have hd26 : drs 2 = 26 := rfl
    refine (item_c (n := n + 10) P hz 2 (d := 0) rfl (by omega) (fp _ _) (fD _ _) (by omega) (by omega) y3 fun q s'' t'' b1 b2 b3 b4 => ?_).call
    rw [up]
    refine ⟨_, .refl _, s'', t'', by rw [List.length_append, hlen]; rfl, fun v hv => ?_, by omega, by omega, b4, .refl _⟩
    rcases List.mem_append.mp hv with hv | hv
    · exact hts v hv
    · rw [List.mem_singleton.mp hv]; exact b1
  rintro S ps τ' ⟨s', t', hlen, hps, y1, y2, y3, hsub⟩ hS
  rw [rangePV_len] at hlen y2
  have hn1 : 1 ≤ ps.length := by omega
  have hn3 : ps.length ≤ 3 := by omega
  have hS0 : upd σ1 p (penO D s' t') S = none := sub_none hsub hS
  have hSp : p ≠ S := fun q => by rw [← q, fp] at hS0; cases hS0
  refine as_name_foot .nil (ss_forget (fun p hp => hp) (sub_upd hsub S (.list ps)) ?_)
  have gS : upd (upd σ1 p (penO D s' t')) S (.list ps) S = some (.list ps) := upd_same _ _ _
  have gsub : Sub (upd σ1 p (penO D s' t')) (upd (upd σ1 p (penO D s' t')) S (.list ps)) := sub_new _ hS0
  generalize upd (upd σ1 p (penO D s' t')) S (.list ps) = τ0 at gS gsub
  have hb : s' ≤ s + 80 := by omega
  clear hS y2 hlen hR x1 x2 x3 x4 x5 hsub
  have hR : lineL [122] ps = ([122, 32] ++ digs ps.length) ++ ([58] ++ itemsL ps) := by rw [lineL_eq]; simp
  have hRl : (lineL [122] ps).length ≤ 3270 := by
    have := lineL_len (w := [122]) (ps := ps) (k := 2) (by decide) (by omega) hps (Nat.le_refl _)
    omega
  have hdl : ([122, 32] ++ digs ps.length : List Nat).length = 3 := by rw [List.length_append, digs1 (by omega)]; rfl
  have h58 : 58 ∉ ([122, 32] ++ digs ps.length : List Nat) := fun q => by
    rcases List.mem_append.mp q with q | q
    · simp at q
    · have := digs_digit q; omega
  -- right, many
  refine ss_swap ff (ev_tuple (ev_call (ev_glob P.g_law_line ⟨_, rfl, ev_str (ev_name m0 ⟨kK P.k_law_line, ?_⟩)⟩) ff.handled))
  rw [show PySem.Str.ofString "z" = T [122] by kernel_rfl]
  refine (line_c (n := n + 11) P gS (by decide) (by omega) hps ?_).call
  refine ev_call (ev_builtin P.b_len rfl ⟨_, rfl, ev_name m0 ⟨kB, c_len_list gS (by omega) ⟨_, _, _, _, rfl, .nx .nil, .nx (.nx .nil), ?_⟩⟩⟩) ff.handled
  -- begun
  obtain ⟨ir, hir⟩ := index_one (b := itemsL ps) h58
  rw [← hR] at hir
  refine ss_let (ev_methG (ev_name m2 ⟨_, _, gm_str PySem.F.slot_str_index PySem.F.type_str_index, ev_str ⟨.inl ⟨_, rfl⟩, ?_⟩⟩) ff.handled)
  rw [show PySem.Str.ofString ":" = T [58] by kernel_rfl]
  refine c_index hir ⟨_, .nx (.nx (.nx .nil)), ?_⟩
  rw [hdl]
  -- less
  obtain ⟨qs, q, rfl⟩ : ∃ qs q, ps = qs ++ [q] := ⟨ps.dropLast, ps.getLast (fun z => by rw [z] at hn1; simp at hn1), (List.dropLast_concat_getLast _).symm⟩
  have hqs : ∀ p ∈ qs, p.okI 2 = true := fun p hp => hps p (List.mem_append_left _ hp)
  have hql : (qs ++ [q]).length = qs.length + 1 := by rw [List.length_append]; rfl
  refine ss_let (ev_call (ev_glob P.g_law_line ⟨_, rfl, ev_str (ev_slice (ev_name m0 (ev_unop (ev_int (op_neg ⟨_, rfl, sl_list gS (by unfold sizeLine; omega) fun S2 hS2 => ?_⟩)))))⟩) ff.handled)
  rw [show (((qs ++ [q]).drop ((none : Option Int).elim 0 (clipAt (qs ++ [q]).length))).take ((some (-1 : Int)).elim (qs ++ [q]).length (clipAt (qs ++ [q]).length) - (none : Option Int).elim 0 (clipAt (qs ++ [q]).length))) = qs by
    show ((qs ++ [q]).drop 0).take (clipAt (qs ++ [q]).length (-1) - 0) = qs
    rw [show clipAt (qs ++ [q]).length (-1) - 0 = qs.length by rw [hql]; unfold clipAt; omega]
    exact List.take_left' rfl]
  refine ⟨kK P.k_law_line, ?_⟩
  refine (line_c (n := n + 11) P (upd_same _ _ _) (by decide) (by omega) hqs ⟨_, .nx (.nx (.nx (.nx .nil))), ss_forget (fun p hp => hp) (sub_new _ hS2) ?_⟩).call
  have hLl : (lineL [122] qs).length ≤ 3270 := by
    have := lineL_len (w := [122]) (ps := qs) (k := 2) (by decide) (by omega) hqs (Nat.le_refl _)
    omega
  generalize hLq : lineL [122] qs = lq at hLl
  generalize hLr : lineL [122] (qs ++ [q]) = lr at hRl hR
  have hdr : lr.drop 3 = 58 :: itemsL (qs ++ [q]) := by rw [hR, List.drop_left' hdl]; rfl
  have h3 : 3 ≤ lr.length := by rw [hR, List.length_append, hdl]; omega
  have dg : ∀ k, k < 10 → (digs k).length = 1 := fun k hk => digs1 hk
  have hdrl : (lr.drop 3).length ≤ 3270 := by rw [List.length_drop]; omega
  have h2 : ([122, 32] : List Nat).length = 2 := rfl
  -- rows
  refine ss_let (ev_list (ev_tuple (ev_binop (ev_binop (ev_str (ev_call (ev_builtin P.b_str rfl ⟨_, rfl, ev_binop (ev_name m1 (ev_int (op_add ⟨kT, c_str_int (log2_small (by omega)) ?_⟩)))⟩) ff.handled))))))
  rw [show (((qs ++ [q]).length : Nat) : Int) + 1 = (((qs ++ [q]).length + 1 : Nat) : Int) by omega, nat_str, show PySem.Str.ofString "z " = T [122, 32] by kernel_rfl]
  have dg1 := dg ((qs ++ [q]).length + 1) (by omega)
  have dg2 := dg qs.length (by omega)
  refine op_cat (by rw [T_len, T_len, dg1]; exact of_decide_eq_true rfl) (ev_slice (ev_name m2 (ev_name m3 ⟨_, rfl, sl_str (sliceT_from (by omega)) (by unfold sizeLine; omega) ?_⟩)))
  rw [T_append]
  refine op_cat (by rw [T_len, T_len, List.length_append, dg1, h2]; unfold sizeLine; omega) ?_
  rw [T_append, hdr]
  refine ev_call (ev_builtin P.b_len rfl ⟨_, rfl, ev_name m2 ⟨kB, c_len_str (by rw [T_len]; omega) ?_⟩⟩) ff.handled
  rw [T_len]
  refine ev_tuple (ev_binop (ev_binop (ev_str (ev_call (ev_builtin P.b_str rfl ⟨_, rfl, ev_binop (ev_name m1 (ev_int (op_sub ⟨kT, c_str_int (log2_small (by omega)) ?_⟩)))⟩) ff.handled))))
  rw [show (((qs ++ [q]).length : Nat) : Int) - 1 = ((qs.length : Nat) : Int) by omega, nat_str]
  refine op_cat (by rw [T_len, T_len, dg2]; exact of_decide_eq_true rfl) (ev_slice (ev_name m2 (ev_name m3 ⟨_, rfl, sl_str (sliceT_from (by omega)) (by unfold sizeLine; omega) ?_⟩)))
  rw [T_append]
  refine op_cat (by rw [T_len, T_len, List.length_append, dg2, h2]; unfold sizeLine; omega) ?_
  rw [T_append, hdr]
  refine ev_call (ev_builtin P.b_len rfl ⟨_, rfl, ev_name m4 ⟨kB, c_len_str (by rw [T_len]; omega) ?_⟩⟩) ff.handled
  rw [T_len]
  intro R1 hR1
  refine ⟨_, .nx (.nx (.nx (.nx (.nx .nil)))), ?_⟩
  have i1 : R1 ≠ p := after_none (fp s' t') gsub hR1
  -- rows + ..
  refine ss_let (ev_binop (ev_name m5 (ev_list (ev_tuple (ev_binop (ev_str ?_))))))
  refine ev_slice (ev_name m2 (ev_int ⟨_, rfl, sl_str (sliceT_from (i := 1) (by omega)) (by rw [List.length_drop]; unfold sizeLine; omega) ?_⟩))
  have hd1 : (lr.drop 1).length ≤ 3270 := by rw [List.length_drop]; omega
  rw [show PySem.Str.ofString "zz" = T [122, 122] by kernel_rfl]
  refine op_cat (by rw [T_len, T_len, show ([122, 122] : List Nat).length = 2 from rfl]; unfold sizeLine; omega) ?_
  rw [T_append]
  refine ev_int (ev_tuple (ev_str (ev_int ?_)))
  refine ev_tuple (ev_binop (ev_str (ev_binop (ev_str (ev_int ?_)))))
  refine op_mulstr mul7ok ?_
  rw [mul7]
  refine op_cat ?_ ?_
  · rw [show (PySem.Str.ofString "z 1: ").length = 5 by kernel_rfl, T_len, List.length_replicate]; decide
  refine ev_int ?_
  refine ev_tuple (ev_binop (ev_str (ev_binop (ev_str (ev_int ?_)))))
  refine op_mulstr mul7ok ?_
  rw [mul7]
  refine op_cat ?_ ?_
  · rw [show (PySem.Str.ofString "z 1: -").length = 6 by kernel_rfl, T_len, List.length_replicate]; decide
  refine ev_int ?_
  intro R2 hR2
  have i2 : R2 ≠ R1 := fun z => by rw [z, upd_same] at hR2; cases hR2
  refine op_lists (by rw [upd_ne _ _ (Ne.symm i2)]; exact upd_same _ _ _) (upd_same _ _ _) (by unfold sizeLine; simp) fun R3 hR3 => ⟨_, .nx (.nx (.nx (.nx (.nx .hr)))), ?_⟩
  refine ss_forget (fun p hp => hp) (sub_upd (.trans (sub_new _ hR1) (sub_new _ hR2)) R3 _) ?_
  have j3 : τ0 R3 = none := sub_none (.trans (sub_new _ hR1) (sub_new _ hR2)) hR3
  refine ss_let (ev_binop (ev_name m5 (ev_list ?_)))
  refine ev_tuple (ev_str (ev_int (ev_tuple (ev_str (ev_int (ev_tuple (ev_str (ev_int (ev_tuple (ev_str (ev_int (ev_tuple (ev_str (ev_int (ev_tuple (ev_str (ev_int (fun R5 hR5 => ?_))))))))))))))))))
  have i5 : R3 ≠ R5 := fun z => by rw [← z, upd_same] at hR5; cases hR5
  refine op_lists (by rw [upd_ne _ _ i5]; exact upd_same _ _ _) (upd_same _ _ _) (by unfold sizeLine; simp) fun R6 hR6 => ⟨_, .nx (.nx (.nx (.nx (.nx .hr)))), ?_⟩
  refine ss_forget (fun p hp => hp) (sub_upd (.trans (sub_new _ j3) (sub_new _ hR5)) R6 _) ?_
  have j6 : τ0 R6 = none := sub_none (.trans (sub_new _ j3) (sub_new _ hR5)) hR6
  -- the pick
  have hi58 : (58 :: itemsL (qs ++ [q])).length ≤ 3270 := by rw [← hdr]; exact hdrl
  have k1 : R6 ≠ p := after_none (gsub _ _ (fp s' t')) (.refl _) j6
  have k2 : R6 ≠ D := after_none (gsub _ _ (fD s' t')) (.refl _) j6
  have k3 : R6 ≠ L + 1 := after_none (gsub _ _ (f1 s' t')) (.refl _) j6
  refine ss_tuple (ev_call (ev_glob P.g_law_pick ⟨_, rfl, ev_cell (a := L + 1) rfl (by rw [upd_ne _ _ (Ne.symm k3)]; exact gsub _ _ (f1 s' t')) (ev_name m5 ⟨kK P.k_law_pick, ?_⟩)⟩) ff.handled)
  refine (pick_c (n := n + 13) P (D := D) (s := s') (t := t') (is := is) (by rw [upd_ne _ _ (Ne.symm k1)]; exact gsub _ _ (fp s' t')) (by rw [upd_ne _ _ (Ne.symm k2)]; exact gsub _ _ (fD s' t')) hz (by omega) (by omega) y3 (upd_same _ _ _) k1 (of_decide_eq_true rfl) (of_decide_eq_true rfl) fun e s'' t'' b1 b2 b3 b4 => ?_).call
  obtain ⟨w, v, rfl, hw, hwl⟩ : ∃ w v, e = .tup [.str (T w), .int v] ∧ WrongOk w v ∧ w.length ≤ 4000 := by
    simp only [List.cons_append, List.nil_append, List.mem_cons, List.not_mem_nil, or_false] at b1
    rcases b1 with rfl | rfl | rfl | rfl | rfl | rfl | rfl | rfl | rfl | rfl | rfl | rfl
    · refine ⟨_, _, rfl, ?_, ?_⟩
      · have := wrong1 (ps := qs ++ [q]) (by omega) hps
        rw [hLr] at this
        exact this
      · have e9 := dg (qs.length + [q].length + 1) (by simp; omega)
        rw [List.length_cons, List.length_cons, List.length_append]; omega
    · refine ⟨_, _, rfl, ?_, ?_⟩
      · have := wrong2 (ps := qs) (p := q) (by omega) hps
        rw [hLq] at this
        exact this
      · rw [List.length_cons, List.length_cons, List.length_append]; omega
    · refine ⟨_, _, rfl, ?_, ?_⟩
      · have := wrong3 (ps := qs ++ [q])
        rw [hLr] at this
        exact this
      · rw [List.length_cons, List.length_cons]; omega
    · exact ⟨_, _, by kernel_rfl, wrong4, by decide⟩
    · exact ⟨_, _, by rw [show PySem.Str.ofString "z 1: " = T [122, 32, 49, 58, 32] by kernel_rfl, T_append], wrong5, by rw [List.length_append, List.length_replicate]; decide⟩
    · exact ⟨_, _, by rw [show PySem.Str.ofString "z 1: -" = T [122, 32, 49, 58, 32, 45] by kernel_rfl, T_append], wrong6, by rw [List.length_append, List.length_replicate]; decide⟩
    · exact ⟨_, _, by kernel_rfl, wrong7, by decide⟩
    · exact ⟨_, _, by kernel_rfl, wrong8, by decide⟩
    · exact ⟨_, _, by kernel_rfl, wrong9, by decide⟩
    · exact ⟨_, _, by kernel_rfl, wrong10, by decide⟩
    · exact ⟨_, _, by kernel_rfl, wrong11, by decide⟩
    · exact ⟨_, _, by kernel_rfl, wrong12, by decide⟩
  refine as_tuple ff.handled (as_name (.nx (.nx (.nx (.nx (.nx (.nx .nil)))))) (as_name (.nx (.nx (.nx (.nx (.nx (.nx (.nx .nil))))))) ?_))
  have fin : Sub (upd σ1 p (penO D s'' t'')) (upd (upd σ1 p (penO D s' t')) p (penO D s'' t'')) := by rw [up]; exact .refl _
  refine ss_forget (fun p hp => hp) (.trans fin (sub_upd (.trans gsub (sub_new _ j6)) p _)) ?_
  obtain ⟨t0, hIT, hv, ht0⟩ := hw
  -- the first place
  refine ss_if (b_cmp (ev_call (ev_glob P.g_law_place ⟨_, rfl, ev_binop (ev_binop (ev_str (ev_name m6 ?_)))⟩) ff.handled))
  rw [show PySem.Str.ofString "head 1\n" = T (headL ++ [10]) by kernel_rfl]
  have h7 : (headL ++ [10]).length = 7 := rfl
  have he : (10 :: endr).length = 7 := rfl
  refine op_cat (by rw [T_len, T_len, h7]; unfold sizeLine; omega) (ev_str ?_)
  rw [show PySem.Str.ofString "\nend 3\n" = T (10 :: endr) by kernel_rfl, T_append]
  refine op_cat (by rw [T_len, T_len, List.length_append, h7, he]; unfold sizeLine; omega) ?_
  rw [T_append]
  refine ev_lam [] P.h_442 (fP s'' t'') trivial rfl fun f c' pm ctv τ2 g1 g2 g3 g4 => ⟨kK P.k_law_place, ?_⟩
  have hlen : (headL ++ [10] ++ w ++ 10 :: endr).length = 7 + w.length + 7 := by rw [List.length_append, List.length_append, h7, he]
  have hne : ((((headL ++ [10] ++ w ++ 10 :: endr : List Nat).length - t0.length : Nat) : Int) != 7 + v) = false := by
    rw [hlen, hv]
    simp only [bne_eq_false_iff_eq]
    omega
  refine (wrong_place (n := n) P (w := w ++ 10 :: endr) (v := (((headL ++ [10] ++ w ++ 10 :: endr : List Nat).length - t0.length : Nat) : Int)) (by rw [hlen]; omega) (by simp) hIT rfl g1 g2 (fun L A' r σ1 Ψ Y ff ⟨dr, x, nl, hr⟩ hc => ?_) (fun v => rfl) rfl rfl rfl rfl rfl ?_).call
  · refine ev_nmeth m0 hr P.m_LineReader_items ff.handled (ev_str ?_)
    exact hc.call
  refine ev_binop (ev_int (ev_name m7 (op_add (cmp_ne ?_))))
  rw [hne]
  -- the second
  refine ss_nil (ss_let (ev_str ⟨_, .nx (.nx (.nx (.nx (.nx (.nx (.nx (.nx .nil))))))), ?_⟩))
  have htx : PySem.Str.ofString "head 1\nz 1: \"ab\nend 3\n" = T (headL ++ 10 :: [122, 32, 49, 58, 32, 34, 97, 98, 10, 101, 110, 100, 32, 51, 10]) := by kernel_rfl
  rw [htx]
  refine ss_ret (ev_cmp (ev_call (ev_glob P.g_law_place ⟨_, rfl, ev_name m8 ?_⟩) ff.handled))
  refine ev_lam [] P.h_442 g3 trivial rfl fun f2 c2 pm2 ctv2 τ3 g5 g6 g7 g8 => ⟨kK P.k_law_place, ?_⟩
  refine (wrong_place (n := n) P (v := 22) (by decide) rfl wrongQ rfl g5 g6 (fun L A' r σ1 Ψ Y ff ⟨dr, x, nl, hr⟩ hc => ?_) (fun v => rfl) rfl rfl rfl rfl rfl ?_).call
  · refine ev_nmeth m0 hr P.m_LineReader_items ff.handled (ev_str ?_)
    exact hc.call
  refine ev_call (ev_builtin P.b_len rfl ⟨_, rfl, ev_name m8 ⟨kB, c_len_str (by rw [T_len]; decide) (cmp_eq ?_)⟩⟩) ff.handled
  rw [T_len, show ((22 : Int) == (((headL ++ 10 :: [122, 32, 49, 58, 32, 34, 97, 98, 10, 101, 110, 100, 32, 51, 10] : List Nat).length : Nat) : Int)) = true from rfl]
  exact ⟨_, .refl _, h τ3 s'' t'' (fun a o e h1 h2 => g8 _ _ (g4 _ _ (keep _ _ _ _ e h1) h2) h2) (g8 _ _ (g4 _ _ (fp _ _) hpP) hpP) (by omega) (by omega) b4 ⟨_, g7⟩⟩
end
end Mine
end B23
section B24
open PySem PySem.W PySem.Calls PyProof.Rows PySem.Challenge
set_option maxRecDepth 100000
set_option linter.unusedVariables false
set_option exponentiation.threshold 2000
namespace Mine

noncomputable abbrev fmR (L : Addr) (A' : Around) (n : Nat) : Fm := ⟨envF (fnScope (topSt 31)) L "_law_rules_hold" 455 (.ref 454) [("most", L + 1 + 1 + 1 + 1 + 1), ("many", L + 1 + 1 + 1 + 1), ("low", L + 1 + 1 + 1), ("some", L + 1 + 1), ("pen", L + 1)], A', n, 0⟩

section
variable {c : Cx} {fm : Fm} {loc : Loc} {n m : Nat} {σ : Sto} {Φ : NPr} {X : CXPr} {p D : Addr} {s t : Int} {is : List Int}

theorem eqv_nilG (ps : List PV) : PyData.eqvAll (dats ps) (dats []) = ps.isEmpty := by
  cases ps with
  | nil => simp [dats, PyData.eqvAll]
  | cons a r => simp [dats, PyData.eqvAll]
theorem in_two (many : Option Int) (k : Int) : ((dats [.k .none, .int k]).any fun y => PyData.eqv y (oi many).dat) = many.all (fun b => decide (k = b)) := by
  cases many with
  | none => rfl
  | some b => simp [dats, oi, PV.dat, PyData.eqv]; exact Bool.beq_eq_decide_eq k b

theorem okDs_snoc {k : Nat} {ps : List PV} {p : PV} (h : okDs k ps = true) (hp : p.okD k = true) : okDs k (ps ++ [p]) = true := by
  rw [okDs_all] at h ⊢
  rw [List.all_append, h]
  simp [hp]
inductive LetI (l : List Nat) (lo hi many : Option Int) (ps : List PV) (τ : Sto) (k : Nat) (lo' : Loc) (τ' : Sto) : Prop
  | mk (a : k ≤ ps.length) (e : lo' = ([("text", .str (T l)), ("behind", .int (l.length - 6 : Nat)), ("is_let", .k (.bool (many.all (fun b => decide ((ps.length : Int) = b)) && (ps.take k).all (numOk lo hi))))] : Loc)) (q : τ' = τ)
theorem rules_tail (P : PK c) {L : Addr} {A' : Around} {τ : Sto} {S : Addr} {ps : List PV} {l : List Nat} {lo hi many : Option Int} (ff : FF (fmR L A' (n + 17)))
    (hS : τ S = some (.list ps)) (c2 : τ (L + 1 + 1) = some (.cell (some (.k (.ref S))))) (c3 : τ (L + 1 + 1 + 1) = some (.cell (some (oi lo)))) (c4 : τ (L + 1 + 1 + 1 + 1) = some (.cell (some (oi many)))) (c5 : τ (L + 1 + 1 + 1 + 1 + 1) = some (.cell (some (oi hi))))
    (hP : τ 452 = some (.tab #[])) (hps : ∀ p ∈ ps, p.okI 2 = true) (hpd : okDs 2 ps = true) (hn : ps.length ≤ 100) (hl : l.length < 2 ^ 19) (hT : l = headL ++ 10 :: (lineL [122] ps ++ 10 :: endr))
    (h : ∀ τx, (∃ ps, τx 452 = some (.tab ps)) → (∀ a o, τ a = some o → a ≠ 452 → τx a = some o) → Φ (.k (.bool true)) τx) (N : NXt) :
    SS c (fmR L A' (n + 17)) ((fnBody (topSt 31)).drop 4) [("text", .str (T l)), ("behind", .int (l.length - 6 : Nat))] τ N (UpR Φ) (UpX X) := by
  have hpl : ∀ p ∈ ps, p.plain = true := fun p hp => okI_plain (hps p hp)
  have hD7 : l.drop 7 = lineL [122] ps ++ 10 :: endr := by rw [hT, show headL ++ 10 :: (lineL [122] ps ++ 10 :: endr) = (headL ++ [10]) ++ (lineL [122] ps ++ 10 :: endr) by simp, List.drop_left' (by rfl)]
  have hIT : IT [122] (l.drop 7) (.ok ps endr) := by rw [hD7]; exact IT_line hn hps
  have hl14 : 14 ≤ l.length := by rw [hT]; simp [headL, endr]
  -- is_let
  refine ss_let (ev_cmp (ev_cell (a := L + 1 + 1 + 1 + 1) rfl c4 (ev_tuple (ev_none (ev_call (ev_builtin P.b_len rfl ⟨_, rfl, ev_cell (a := L + 1 + 1) rfl c2 ⟨kB, c_len_list hS (by omega) (cmp_int (k := 2) (by decide) (by rfl) (by cases many <;> rfl) ⟨_, .nx (.nx .nil), ?_⟩)⟩⟩) ff.handled)))))
  rw [in_two]
  refine ss_for ff (LetI l lo hi many ps τ) ?_
  refine ev_cell (a := L + 1 + 1) rfl c2 ⟨_, _, _, src_list hS, trivial, ⟨Nat.zero_le _, ?_, rfl⟩, fun _ _ _ ⟨_, _, h⟩ => by rw [h]; exact hS, ?_, ?_⟩
  · rw [List.take_zero, List.all_nil, Bool.and_true]
  · rintro k q lo' τ' hq ⟨hk, rfl, rfl⟩
    have hkl := (List.getElem?_eq_some_iff.mp hq).1
    have hpq : q.plain = true := hpl q (List.mem_of_getElem? hq)
    have hall : (ps.take (k + 1)).all (numOk lo hi) = ((ps.take k).all (numOk lo hi) && numOk lo hi q) := by
      rw [List.take_add_one, List.all_append, hq]
      simp
    refine as_name (.nx (.nx (.nx .nil))) ?_
    have done : ∀ b, b = (many.all (fun b => decide ((ps.length : Int) = b)) && (ps.take (k + 1)).all (numOk lo hi)) → LetP c (fmR L A' (n + 17)) "is_let" [] [("text", .str (T l)), ("behind", .int (l.length - 6 : Nat)), ("is_let", .k (.bool (many.all (fun b => decide ((ps.length : Int) = b)) && (ps.take k).all (numOk lo hi)))), ("one", q)]
          (TurnN (LetI l lo hi many ps τ') (k + 1)) (UpR Φ) (UpX X) (.k (.bool b)) τ' := fun b e => ⟨_, .nx (.nx .hr), ss_nil ⟨_, _, fun p hp => List.mem_of_mem_take (i := 3) hp, .refl _, by omega, by subst e; rfl, rfl⟩⟩
    refine ss_let (ev_and (ev_name m2 ⟨_, rfl, ?_⟩))
    cases hAB : (many.all (fun b => decide ((ps.length : Int) = b)) && (ps.take k).all (numOk lo hi)) with
    | false =>
      rw [hAB] at done
      exact done false (by rw [hall, ← Bool.and_assoc, hAB]; rfl)
    | true =>
      rw [hAB] at done
      have done1 := fun b (e : b = numOk lo hi q) => done b (by rw [hall, ← Bool.and_assoc, hAB, Bool.true_and]; exact e)
      refine ev_and (ev_call (ev_builtin P.b_isinstance rfl ⟨_, rfl, ev_name m3 (ev_builtin P.b_int rfl ⟨kB, c_isi_int hpq ⟨_, rfl, ?_⟩⟩)⟩) ff.handled)
      cases q with
      | int a =>
        have nOk : numOk lo hi (.int a) = (lo.all (fun b => decide (b ≤ a)) && hi.all (fun b => decide (a ≤ b))) := rfl
        refine ev_and (ev_or (ev_cmp (ev_cell (a := L + 1 + 1 + 1) rfl c3 (ev_none (cmp_is ⟨_, rfl, ?_⟩)))))
        rw [oi_none]
        cases lo with
        | none =>
          have done2 := fun b (e : b = hi.all (fun b => decide (a ≤ b))) => done1 b e
          refine ⟨_, rfl, ?_⟩
          refine ev_one (ev_or (ev_cmp (ev_cell (a := L + 1 + 1 + 1 + 1 + 1) rfl c5 (ev_none (cmp_is ⟨_, rfl, ?_⟩)))))
          rw [oi_none]
          cases hi with
          | none => exact done2 true rfl
          | some u => exact ev_one (ev_cmp (ev_name m3 (ev_cell (a := L + 1 + 1 + 1 + 1 + 1) rfl c5 (cmp_le (done2 _ rfl)))))
        | some u =>
          refine ev_one (ev_cmp (ev_name m3 (ev_cell (a := L + 1 + 1 + 1) rfl c3 (cmp_ge ⟨_, rfl, ?_⟩))))
          cases e1 : decide (u ≤ a) with
          | true =>
            have done2 := fun b (e : b = hi.all (fun b => decide (a ≤ b))) => done1 b (by show b = (decide (u ≤ a) && _); rw [e1]; exact e)
            refine ev_one (ev_or (ev_cmp (ev_cell (a := L + 1 + 1 + 1 + 1 + 1) rfl c5 (ev_none (cmp_is ⟨_, rfl, ?_⟩)))))
            rw [oi_none]
            cases hi with
            | none => exact done2 true rfl
            | some v => exact ev_one (ev_cmp (ev_name m3 (ev_cell (a := L + 1 + 1 + 1 + 1 + 1) rfl c5 (cmp_le (done2 _ rfl)))))
          | false => exact done1 false (by show false = (decide (u ≤ a) && _); rw [e1]; rfl)
      | _ => exact done1 false rfl
  · rintro lo' τ' ⟨_, rfl, rfl⟩
    rw [List.take_length]
    show SS c _ _ [("text", .str (T l)), ("behind", .int (l.length - 6 : Nat)), ("is_let", .k (.bool (numsOk lo hi many ps)))] τ' _ _ _
    have h6 : (l.length - endr.length : Nat) = l.length - 6 := rfl
    have hlx : (7 : Nat) ≤ l.length := by omega
    -- numbers
    refine ss_if (b_cmp (ev_call (ev_glob P.g_law_place ⟨_, rfl, ev_name m0 ?_⟩) ff.handled))
    refine ev_lam [("most", L + 1 + 1 + 1 + 1 + 1), ("many", L + 1 + 1 + 1 + 1), ("low", L + 1 + 1 + 1)] P.h_454 hP trivial rfl fun f c' pm ctv τ2 g1 g2 g3 g4 => ⟨kK P.k_law_place, ?_⟩
    have d452 : ∀ {a : Addr} {v : Option PV}, τ' a = some (.cell v) → a ≠ 452 := fun {a v} e q => by rw [q, hP] at e; cases e
    have dS : S ≠ 452 := fun q => by rw [q, hP] at hS; cases hS
    refine (place_c (n := n + 8) P (rest := lineL [122] ps ++ 10 :: endr) (v := if numsOk lo hi many ps then -1 else ((l.length - 6 : Nat) : Int)) (by omega) hT (fun τ hs => .inr (.inr (.inr ⟨f, _, rfl, hs _ _ g1⟩))) (fun r x dr dx σ1 hs1 hr hx1 => ?_) ?_).call
    · refine (call_lam (n := n + 15) (x := "reader") (hs1 _ _ g1) (hs1 _ _ g2) (fun L' A2 hL2 ff2 => ?_) (fun v => rfl)).call
      refine ev_nmeth m0 hr P.m_LineReader_numbers ff2.handled (ev_str (ev_free (a := L + 1 + 1 + 1) rfl (hs1 _ _ (g4 _ _ c3 (d452 c3))) (ev_free (a := L + 1 + 1 + 1 + 1 + 1) rfl (hs1 _ _ (g4 _ _ c5 (d452 c5))) (ev_free (a := L + 1 + 1 + 1 + 1) rfl (hs1 _ _ (g4 _ _ c4 (d452 c4))) ?_))))
      rw [show PySem.Str.ofString "z" = T [122] by kernel_rfl]
      refine (rd_numbers (m := n + 1) (res := .ok ps endr) P hr hx1 (by omega) hlx (by decide) hIT (fun ps' t e => by cases e; exact hpl) (fun ps' t j S' e hk D h1 h2 hS' => ⟨_, .refl _, ?_, ?_⟩) fun t fs τ e he hk => ⟨τ, .refl _, rfl, ⟨l.length - t.length, ?_, he⟩, hk⟩).call
      · cases e; rw [if_pos hk]
      · exact .trans .ln (.new (ln_none hr hx1 hS'))
      · rcases e with e | ⟨ps', e, hk⟩
        · cases e
        · cases e; rw [if_neg (by rw [hk]; decide)]; rfl
    refine ev_ifexp (b_val (ev_name m2 ⟨_, rfl, ?_⟩))
    have nx1 : ∀ {N : NXt} (b : PV), SS c (fmR L A' (n + 17)) ((fnBody (topSt 31)).drop 7) [("text", .str (T l)), ("behind", .int (l.length - 6 : Nat)), ("is_let", b)] τ2 N (UpR Φ) (UpX X) := by
      intro N b
      have hS2 := g4 _ _ hS dS
      have c22 := g4 _ _ c2 (d452 c2)
      refine ss_let (ev_cmp (ev_comp [("some", L + 1 + 1)] (ei_enum P.b_enumerate (ev_cell (a := L + 1 + 1) rfl c22 ⟨S, ps, rfl, hS2, fun i acc τ => acc.isEmpty = (List.range i).all (txtOk ps) ∧ okDs 2 acc = true ∧ Sub τ2 τ, ⟨rfl, by unfold okDs; rfl, .refl _⟩, ?_, ?_⟩)) ff.handled))
      · refine ⟨⟨_, _, _, rfl⟩, by rw [enumPV_len]; unfold sizeLine; omega, fun _ _ _ h => h.2.2 _ _ hS2, ?_⟩
        rintro C i q acc τ3 hq ⟨i1, i2, i3⟩
        obtain ⟨p, hp, rfl⟩ := enumPV_get hq
        have hi := (List.getElem?_eq_some_iff.mp hp).1
        have hpp := List.mem_of_getElem? hp
        have hpd1 : p.okD 2 = true := okDs_get hpd hp
        have rng : (List.range (i + 1)).all (txtOk ps) = ((List.range i).all (txtOk ps) && txtOk ps i) := by rw [List.range_succ, List.all_append]; simp
        have bad : txtOk ps i = false → (acc ++ [p]).isEmpty = (List.range (i + 1)).all (txtOk ps) := fun z => by rw [rng, z, Bool.and_false]; simp
        refine as_tuple ff.handled (as_name .nil (as_name (.nx .nil) ?_))
        refine b_bool (b_not (b_val (ev_call (ev_builtin P.b_isinstance rfl ⟨_, rfl, ev_name m1 (ev_builtin P.b_str rfl ⟨kB, c_isi_str (hpl p hpp) ⟨_, rfl, ?_⟩⟩)⟩) ff.handled)))
        cases p with
        | str sx =>
          refine b_cmp (ev_name m1 (ev_slice (ev_cell (a := L + 1 + 1) rfl (i3 _ _ c22) (ev_name m0 ⟨_, rfl, sl_list (i3 _ _ hS2) (by unfold sizeLine; omega) fun b hb => ?_⟩))))
          rw [show ((ps.drop ((none : Option Int).elim 0 (clipAt ps.length))).take ((some (i : Int)).elim ps.length (clipAt ps.length) - (none : Option Int).elim 0 (clipAt ps.length))) = ps.take i by
            show (ps.drop 0).take (clipAt ps.length (i : Int) - 0) = _
            rw [clip_nat (by omega)]; rfl]
          refine cmp_inl (k := 2) (by decide) (upd_same _ _ _) (okDs_take i hpd) hpd1 ?_
          have ht : txtOk ps i = !((dats (ps.take i)).any fun y => PyData.eqv y (PV.str sx).dat) := by unfold txtOk; rw [hp]
          cases hc : (dats (ps.take i)).any fun y => PyData.eqv y (PV.str sx).dat with
          | true => exact ev_name m1 ⟨_, .refl _, bad (by rw [ht, hc]; rfl), okDs_snoc i2 hpd1, .trans i3 (sub_new _ hb)⟩
          | false => exact ⟨_, .refl _, by rw [rng, ht, hc, i1]; simp, i2, .trans i3 (sub_new _ hb)⟩
        | _ => exact ev_name m1 ⟨_, .refl _, bad (by unfold txtOk; rw [hp]), okDs_snoc i2 hpd1, i3⟩
      rintro D acc τ3 ⟨i1, i2, i3⟩ hD
      rw [enumPV_len] at i1
      refine ev_list fun E2 hE2 => ?_
      have hne2 : D ≠ E2 := fun z => by rw [← z, upd_same] at hE2; cases hE2
      refine cmp_eql (k := 2) (by decide) (by rw [upd_ne _ _ hne2]; exact upd_same _ _ _) (upd_same _ _ _) i2 (by unfold okDs; rfl) ⟨_, .nx (.nx .hr), ss_forget (fun p hp => hp) (.trans i3 (.trans (sub_new _ hD) (sub_new _ hE2))) ?_⟩
      rw [eqv_nilG, i1]
      show SS c _ _ [("text", .str (T l)), ("behind", .int (l.length - 6 : Nat)), ("is_let", .k (.bool (txtsOk ps)))] τ2 _ _ _
      -- texts
      refine ss_if (b_cmp (ev_call (ev_glob P.g_law_place ⟨_, rfl, ev_name m0 ?_⟩) ff.handled))
      refine ev_lam [] P.h_454 g3 trivial rfl fun f3 c3' pm3 ctv3 τ4 k1 k2 k3 k4 => ⟨kK P.k_law_place, ?_⟩
      have e452 : ∀ {a : Addr} {v : Option PV}, τ2 a = some (.cell v) → a ≠ 452 := fun {a v} e q => by rw [q, g3] at e; cases e
      refine (place_c (n := n + 8) P (rest := lineL [122] ps ++ 10 :: endr) (v := if txtsOk ps then -1 else ((l.length - 6 : Nat) : Int)) (by omega) hT (fun τ hs => .inr (.inr (.inr ⟨f3, _, rfl, hs _ _ k1⟩))) (fun r x dr dx σ1 hs1 hr hx1 => ?_) ?_).call
      · refine (call_lam (n := n + 15) (x := "reader") (hs1 _ _ k1) (hs1 _ _ k2) (fun L' A2 hL2 ff2 => ?_) (fun v => rfl)).call
        refine ev_nmeth m0 hr P.m_LineReader_texts ff2.handled (ev_str ?_)
        rw [show PySem.Str.ofString "z" = T [122] by kernel_rfl]
        refine (rd_texts (m := n + 1) (z := 2) (res := .ok ps endr) P hr hx1 (by omega) hlx (by decide) hIT (by decide) (fun ps' t e => by cases e; exact hpd) (fun ps' t j S' e hk D h1 h2 hS' => ⟨_, .refl _, ?_, ?_⟩) fun t fs τ e he hk => ⟨τ, .refl _, rfl, ⟨l.length - t.length, ?_, he⟩, hk⟩).call
        · cases e; rw [if_pos hk]
        · exact .trans .ln (.new (ln_none hr hx1 hS'))
        · rcases e with e | ⟨ps', e, hk⟩
          · cases e
          · cases e; rw [if_neg (by rw [hk]; decide)]; rfl
      refine ev_ifexp (b_val (ev_name m2 ⟨_, rfl, ?_⟩))
      have nx2 : ∀ {N : NXt} (b : PV), SS c (fmR L A' (n + 17)) ((fnBody (topSt 31)).drop 9) [("text", .str (T l)), ("behind", .int (l.length - 6 : Nat)), ("is_let", b)] τ4 N (UpR Φ) (UpX X) := by
        intro N b
        have hS4 := k4 _ _ hS2 (fun q => by rw [q, g3] at hS2; cases hS2)
        have c24 := k4 _ _ c22 (e452 c22)
        have last : ∀ {N : NXt} (b1 : Bool), b1 = numsOk (some 0) (some 3) (some 1) ps → SS c (fmR L A' (n + 17)) ((fnBody (topSt 31)).drop 10) [("text", .str (T l)), ("behind", .int (l.length - 6 : Nat)), ("is_let", b), ("is_one", .k (.bool b1))] τ4 N (UpR Φ) (UpX X) := by
          intro N b1 hb1
          subst hb1
          refine ss_ret (ev_cmp (ev_call (ev_glob P.g_law_place ⟨_, rfl, ev_name m0 ?_⟩) ff.handled))
          refine ev_lam [] P.h_454 k3 trivial rfl fun f5 c5' pm5 ctv5 τ6 q1 q2 q3 q4 => ⟨kK P.k_law_place, ?_⟩
          refine (place_c (n := n + 8) P (rest := lineL [122] ps ++ 10 :: endr) (v := if numsOk (some 0) (some 3) (some 1) ps then -1 else ((l.length - 6 : Nat) : Int)) (by omega) hT (fun τ hs => .inr (.inr (.inr ⟨f5, _, rfl, hs _ _ q1⟩))) (fun r x dr dx σ1 hs1 hr hx1 => ?_) ?_).call
          · refine (call_lam (n := n + 15) (x := "reader") (hs1 _ _ q1) (hs1 _ _ q2) (fun L' A2 hL2 ff2 => ?_) (fun v => rfl)).call
            refine ev_nmeth m0 hr P.m_LineReader_one ff2.handled (ev_str (ev_int (ev_int ?_)))
            rw [show PySem.Str.ofString "z" = T [122] by kernel_rfl]
            refine (rd_one (m := n) (res := .ok ps endr) P hr hx1 (by omega) hlx (by decide) hIT (fun ps' t e => by cases e; exact hpl) (fun p' t τ e hk hkp => ⟨_, .refl _, ?_, hkp⟩) fun t fs τ e he hk => ⟨τ, .refl _, rfl, ⟨l.length - t.length, ?_, he⟩, hk⟩).call
            · cases e; rw [if_pos hk]
            · rcases e with e | ⟨ps', e, hk⟩
              · cases e
              · cases e; rw [if_neg (by rw [hk]; decide)]; rfl
          refine ev_ifexp (b_val (ev_name m3 ⟨_, rfl, ?_⟩))
          cases hnk2 : numsOk (some 0) (some 3) (some 1) ps with
          | true =>
            refine ev_unop (ev_int (op_neg (cmp_eq ?_)))
            exact ⟨_, .refl _, h _ ⟨_, q3⟩ fun a o e hne => q4 _ _ (k4 _ _ (g4 _ _ e hne) hne) hne⟩
          | false =>
            refine ev_name m1 (cmp_eq ?_)
            rw [if_neg (by decide), beq_self_eq_true]
            exact ⟨_, .refl _, h _ ⟨_, q3⟩ fun a o e hne => q4 _ _ (k4 _ _ (g4 _ _ e hne) hne) hne⟩
        refine ss_let (ev_and (ev_cmp (ev_call (ev_builtin P.b_len rfl ⟨_, rfl, ev_cell (a := L + 1 + 1) rfl c24 ⟨kB, c_len_list hS4 (by omega) (ev_int (cmp_eq ⟨_, rfl, ?_⟩))⟩⟩) ff.handled)))
        by_cases h1 : (ps.length : Int) = 1
        · rw [show ((ps.length : Int) == 1) = true by simp [h1]]
          obtain ⟨q, rfl⟩ : ∃ q, ps = [q] := by
            cases ps with
            | nil => simp at h1
            | cons q r =>
              cases r with
              | nil => exact ⟨q, rfl⟩
              | cons a b => simp at h1; omega
          have hno : numsOk (some 0) (some 3) (some 1) [q] = numOk (some 0) (some 3) q := by
            unfold numsOk
            simp
          rw [hno] at last
          refine ev_and (ev_call (ev_builtin P.b_isinstance rfl ⟨_, rfl, ev_item (ev_cell (a := L + 1 + 1) rfl c24 (ev_int (it_list hS4 (by decide) (by decide) rfl (ev_builtin P.b_int rfl ⟨kB, c_isi_int (hpl q (.head _)) ⟨_, rfl, ?_⟩⟩))))⟩) ff.handled)
          cases q with
          | int a =>
            refine ev_one (ev_chain (ev_int (ev_item (ev_cell (a := L + 1 + 1) rfl c24 (ev_int (it_list hS4 (by decide) (by decide) rfl (cmp_le ?_)))))))
            cases e1 : decide ((0 : Int) ≤ a) with
            | false => exact ⟨_, .nx (.nx (.nx .nil)), last _ (by show false = (decide ((0 : Int) ≤ a) && _); rw [e1]; rfl)⟩
            | true => exact ev_int (cmp_le ⟨_, .nx (.nx (.nx .nil)), last _ (by show decide (a ≤ 3) = (decide ((0 : Int) ≤ a) && decide (a ≤ 3)); rw [e1]; rfl)⟩)
          | _ => exact ⟨_, .nx (.nx (.nx .nil)), last _ rfl⟩
        · rw [show ((ps.length : Int) == 1) = false by simp [h1]]
          exact ⟨_, .nx (.nx (.nx .nil)), last _ (by unfold numsOk; simp [h1])⟩
      cases hnt : txtsOk ps with
      | true =>
        refine ev_unop (ev_int (op_neg (cmp_ne ?_)))
        exact ss_nil (nx2 _)
      | false =>
        refine ev_name m1 (cmp_ne ?_)
        rw [if_neg (by decide), bne_self_eq_false]
        exact ss_nil (nx2 _)
    cases hnk : numsOk lo hi many ps with
    | true =>
      refine ev_unop (ev_int (op_neg (cmp_ne ?_)))
      exact ss_nil (nx1 _)
    | false =>
      refine ev_name m1 (cmp_ne ?_)
      rw [if_neg (by decide), bne_self_eq_false]
      exact ss_nil (nx1 _)
end
end Mine
end B24
section B25
open PySem PySem.W PySem.Calls PyProof.Rows PySem.Challenge
set_option maxRecDepth 100000
set_option linter.unusedVariables false
set_option exponentiation.threshold 2000
namespace Mine

noncomputable def okR (p : PV) : Prop := p.okI 2 = true ∧ p.okD 2 = true ∧ 101 ∉ shL p
theorem itemsL_101 : ∀ {ps : List PV}, (∀ p ∈ ps, okR p) → 101 ∉ itemsL ps
  | [], _, q => nomatch q
  | p :: r, h, q => by
    have q : 101 ∈ 32 :: (shL p ++ itemsL r) := q
    rcases List.mem_cons.mp q with q | q
    · cases q
    · rcases List.mem_append.mp q with q | q
      · exact (h p (.head _)).2.2 q
      · exact itemsL_101 (fun x hx => h x (.tail _ hx)) q
theorem line_101 {ps : List PV} (h : ∀ p ∈ ps, okR p) : 101 ∉ lineL [122] ps := fun q => by
  rw [lineL_eq] at q
  rcases List.mem_append.mp q with q | q
  · simp at q
  · rcases List.mem_append.mp q with q | q
    · have := digs_digit q; omega
    · rcases List.mem_cons.mp q with q | q
      · cases q
      · exact itemsL_101 h q
theorem behind_at {ln : List Nat} (h : 101 ∉ ln) : ∃ rest, Builtin.Str.occurrences (T ((headL ++ 10 :: (ln ++ [10])) ++ ([101, 110, 100, 32, 51] ++ [10]))) (T [101, 110, 100, 32, 51]) 0 (T ((headL ++ 10 :: (ln ++ [10])) ++ ([101, 110, 100, 32, 51] ++ [10]))).length 1 = (headL ++ 10 :: (ln ++ [10])).length :: rest := by
  refine index_T fun j hj q => ?_
  have g : ∀ m, m < 5 → ((headL ++ 10 :: (ln ++ [10])) ++ ([101, 110, 100, 32, 51] ++ [10]))[j + m]? = ([101, 110, 100, 32, 51] : List Nat)[m]? := fun m hm => by
    have e := congrArg (·[m]?) q
    simp only [List.getElem?_take, List.getElem?_drop] at e
    rw [if_pos (show m < ([101, 110, 100, 32, 51] : List Nat).length from hm)] at e
    exact e
  have g0 := g 0 (by decide)
  rw [Nat.add_zero, List.getElem?_append_left hj] at g0
  have hj6 : j < 6 := by
    rcases Nat.lt_or_ge j 6 with z | z
    · exact z
    · exfalso
      rw [List.getElem?_append_right z] at g0
      have := List.mem_of_getElem? g0
      rcases List.mem_cons.mp this with z | z
      · cases z
      · rcases List.mem_append.mp z with z | z
        · exact h z
        · simp at z
  rw [List.getElem?_append_left hj6] at g0
  have hj1 : j = 1 := by
    rcases (show j = 0 ∨ j = 1 ∨ j = 2 ∨ j = 3 ∨ j = 4 ∨ j = 5 by omega) with rfl | rfl | rfl | rfl | rfl | rfl <;> first | rfl | (cases g0)
  subst hj1
  have g1 := g 1 (by decide)
  rw [List.append_assoc, List.getElem?_append_left (by decide)] at g1
  cases g1

section
variable {c : Cx} {fm : Fm} {loc : Loc} {n m : Nat} {σ : Sto} {Φ : NPr} {X : CXPr} {p D : Addr} {s t : Int} {is : List Int}

inductive RuI (σ1 : Sto) (p D : Addr) (s : Int) (i : Nat) (acc : List PV) (τ : Sto) : Prop
  | mk (s' : Int) (t' : Int) (h0 : acc.length = i) (h1 : (∀ u ∈ acc, okR u)) (h2 : s ≤ s') (h3 : s' ≤ s + 1 + i) (h4 : 0 ≤ t') (h5 : Sub (upd σ1 p (penO D s' t')) τ)
theorem rules_c (P : PK c) (hz : is.length ≤ 40) (hp : σ p = some (penO D s t)) (hD : σ D = some (.list (is.map .int))) (hs0 : 0 ≤ s) (hs : s < 2 ^ 16) (ht : 0 ≤ t) (hP : σ 452 = some (.tab #[])) (hpP : p ≠ 452)
    (h : ∀ τx, (∃ ps, τx 452 = some (.tab ps)) → (∀ a o, σ a = some o → a ≠ p → a ≠ 452 → τx a = some o) → Φ (.k (.bool true)) τx) : CallC c (n + 18) (.ref 455) [.k (.ref p)] σ Φ X := by
  have hpD : p ≠ D := fun q => by
    rw [q, hD] at hp
    have := AO.list.inj (Option.some.inj hp)
    cases is with
    | nil => cases this
    | cons a r => cases (List.cons.inj this).1
  refine call_cl P.f_law_rules_hold [("pen", .k (.ref p))] [] (fun L => [("most", L + 1 + 1 + 1 + 1 + 1), ("many", L + 1 + 1 + 1 + 1), ("low", L + 1 + 1 + 1), ("some", L + 1 + 1), ("pen", L + 1)]) (fun L => rfl) (fun s vs kV doc pm an ct _ hv => ?_) (fun L => by rfl) (fun p hp => nomatch hp) fun L A' hL ff => ?_
  · obtain ⟨v, rfl, b⟩ := br1 (x := "pen") hv
    exact ⟨_, .of_eq rfl, b⟩
  have hcs : cellsSto σ [("pen", .k (.ref p))] [("most", L + 1 + 1 + 1 + 1 + 1), ("many", L + 1 + 1 + 1 + 1), ("low", L + 1 + 1 + 1), ("some", L + 1 + 1), ("pen", L + 1)] =
      upd (upd (upd (upd (upd σ (L + 1) (.cell (some (.k (.ref p))))) (L + 1 + 1) (.cell none)) (L + 1 + 1 + 1) (.cell none)) (L + 1 + 1 + 1 + 1) (.cell none)) (L + 1 + 1 + 1 + 1 + 1) (.cell none) := by rfl
  rw [hcs]
  have n1 : σ (L + 1) = none := hL _ (Nat.le_add_right L 1)
  have n2 : σ (L + 1 + 1) = none := hL _ (Nat.le_add_right L 2)
  have n3 : σ (L + 1 + 1 + 1) = none := hL _ (Nat.le_add_right L 3)
  have n4 : σ (L + 1 + 1 + 1 + 1) = none := hL _ (Nat.le_add_right L 4)
  have n5 : σ (L + 1 + 1 + 1 + 1 + 1) = none := hL _ (Nat.le_add_right L 5)
  have nn : ∀ i j : Nat, i ≠ j → (L : Nat) + i ≠ (L : Nat) + j := fun i j h q => h (Nat.add_left_cancel q)
  have w12 : L + 1 ≠ L + 1 + 1 := nn 1 2 (by decide)
  have w13 : L + 1 ≠ L + 1 + 1 + 1 := nn 1 3 (by decide)
  have w14 : L + 1 ≠ L + 1 + 1 + 1 + 1 := nn 1 4 (by decide)
  have w15 : L + 1 ≠ L + 1 + 1 + 1 + 1 + 1 := nn 1 5 (by decide)
  have w23 : L + 1 + 1 ≠ L + 1 + 1 + 1 := nn 2 3 (by decide)
  have w24 : L + 1 + 1 ≠ L + 1 + 1 + 1 + 1 := nn 2 4 (by decide)
  have w25 : L + 1 + 1 ≠ L + 1 + 1 + 1 + 1 + 1 := nn 2 5 (by decide)
  have w34 : L + 1 + 1 + 1 ≠ L + 1 + 1 + 1 + 1 := nn 3 4 (by decide)
  have w35 : L + 1 + 1 + 1 ≠ L + 1 + 1 + 1 + 1 + 1 := nn 3 5 (by decide)
  have w45 : L + 1 + 1 + 1 + 1 ≠ L + 1 + 1 + 1 + 1 + 1 := nn 4 5 (by decide)
  have hs1 : Sub σ (upd (upd (upd (upd (upd σ (L + 1) (.cell (some (.k (.ref p))))) (L + 1 + 1) (.cell none)) (L + 1 + 1 + 1) (.cell none)) (L + 1 + 1 + 1 + 1) (.cell none)) (L + 1 + 1 + 1 + 1 + 1) (.cell none)) := by
    refine .trans (sub_new _ n1) (.trans (sub_new _ ?_) (.trans (sub_new _ ?_) (.trans (sub_new _ ?_) (sub_new _ ?_))))
    · rw [upd_ne _ _ (Ne.symm w12)]; exact n2
    · rw [upd_ne _ _ (Ne.symm w23), upd_ne _ _ (Ne.symm w13)]; exact n3
    · rw [upd_ne _ _ (Ne.symm w34), upd_ne _ _ (Ne.symm w24), upd_ne _ _ (Ne.symm w14)]; exact n4
    · rw [upd_ne _ _ (Ne.symm w45), upd_ne _ _ (Ne.symm w35), upd_ne _ _ (Ne.symm w25), upd_ne _ _ (Ne.symm w15)]; exact n5
  have c1 : upd (upd (upd (upd (upd σ (L + 1) (.cell (some (.k (.ref p))))) (L + 1 + 1) (.cell none)) (L + 1 + 1 + 1) (.cell none)) (L + 1 + 1 + 1 + 1) (.cell none)) (L + 1 + 1 + 1 + 1 + 1) (.cell none) (L + 1) = some (.cell (some (.k (.ref p)))) := by
    rw [upd_ne _ _ w15, upd_ne _ _ w14, upd_ne _ _ w13, upd_ne _ _ w12]; exact upd_same _ _ _
  have c2 : upd (upd (upd (upd (upd σ (L + 1) (.cell (some (.k (.ref p))))) (L + 1 + 1) (.cell none)) (L + 1 + 1 + 1) (.cell none)) (L + 1 + 1 + 1 + 1) (.cell none)) (L + 1 + 1 + 1 + 1 + 1) (.cell none) (L + 1 + 1) = some (.cell none) := by
    rw [upd_ne _ _ w25, upd_ne _ _ w24, upd_ne _ _ w23]; exact upd_same _ _ _
  have c3 : upd (upd (upd (upd (upd σ (L + 1) (.cell (some (.k (.ref p))))) (L + 1 + 1) (.cell none)) (L + 1 + 1 + 1) (.cell none)) (L + 1 + 1 + 1 + 1) (.cell none)) (L + 1 + 1 + 1 + 1 + 1) (.cell none) (L + 1 + 1 + 1) = some (.cell none) := by
    rw [upd_ne _ _ w35, upd_ne _ _ w34]; exact upd_same _ _ _
  have c4 : upd (upd (upd (upd (upd σ (L + 1) (.cell (some (.k (.ref p))))) (L + 1 + 1) (.cell none)) (L + 1 + 1 + 1) (.cell none)) (L + 1 + 1 + 1 + 1) (.cell none)) (L + 1 + 1 + 1 + 1 + 1) (.cell none) (L + 1 + 1 + 1 + 1) = some (.cell none) := by
    rw [upd_ne _ _ w45]; exact upd_same _ _ _
  have c5 : upd (upd (upd (upd (upd σ (L + 1) (.cell (some (.k (.ref p))))) (L + 1 + 1) (.cell none)) (L + 1 + 1 + 1) (.cell none)) (L + 1 + 1 + 1 + 1) (.cell none)) (L + 1 + 1 + 1 + 1 + 1) (.cell none) (L + 1 + 1 + 1 + 1 + 1) = some (.cell none) := upd_same _ _ _
  generalize upd (upd (upd (upd (upd σ (L + 1) (.cell (some (.k (.ref p))))) (L + 1 + 1) (.cell none)) (L + 1 + 1 + 1) (.cell none)) (L + 1 + 1 + 1 + 1) (.cell none)) (L + 1 + 1 + 1 + 1 + 1) (.cell none) = σ1 at hs1 c1 c2 c3 c4 c5
  have pc : ∀ {a : Addr} {v : Option PV}, σ1 a = some (.cell v) → a ≠ p := fun {a v} e q => by rw [q, hs1 _ _ hp] at e; cases e
  have fp : ∀ s' t', upd σ1 p (penO D s' t') p = some (penO D s' t') := fun _ _ => upd_same _ _ _
  have fD : ∀ s' t', upd σ1 p (penO D s' t') D = some (.list (is.map .int)) := fun _ _ => by rw [upd_ne _ _ (Ne.symm hpD)]; exact hs1 _ _ hD
  have fc : ∀ {a : Addr} {v : Option PV} s' t', σ1 a = some (.cell v) → upd σ1 p (penO D s' t') a = some (.cell v) := fun {a v} s' t' e => by rw [upd_ne _ _ (pc e)]; exact e
  have fP : ∀ s' t', upd σ1 p (penO D s' t') 452 = some (.tab #[]) := fun _ _ => by rw [upd_ne _ _ (Ne.symm hpP)]; exact hs1 _ _ hP
  have up : ∀ s' t' s'' t'', upd (upd σ1 p (penO D s' t')) p (penO D s'' t'') = upd σ1 p (penO D s'' t'') := fun _ _ _ _ => upd_upd _ _ _ _
  have upI : ∀ {I : Addr} {o : AO} s' t' s'' t'', upd σ1 p (penO D s' t') I = none → Sub (upd σ1 p (penO D s'' t'')) (upd (upd (upd σ1 p (penO D s' t')) I o) p (penO D s'' t'')) := fun {I o} s' t' s'' t'' hI => by
    have := sub_upd (sub_new o hI) p (penO D s'' t'')
    rw [up] at this
    exact this
  have e0 : σ1 = upd σ1 p (penO D s t) := (upd_self (hs1 _ _ hp)).symm
  rw [e0]
  -- some
  refine ss_letc (ev_comp [("pen", L + 1)] (ei_of (ev_call (ev_builtin P.b_range rfl ⟨_, rfl, ev_call (ev_glob P.g_law_draw ⟨_, rfl, ev_cell (a := L + 1) rfl (fc _ _ c1) (ev_int ⟨kK P.k_law_draw, ?_⟩)⟩) ff.handled⟩) ff.handled)) ff.handled)
  refine (draw_c (n := n + 16) P (fp _ _) (fD _ _) hz hs0 (by omega) ht (by decide) (by decide) fun d1 s2 t2 x1 x2 x3 x4 x5 => ⟨kT, c_range fun R hR => ?_⟩).call
  rw [up] at hR ⊢
  refine ⟨_, _, _, src_range (upd_same _ _ _) (by omega) (by omega), RuI σ1 p D s,
    ⟨s2, t2, rfl, fun u hu => (nomatch hu), by omega, by omega, x5, sub_new _ hR⟩, ?_, ?_⟩
  · refine ⟨trivial, by rw [rangePV_len]; unfold sizeLine; omega, fun _ _ _ _ => trivial, ?_⟩
    rintro C i q acc τ' hq ⟨s', t', hlen, hts, y1, y2, y3, hsub⟩
    obtain ⟨rfl, hi⟩ := rangePV_get hq
    refine as_name .nil (e_forget hsub ?_)
    refine ev_call (ev_glob P.g_law_pick ⟨_, rfl, ev_cell (a := L + 1) rfl (fc _ _ c1) (ev_list ?_)⟩) ff.handled
    refine ev_int (ev_int (ev_unop (ev_int (op_neg ?_))))
    refine ev_int (ev_int (ev_none (ev_str (ev_str fun I hI => ?_))))
    have hIp : I ≠ p := fun q => by rw [q, fp] at hI; cases hI
    have hID : I ≠ D := fun q => by rw [q, fD] at hI; cases hI
    refine ⟨kK P.k_law_pick, (pick_c (n := n + 15) P (D := D) (s := s') (t := t') (is := is) (by rw [upd_ne _ _ (Ne.symm hIp)]; exact fp _ _) (by rw [upd_ne _ _ (Ne.symm hID)]; exact fD _ _) hz (by omega) (by omega) y3 (upd_same _ _ _) hIp (of_decide_eq_true rfl) (of_decide_eq_true rfl) fun q s'' t'' b1 b2 b3 b4 => ?_).call⟩
    have hq : okR q := by
      simp only [List.mem_cons, List.not_mem_nil, or_false] at b1
      rcases b1 with rfl | rfl | rfl | rfl | rfl | rfl | rfl | rfl
      · exact ⟨by decide +kernel, rfl, by decide +kernel⟩
      · exact ⟨by decide +kernel, rfl, by decide +kernel⟩
      · exact ⟨by decide +kernel, rfl, by decide +kernel⟩
      · exact ⟨by decide +kernel, rfl, by decide +kernel⟩
      · exact ⟨by decide +kernel, rfl, by decide +kernel⟩
      · exact ⟨by decide +kernel, rfl, by decide +kernel⟩
      · exact ⟨by decide +kernel, by decide +kernel, by decide +kernel⟩
      · exact ⟨by decide +kernel, by decide +kernel, by decide +kernel⟩
    refine ⟨_, .refl _, s'', t'', by rw [List.length_append, hlen]; rfl, fun v hv => ?_, by omega, by omega, b4, ?_⟩
    · rcases List.mem_append.mp hv with hv | hv
      · exact hts v hv
      · rw [List.mem_singleton.mp hv]; exact hq
    · exact upI _ _ _ _ hI
  rintro S ps τ' ⟨s', t', hlen, hps, y1, y2, y3, hsub⟩ hS
  rw [rangePV_len] at hlen y2
  have hS0 : upd σ1 p (penO D s' t') S = none := sub_none hsub hS
  have sS : ∀ {a : Addr} {o : AO}, upd σ1 p (penO D s' t') a = some o → a ≠ S := fun {a o} e q => by rw [q, hS0] at e; cases e
  have b2 := fc s' t' c2
  refine ⟨L + 1 + 1, none, rfl, by rw [upd_ne _ _ (sS b2)]; exact hsub _ _ b2, ?_⟩
  refine ss_forget (fun p hp => hp) (sub_upd (sub_upd hsub S (.list ps)) (L + 1 + 1) (.cell (some (.k (.ref S))))) ?_
  have g2 : upd (upd (upd σ1 p (penO D s' t')) S (.list ps)) (L + 1 + 1) (.cell (some (.k (.ref S)))) (L + 1 + 1) = some (.cell (some (.k (.ref S)))) := upd_same _ _ _
  have gS : upd (upd (upd σ1 p (penO D s' t')) S (.list ps)) (L + 1 + 1) (.cell (some (.k (.ref S)))) S = some (.list ps) := by rw [upd_ne _ _ (Ne.symm (sS b2))]; exact upd_same _ _ _
  have gk : ∀ a o, upd σ1 p (penO D s' t') a = some o → a ≠ L + 1 + 1 → upd (upd (upd σ1 p (penO D s' t')) S (.list ps)) (L + 1 + 1) (.cell (some (.k (.ref S)))) a = some o := fun a o e h2 => by
    rw [upd_ne _ _ h2, upd_ne _ _ (sS e)]; exact e
  have gp := gk _ _ (fp s' t') (Ne.symm (pc c2))
  have gD := gk _ _ (fD s' t') (fun q => by rw [← q, fD] at b2; cases b2)
  have g1 := gk _ _ (fc s' t' c1) w12
  have g3 := gk _ _ (fc s' t' c3) (Ne.symm w23)
  have g4 := gk _ _ (fc s' t' c4) (Ne.symm w24)
  have g5 := gk _ _ (fc s' t' c5) (Ne.symm w25)
  have gP := gk _ _ (fP s' t') (fun q => by have := fP s' t'; rw [q, b2] at this; cases this)
  have gK : ∀ a o, σ a = some o → a ≠ p → upd (upd (upd σ1 p (penO D s' t')) S (.list ps)) (L + 1 + 1) (.cell (some (.k (.ref S)))) a = some o := fun a o e h1 => gk a o (by rw [upd_ne _ _ h1]; exact hs1 _ _ e) (fun q => by rw [q, n2] at e; cases e)
  generalize upd (upd (upd σ1 p (penO D s' t')) S (.list ps)) (L + 1 + 1) (.cell (some (.k (.ref S)))) = τ1 at g2 gS gp gD g1 g3 g4 g5 gP gK
  have hSp : S ≠ p := fun q => by rw [q, fp] at hS0; cases hS0
  have hn3 : ps.length ≤ 3 := by omega
  have hb : s' ≤ s + 4 := by omega
  have hOk2 : ∀ p ∈ ps, p.okI 2 = true := fun p hp => (hps p hp).1
  have hDs : okDs 2 ps = true := by rw [okDs_all]; exact List.all_eq_true.mpr fun p hp => (hps p hp).2.1
  clear hR x1 x2 x3 x4 x5 hsub hS hlen y2 gk sS b2 hS0
  have hRl : (lineL [122] ps).length ≤ 3270 := by
    have := lineL_len (w := [122]) (ps := ps) (k := 2) (by decide) (by omega) hOk2 (Nat.le_refl _)
    omega
  -- text
  refine ss_let (ev_binop (ev_binop (ev_str (ev_call (ev_glob P.g_law_line ⟨_, rfl, ev_str (ev_cell (a := L + 1 + 1) rfl g2 ⟨kK P.k_law_line, ?_⟩)⟩) ff.handled))))
  rw [show PySem.Str.ofString "z" = T [122] by kernel_rfl, show PySem.Str.ofString "head 1\n" = T (headL ++ [10]) by kernel_rfl]
  refine (line_c (n := n + 13) P gS (by decide) (by omega) hOk2 ?_).call
  have h7 : (headL ++ [10]).length = 7 := rfl
  have he : (10 :: endr).length = 7 := rfl
  refine op_cat (by rw [T_len, T_len, h7]; unfold sizeLine; omega) (ev_str ?_)
  rw [T_append, show PySem.Str.ofString "\nend 3\n" = T (10 :: endr) by kernel_rfl]
  refine op_cat (by rw [T_len, T_len, List.length_append, h7, he]; unfold sizeLine; omega) ⟨_, .nil, ?_⟩
  rw [T_append]
  -- behind
  obtain ⟨ri, hri⟩ := behind_at (line_101 hps)
  have hl : headL ++ [10] ++ lineL [122] ps ++ 10 :: endr = (headL ++ 10 :: (lineL [122] ps ++ [10])) ++ ([101, 110, 100, 32, 51] ++ [10]) := by simp [endr]
  have hlb : (headL ++ 10 :: (lineL [122] ps ++ [10])).length = (headL ++ [10] ++ lineL [122] ps ++ 10 :: endr).length - 6 := by
    simp only [List.length_append, List.length_cons, List.length_nil, endr]
    omega
  rw [← hl, hlb] at hri
  have hlen : (headL ++ [10] ++ lineL [122] ps ++ 10 :: endr).length = 7 + (lineL [122] ps).length + 7 := by rw [List.length_append, List.length_append, h7, he]
  have hT : headL ++ [10] ++ lineL [122] ps ++ 10 :: endr = headL ++ 10 :: (lineL [122] ps ++ 10 :: endr) := by simp
  generalize headL ++ [10] ++ lineL [122] ps ++ 10 :: endr = l at hri hlen hT
  refine ss_let (ev_methG (ev_name m0 ⟨_, _, gm_str PySem.F.slot_str_index PySem.F.type_str_index, ev_str ⟨.inl ⟨_, rfl⟩, ?_⟩⟩) ff.handled)
  rw [show PySem.Str.ofString "end 3" = T [101, 110, 100, 32, 51] by kernel_rfl]
  refine c_index hri ⟨_, .nx .nil, ?_⟩
  -- low, most, many
  have vp : ∀ s' t', upd τ1 p (penO D s' t') p = some (penO D s' t') := fun _ _ => upd_same _ _ _
  have vD : ∀ s' t', upd τ1 p (penO D s' t') D = some (.list (is.map .int)) := fun _ _ => by rw [upd_ne _ _ (Ne.symm hpD)]; exact gD
  have vc : ∀ {a : Addr} {v : Option PV} s' t', τ1 a = some (.cell v) → upd τ1 p (penO D s' t') a = some (.cell v) := fun {a v} s' t' e => by
    rw [upd_ne _ _ (fun q => by rw [q, gp] at e; cases e)]; exact e
  have vup : ∀ s' t' s'' t'', upd (upd τ1 p (penO D s' t')) p (penO D s'' t'') = upd τ1 p (penO D s'' t'') := fun _ _ _ _ => upd_upd _ _ _ _
  have vI : ∀ {I : Addr} {o : AO} s' t' s'' t'', upd τ1 p (penO D s' t') I = none → Sub (upd τ1 p (penO D s'' t'')) (upd (upd (upd τ1 p (penO D s' t')) I o) p (penO D s'' t'')) := fun {I o} s' t' s'' t'' hI => by
    have := sub_upd (sub_new o hI) p (penO D s'' t'')
    rw [vup] at this
    exact this
  have v0 : τ1 = upd τ1 p (penO D s' t') := (upd_self gp).symm
  rw [v0]
  have pick3 : ∀ {I : Addr} {qs : List PV} {s' t' : Int} {Ψ : NPr} {Y : CXPr}, s ≤ s' → s' ≤ s + 10 → 0 ≤ t' → upd τ1 p (penO D s' t') I = none → 0 < qs.length → qs.length < 1000 →
      (∀ q s'' t'', q ∈ qs → s ≤ s'' → s'' ≤ s' + 1 → 0 ≤ t'' → Ψ q (upd (upd (upd τ1 p (penO D s' t')) I (.list qs)) p (penO D s'' t''))) → Call c (n + 17) (.ref 416) [.k (.ref p), .k (.ref I)] (upd (upd τ1 p (penO D s' t')) I (.list qs)) Ψ Y := fun {I qs s' t' Ψ Y} a1 a2 a3 a4 a5 a6 k => by
    have hIp : I ≠ p := fun q => by rw [q, vp] at a4; cases a4
    have hID : I ≠ D := fun q => by rw [q, vD] at a4; cases a4
    exact (pick_c (n := n + 15) P (D := D) (s := s') (t := t') (is := is) (by rw [upd_ne _ _ (Ne.symm hIp)]; exact vp _ _) (by rw [upd_ne _ _ (Ne.symm hID)]; exact vD _ _) hz (by omega) (by omega) a3 (upd_same _ _ _) hIp a5 a6 fun q s'' t'' b1 b2 b3 b4 => k q s'' t'' b1 (by omega) b3 b4).call
  refine ss_tuple (ev_tuple (ev_call (ev_glob P.g_law_pick ⟨_, rfl, ev_cell (a := L + 1) rfl (vc _ _ g1) (ev_list ?_)⟩) ff.handled))
  refine ev_none (ev_unop (ev_int (op_neg (ev_int fun I1 hI1 => ⟨kK P.k_law_pick, ?_⟩))))
  refine pick3 y1 (by omega) y3 hI1 (of_decide_eq_true rfl) (of_decide_eq_true rfl) fun q1 s1 t1 a1 a2 a3 a4 => ?_
  refine e_forget (vI _ _ _ _ hI1) ?_
  refine ev_call (ev_glob P.g_law_pick ⟨_, rfl, ev_cell (a := L + 1) rfl (vc _ _ g1) (ev_list ?_)⟩) ff.handled
  refine ev_none (ev_int (ev_int fun I2 hI2 => ⟨kK P.k_law_pick, ?_⟩))
  refine pick3 (by omega) (by omega) a4 hI2 (of_decide_eq_true rfl) (of_decide_eq_true rfl) fun q2 s2 t2 b1 b2 b3 b4 => ?_
  refine e_forget (vI _ _ _ _ hI2) ?_
  refine ev_call (ev_glob P.g_law_pick ⟨_, rfl, ev_cell (a := L + 1) rfl (vc _ _ g1) (ev_list ?_)⟩) ff.handled
  refine ev_none (ev_int (ev_int fun I3 hI3 => ⟨kK P.k_law_pick, ?_⟩))
  refine pick3 (by omega) (by omega) b4 hI3 (of_decide_eq_true rfl) (of_decide_eq_true rfl) fun q3 s3 t3 d1 d2 d3 d4 => ?_
  obtain ⟨lo, rfl⟩ : ∃ lo, q1 = oi lo := by
    simp only [List.mem_cons, List.not_mem_nil, or_false] at a1
    rcases a1 with rfl | rfl | rfl
    · exact ⟨none, rfl⟩
    · exact ⟨some (-2), rfl⟩
    · exact ⟨some 0, rfl⟩
  obtain ⟨hi, rfl⟩ : ∃ hi, q2 = oi hi := by
    simp only [List.mem_cons, List.not_mem_nil, or_false] at b1
    rcases b1 with rfl | rfl | rfl
    · exact ⟨none, rfl⟩
    · exact ⟨some 3, rfl⟩
    · exact ⟨some 9, rfl⟩
  obtain ⟨many, rfl⟩ : ∃ many, q3 = oi many := by
    simp only [List.mem_cons, List.not_mem_nil, or_false] at d1
    rcases d1 with rfl | rfl | rfl
    · exact ⟨none, rfl⟩
    · exact ⟨some 2, rfl⟩
    · exact ⟨some 1, rfl⟩
  have vsub := vI (o := .list [PV.k Value.none, PV.int 2, PV.int 1]) s2 t2 s3 t3 hI3
  have u3 := vc s3 t3 g3
  have u4 := vc s3 t3 g4
  have u5 := vc s3 t3 g5
  refine as_tuple ff.handled (as_cell (a := L + 1 + 1 + 1) rfl (vsub _ _ u3) (as_cell (a := L + 1 + 1 + 1 + 1 + 1) rfl (by rw [upd_ne _ _ (Ne.symm w35)]; exact vsub _ _ u5) (as_cell (a := L + 1 + 1 + 1 + 1) rfl (by rw [upd_ne _ _ w45, upd_ne _ _ (Ne.symm w34)]; exact vsub _ _ u4) ?_)))
  refine ss_forget (fun p hp => hp) (sub_upd (sub_upd (sub_upd vsub (L + 1 + 1 + 1) (.cell (some (oi lo)))) (L + 1 + 1 + 1 + 1 + 1) (.cell (some (oi hi)))) (L + 1 + 1 + 1 + 1) (.cell (some (oi many)))) ?_
  have gS' : upd τ1 p (penO D s3 t3) S = some (.list ps) := by rw [upd_ne _ _ hSp]; exact gS
  have gP' : upd τ1 p (penO D s3 t3) 452 = some (.tab #[]) := by rw [upd_ne _ _ (Ne.symm hpP)]; exact gP
  have cS : ∀ {a : Addr} {v : Option PV} {o : AO}, upd τ1 p (penO D s3 t3) a = some (.cell v) → ∀ {b : Addr}, upd τ1 p (penO D s3 t3) b = some (.list ps) ∨ upd τ1 p (penO D s3 t3) b = some (.tab #[]) → b ≠ a := fun {a v o} e {b} e2 q => by
    rw [q, e] at e2; rcases e2 with e2 | e2 <;> cases e2
  have kpA : ∀ a o, σ a = some o → a ≠ p → upd (upd (upd (upd τ1 p (penO D s3 t3)) (L + 1 + 1 + 1) (.cell (some (oi lo)))) (L + 1 + 1 + 1 + 1 + 1) (.cell (some (oi hi)))) (L + 1 + 1 + 1 + 1) (.cell (some (oi many))) a = some o := fun a o e h1 => by
    rw [upd_ne _ _ (fun q => by rw [q, n4] at e; cases e), upd_ne _ _ (fun q => by rw [q, n5] at e; cases e), upd_ne _ _ (fun q => by rw [q, n3] at e; cases e), upd_ne _ _ h1]
    exact gK a o e h1
  refine rules_tail (n := n) P ff (lo := lo) (hi := hi) (many := many) (S := S) (ps := ps) ?_ ?_ ?_ ?_ ?_ ?_ hOk2 hDs (by omega) (by omega) hT (fun τx e1 e2 => h τx e1 fun a o e h1 h2 => e2 _ _ (kpA _ _ e h1) h2) _
  · rw [upd_ne _ _ (cS (o := .exc0 0) u4 (.inl gS')), upd_ne _ _ (cS (o := .exc0 0) u5 (.inl gS')), upd_ne _ _ (cS (o := .exc0 0) u3 (.inl gS'))]; exact gS'
  · rw [upd_ne _ _ w24, upd_ne _ _ w25, upd_ne _ _ w23]; exact vc _ _ g2
  · rw [upd_ne _ _ w34, upd_ne _ _ w35]; exact upd_same _ _ _
  · exact upd_same _ _ _
  · rw [upd_ne _ _ (Ne.symm w45)]; exact upd_same _ _ _
  · rw [upd_ne _ _ (cS (o := .exc0 0) u4 (.inr gP')), upd_ne _ _ (cS (o := .exc0 0) u5 (.inr gP')), upd_ne _ _ (cS (o := .exc0 0) u3 (.inr gP'))]; exact gP'
end
end Mine
end B25
section B26
open PySem PySem.W PySem.Calls PyProof.Rows PySem.Challenge
set_option maxRecDepth 100000
set_option linter.unusedVariables false
set_option exponentiation.threshold 2000
namespace Mine

noncomputable abbrev RowD := List Nat × Addr × List PV
structure RowOk (p : Addr) (τ : Sto) (r : RowD) : Prop where
  lst : τ r.2.1 = some (.list r.2.2)
  ne : r.2.1 ≠ p
  len : r.2.2.length ≤ 3
  ok : ∀ q ∈ r.2.2, q.okI 2 = true
  word : r.1.length ≤ 2 ∧ 63 ∉ r.1
noncomputable def rowPV (r : RowD) : PV := .tup [.str (T r.1), .k (.ref r.2.1)]
noncomputable def rowL (r : RowD) : List Nat := lineL r.1 r.2.2
theorem RowOk.kept {p : Addr} {τ τ' : Sto} {r : RowD} (h : RowOk p τ r) (k : ∀ a o, τ a = some o → a ≠ p → τ' a = some o) : RowOk p τ' r := ⟨k _ _ h.lst h.ne, h.ne, h.len, h.ok, h.word⟩
theorem RowOk.sub {p : Addr} {τ τ' : Sto} {r : RowD} (h : RowOk p τ r) (k : Sub τ τ') : RowOk p τ' r := h.kept fun a o e _ => k a o e

section
variable {c : Cx} {fm : Fm} {loc : Loc} {n m : Nat} {σ : Sto} {Φ : NPr} {X : CXPr}

inductive RowI (τ1 : Sto) (p D B : Addr) (ws : List (List Nat)) (i : Nat) (acc : List PV) (τ : Sto) : Prop
  | mk (s : Int) (t : Int) (rs : List RowD) (h0 : acc = List.map rowPV rs) (h1 : rs.length = i) (h2 : τ p = some (penO D s t)) (h3 : 0 ≤ s) (h4 : s ≤ 1 + i * 80) (h5 : 0 ≤ t) (h6 : (∀ a o, τ1 a = some o → a ≠ p → τ a = some o)) (h7 : (∀ r ∈ rs, RowOk p τ r)) (h8 : τ B = some (.list (stPV ws)))
inductive RoI (τ' : Sto) (p D : Addr) (s : Int) (j : Nat) (acc : List PV) (τ : Sto) : Prop
  | mk (s' : Int) (t' : Int) (h0 : acc.length = j) (h1 : (∀ u ∈ acc, u.okI 2 = true)) (h2 : τ p = some (penO D s' t')) (h3 : s ≤ s') (h4 : s' ≤ s + 1 + j * 26) (h5 : 0 ≤ t') (h6 : (∀ a o, τ' a = some o → a ≠ p → τ a = some o))
inductive AddI (τ4 : Sto) (a Rw W Sl : Addr) (rs : List RowD) (k : Nat) (lo : Loc) (τ : Sto) : Prop
  | mk (h0 : k ≤ rs.length) (h1 : lo = ([("script", .k (.ref a)), ("rows", .k (.ref Rw)), ("writer", .k (.ref W))] : Loc)) (h2 : τ = upd τ4 Sl (.list (stPV (headL :: (rs.take k).map rowL))))
inductive BackI (τ5 : Sto) (a Rw W : Addr) (rs : List RowD) (k : Nat) (lo : Loc) (τ : Sto) : Prop
  | mk (h0 : k ≤ rs.length) (h1 : lo = ([("script", .k (.ref a)), ("rows", .k (.ref Rw)), ("writer", .k (.ref W)), ("text", .str (T (textL (headL :: rs.map rowL))))] : Loc)) (h2 : τ = τ5)
inductive ReadI (τ : Sto) (a Rw W r x dr dx : Addr) (tx : List Nat) (rs : List RowD) (k : Nat) (lo : Loc) (τ' : Sto) : Prop
  | mk (h0 : k ≤ rs.length) (h1 : lo = ([("script", .k (.ref a)), ("rows", .k (.ref Rw)), ("writer", .k (.ref W)), ("text", .str (T tx)), ("reader", .k (.ref r))] : Loc)) (j : Nat) (h2 : j ≤ tx.length)
    (h3 : tx.drop j = restL (endL (rs.length + 2) ++ [10]) ((rs.drop k).map rowL)) (h4 : τ' = ln τ r x dr dx tx j (k + 1))
theorem law_c (P : PK c) {fa : Addr} {cd : Value} (F : FnB c fa "law" "law" (fnArgs (topSt 32)) (fnBody (topSt 32)) (fnScope (topSt 32)) .none cd) {a : Addr} {vs : List Value} {is0 : List Int} (ha : c.h₀.IsList a vs.toArray) (hi : IntsAre vs is0) (hzv : vs.length ≤ sizeLine)
    (u1 : σ 440 = some (.tab #[])) (u2 : σ 445 = some (.tab #[])) (u3 : σ 452 = some (.tab #[]))
    (h : ∀ τ, (∃ ps, τ 440 = some (.tab ps)) → (∃ ps, τ 445 = some (.tab ps)) → (∃ ps, τ 452 = some (.tab ps)) → Φ (.k (.bool true)) τ) : CallC c (n + 19) (.ref fa) [.k (.ref a)] σ Φ X := by
  refine call_clB F [("script", .k (.ref a))] [("script", .k (.ref a))] (fun L => [("pen", L + 1)]) (fun L => rfl) (fun s vs kV doc pm an ct _ hv => ?_) (fun L => by rfl) (fun p hp => ⟨hp, by rw [List.mem_singleton.mp hp]; rfl⟩) fun L A' hL ff => ?_
  · obtain ⟨v, rfl, b⟩ := br1 (x := "script") hv
    exact ⟨_, .of_eq rfl, b⟩
  have hcs : cellsSto σ [("script", .k (.ref a))] [("pen", L + 1)] = upd σ (L + 1) (.cell none) := by rfl
  rw [hcs]
  have n1 : σ (L + 1) = none := hL _ (Nat.le_succ _)
  refine ss_letc (ev_call (ev_glob P.g_law_pen ⟨_, rfl, ev_name m0 ⟨kK P.k_law_pen, (pen_c (n := n + 17) P ha hi hzv fun p D is hz hp hD hpD => ?_).call⟩⟩) ff.handled)
  have cp : L + 1 ≠ p := fun q => by rw [← q, upd_same] at hp; cases hp
  have cD : L + 1 ≠ D := fun q => by rw [← q, upd_same] at hD; cases hD
  rw [upd_ne _ _ (Ne.symm cp)] at hp
  rw [upd_ne _ _ (Ne.symm cD)] at hD
  refine ⟨L + 1, none, rfl, by rw [upd_ne _ _ cp, upd_ne _ _ cD]; exact upd_same _ _ _, ?_⟩
  have tp : upd (upd (upd (upd σ (L + 1) (.cell none)) D (.list (is.map .int))) p (penO D 0 0)) (L + 1) (.cell (some (.k (.ref p)))) p = some (penO D 0 0) := by rw [upd_ne _ _ (Ne.symm cp)]; exact upd_same _ _ _
  have tD : upd (upd (upd (upd σ (L + 1) (.cell none)) D (.list (is.map .int))) p (penO D 0 0)) (L + 1) (.cell (some (.k (.ref p)))) D = some (.list (is.map .int)) := by
    rw [upd_ne _ _ (Ne.symm cD), upd_ne _ _ (Ne.symm hpD)]; exact upd_same _ _ _
  have tc : upd (upd (upd (upd σ (L + 1) (.cell none)) D (.list (is.map .int))) p (penO D 0 0)) (L + 1) (.cell (some (.k (.ref p)))) (L + 1) = some (.cell (some (.k (.ref p)))) := upd_same _ _ _
  have t0 : ∀ a o, σ a = some o → upd (upd (upd (upd σ (L + 1) (.cell none)) D (.list (is.map .int))) p (penO D 0 0)) (L + 1) (.cell (some (.k (.ref p)))) a = some o := fun a o e => by
    rw [upd_ne _ _ (fun q => by rw [q, n1] at e; cases e), upd_ne _ _ (fun q => by rw [q, hp] at e; cases e), upd_ne _ _ (fun q => by rw [q, hD] at e; cases e), upd_ne _ _ (fun q => by rw [q, n1] at e; cases e)]; exact e
  have v1 := t0 _ _ u1
  have v2 := t0 _ _ u2
  have v3 := t0 _ _ u3
  have w1 : p ≠ 440 := fun q => by rw [q, u1] at hp; cases hp
  have w2 : p ≠ 445 := fun q => by rw [q, u2] at hp; cases hp
  have w3 : p ≠ 452 := fun q => by rw [q, u3] at hp; cases hp
  clear t0
  generalize upd (upd (upd (upd σ (L + 1) (.cell none)) D (.list (is.map .int))) p (penO D 0 0)) (L + 1) (.cell (some (.k (.ref p)))) = τ1 at tp tD tc v1 v2 v3
  -- rows
  refine ss_letcomp [("pen", L + 1)] (ei_of (ev_slice (ev_list (ev_str (ev_str (ev_str fun I hI => ?_)))))) ff.handled
  have hIp : I ≠ p := fun q => by rw [q, tp] at hI; cases hI
  have hID : I ≠ D := fun q => by rw [q, tD] at hI; cases hI
  have hIc : I ≠ L + 1 := fun q => by rw [q, tc] at hI; cases hI
  refine ev_call (ev_glob P.g_law_draw ⟨_, rfl, ev_cell (a := L + 1) rfl (by rw [upd_ne _ _ (Ne.symm hIc)]; exact tc) (ev_int ⟨kK P.k_law_draw, ?_⟩)⟩) ff.handled
  refine (draw_c (n := n + 17) P (D := D) (s := 0) (t := 0) (is := is) (by rw [upd_ne _ _ (Ne.symm hIp)]; exact tp) (by rw [upd_ne _ _ (Ne.symm hID)]; exact tD) hz (by decide) (by decide) (by decide) (by decide) (by decide) fun d1 s2 t2 x1 x2 x3 x4 x5 => ⟨_, rfl, ?_⟩).call
  rw [show PySem.Str.ofString "a" = T [97] by kernel_rfl, show PySem.Str.ofString "bc" = T [98, 99] by kernel_rfl, show PySem.Str.ofString "d" = T [100] by kernel_rfl]
  refine sl_list (l := stPV [[97], [98, 99], [100]]) (by rw [upd_ne _ _ hIp]; exact upd_same _ _ _) (by decide) fun B hB => ?_
  obtain ⟨ws, hws, hwl, hwk⟩ : ∃ ws : List (List Nat), ((stPV [[97], [98, 99], [100]]).drop ((none : Option Int).elim 0 (clipAt (stPV [[97], [98, 99], [100]]).length))).take ((some d1).elim (stPV [[97], [98, 99], [100]]).length (clipAt (stPV [[97], [98, 99], [100]]).length) - (none : Option Int).elim 0 (clipAt (stPV [[97], [98, 99], [100]]).length)) = stPV ws ∧ ws.length ≤ 3 ∧ ∀ w ∈ ws, w.length ≤ 2 ∧ 63 ∉ w := by
    rcases (show d1 = 0 ∨ d1 = 1 ∨ d1 = 2 ∨ d1 = 3 by omega) with rfl | rfl | rfl | rfl
    · exact ⟨[], rfl, by decide, by decide⟩
    · exact ⟨[[97]], rfl, by decide, by decide⟩
    · exact ⟨[[97], [98, 99]], rfl, by decide, by decide⟩
    · exact ⟨[[97], [98, 99], [100]], rfl, by decide, by decide⟩
  rw [hws]
  have hBp : B ≠ p := fun q => by rw [q, upd_same] at hB; cases hB
  have kB : ∀ a o, τ1 a = some o → a ≠ p → upd (upd (upd τ1 I (.list (stPV [[97], [98, 99], [100]]))) p (penO D s2 t2)) B (.list (stPV ws)) a = some o := fun a o e h1 => by
    have e2 : upd (upd τ1 I (.list (stPV [[97], [98, 99], [100]]))) p (penO D s2 t2) a = some o := by
      rw [upd_ne _ _ h1, upd_ne _ _ (fun q => by rw [q, hI] at e; cases e)]; exact e
    rw [upd_ne _ _ (fun q => by rw [← q] at hB; have := hB.symm.trans e2; cases this)]; exact e2
  refine ⟨_, _, _, src_list (upd_same _ _ _), RowI τ1 p D B ws,
    ⟨s2, t2, [], rfl, rfl, by rw [upd_ne _ _ (Ne.symm hBp)]; exact upd_same _ _ _, by omega, by omega, x5, kB, fun r hr => (nomatch hr), upd_same _ _ _⟩, ?_, ?_⟩
  · refine ⟨trivial, by unfold stPV; rw [List.length_map]; unfold sizeLine; omega, fun _ _ _ ⟨_, _, _, _, _, _, _, _, _, _, _, hh⟩ => hh, ?_⟩
    rintro C i q acc τ' hq ⟨s, t, rs, rfl, hrl, yp, y1, y2, y3, yk, yr, yB⟩
    unfold stPV at hq
    rw [List.getElem?_map] at hq
    obtain ⟨w, hw, rfl⟩ := Option.map_eq_some_iff.mp hq
    have hiw : i < ws.length := (List.getElem?_eq_some_iff.mp hw).1
    have hwm := hwk w (List.mem_of_getElem? hw)
    refine as_name .nil ?_
    have yD := yk _ _ tD (Ne.symm hpD)
    have yc := yk _ _ tc cp
    refine ev_tuple (ev_name m0 (ev_comp [("pen", L + 1)] (ei_of (ev_call (ev_builtin P.b_range rfl ⟨_, rfl, ev_call (ev_glob P.g_law_draw ⟨_, rfl, ev_cell (a := L + 1) rfl yc (ev_int ⟨kK P.k_law_draw, ?_⟩)⟩) ff.handled⟩) ff.handled)) ff.handled))
    refine (draw_c (n := n + 17) P yp yD hz y1 (by omega) y3 (by decide) (by decide) fun d2 s3 t3 z1 z2 z3 z4 z5 => ⟨kT, c_range fun R hR => ?_⟩).call
    have hRp : R ≠ p := fun q => by rw [q, upd_same] at hR; cases hR
    refine ⟨_, _, _, src_range (upd_same _ _ _) (by omega) (by omega), RoI τ' p D s,
      ⟨s3, t3, rfl, fun u hu => (nomatch hu), by rw [upd_ne _ _ (Ne.symm hRp)]; exact upd_same _ _ _, by omega, by omega, z5, fun a o e h1 => ?_⟩, ?_, ?_⟩
    · rw [upd_ne _ _ (fun q => by rw [← q, upd_ne _ _ h1, e] at hR; cases hR), upd_ne _ _ h1]; exact e
    · refine ⟨trivial, by rw [rangePV_len]; unfold sizeLine; omega, fun _ _ _ _ => trivial, ?_⟩
      rintro C2 j q acc τ hq2 ⟨s', t', hlen, hts, gp, g1, g2, g3, gk⟩
      obtain ⟨rfl, hi2⟩ := rangePV_get hq2
      refine as_name .nil ?_
      refine ev_call (ev_glob P.g_law_item ⟨_, rfl, ev_cell (a := L + 1) rfl (gk _ _ yc cp) (ev_int ⟨kK P.k_law_item, ?_⟩)⟩) ff.handled
      have hd26 : drs 2 = 26 := rfl
      refine (item_c (n := n + 13) P hz 2 (d := 0) rfl (by omega) gp (gk _ _ yD (Ne.symm hpD)) (by omega) (by omega) g3 fun q s'' t'' b1 b2 b3 b4 => ?_).call
      refine ⟨_, .refl _, s'', t'', by rw [List.length_append, hlen]; rfl, fun v hv => ?_, upd_same _ _ _, by omega, by omega, b4, fun a o e h1 => by rw [upd_ne _ _ h1]; exact gk _ _ e h1⟩
      rcases List.mem_append.mp hv with hv | hv
      · exact hts v hv
      · rw [List.mem_singleton.mp hv]; exact b1
    · rintro S ps τ ⟨s', t', hlen, hps, gp, g1, g2, g3, gk⟩ hS
      rw [rangePV_len] at hlen g2
      have hSp : S ≠ p := fun q => by rw [q, gp] at hS; cases hS
      have kS : ∀ a o, τ' a = some o → a ≠ p → upd τ S (.list ps) a = some o := fun a o e h1 => by
        have e2 := gk _ _ e h1
        rw [upd_ne _ _ (fun q => by rw [← q, e2] at hS; cases hS)]; exact e2
      refine ⟨_, .refl _, s', t', rs ++ [(w, S, ps)], by rw [List.map_append]; rfl, by rw [List.length_append, hrl]; rfl, by rw [upd_ne _ _ (Ne.symm hSp)]; exact gp, by omega, by omega, g3, fun a o e h1 => kS _ _ (yk _ _ e h1) h1, fun r hr => ?_, kS _ _ yB hBp⟩
      rcases List.mem_append.mp hr with hr | hr
      · exact (yr r hr).kept kS
      · rw [List.mem_singleton.mp hr]
        exact ⟨upd_same _ _ _, hSp, (by show ps.length ≤ 3; omega), hps, hwm⟩
  rintro Rw acc τ2 ⟨s, t, rs, rfl, hrl, yp, y1, y2, y3, yk, yr, yB⟩ hRw
  have hrn : rs.length ≤ 3 := by rw [hrl]; unfold stPV; rw [List.length_map]; exact hwl
  have y2 : s ≤ 241 := by
    have : (stPV ws).length ≤ 3 := by unfold stPV; rw [List.length_map]; exact hwl
    omega
  clear hrl yB hB hws hwl hwk kB x1 x2 x3 x4 x5
  have hRp : Rw ≠ p := fun q => by rw [q, yp] at hRw; cases hRw
  refine as_name_foot (.nx .nil) ?_
  have z1 : upd τ2 Rw (.list (rs.map rowPV)) Rw = some (.list (rs.map rowPV)) := upd_same _ _ _
  have z2 : upd τ2 Rw (.list (rs.map rowPV)) p = some (penO D s t) := by rw [upd_ne _ _ (Ne.symm hRp)]; exact yp
  have z3 : ∀ r ∈ rs, RowOk p (upd τ2 Rw (.list (rs.map rowPV))) r := fun r hr => (yr r hr).sub (sub_new _ hRw)
  have z4 : ∀ a o, τ1 a = some o → a ≠ p → upd τ2 Rw (.list (rs.map rowPV)) a = some o := fun a o e h1 => sub_new _ hRw _ _ (yk a o e h1)
  generalize upd τ2 Rw (.list (rs.map rowPV)) = τ3 at z1 z2 z3 z4
  clear yp yk yr hRw
  -- writer
  refine ss_let (ev_call (ev_glob P.g_LineWriter ⟨_, rfl, ev_str ⟨kK P.k_279, ?_⟩⟩) ff.handled)
  rw [headL_of]
  refine (wr_make (n := n + 16) P fun W dw Sl hW hSl hWS => ⟨_, .nx (.nx .nil), ?_⟩).call
  have k4 : Sub τ3 (upd (upd τ3 Sl (.list (stPV [headL]))) W (wrO dw Sl)) := .trans (sub_new _ hSl) (sub_new _ (by rw [upd_ne _ _ hWS]; exact hW))
  have q1 : upd (upd τ3 Sl (.list (stPV [headL]))) W (wrO dw Sl) W = some (wrO dw Sl) := upd_same _ _ _
  have q2 : upd (upd τ3 Sl (.list (stPV [headL]))) W (wrO dw Sl) Sl = some (.list (stPV [headL])) := by rw [upd_ne _ _ (Ne.symm hWS)]; exact upd_same _ _ _
  have nSl : ∀ {a o}, τ3 a = some o → a ≠ Sl := fun {a o} e q => by rw [q, hSl] at e; cases e
  generalize upd (upd τ3 Sl (.list (stPV [headL]))) W (wrO dw Sl) = τ4 at k4 q1 q2
  have kk : ∀ {a o} X, τ3 a = some o → upd τ4 Sl X a = some o := fun {a o} X e => by rw [upd_ne _ _ (nSl e)]; exact k4 _ _ e
  have row_len : ∀ {r : RowD}, RowOk p τ3 r → (rowL r).length ≤ 3270 := fun {r} hr => by
    have h1 := hr.word.1
    have h2 := hr.len
    have := lineL_len (w := r.1) (ps := r.2.2) (k := 2) (by omega) (by omega) hr.ok (Nat.le_refl _)
    unfold rowL; omega
  refine ss_for ff (AddI τ4 a Rw W Sl rs) ?_
  refine ev_name m1 ⟨_, _, _, src_list (k4 _ _ z1), trivial, ⟨Nat.zero_le _, rfl, (upd_self q2).symm⟩, fun _ _ _ ⟨_, _, h⟩ => by rw [h]; exact kk _ z1, ?_, ?_⟩
  · rintro k q lo τ hq ⟨hk, rfl, rfl⟩
    rw [List.getElem?_map] at hq
    obtain ⟨r, hr, rfl⟩ := Option.map_eq_some_iff.mp hq
    have hkl := (List.getElem?_eq_some_iff.mp hr).1
    have ro := z3 r (List.mem_of_getElem? hr)
    unfold rowPV
    refine as_tuple ff.handled (as_name (.nx (.nx (.nx .nil))) (as_name (.nx (.nx (.nx (.nx .nil)))) ?_))
    have hW4 : upd τ4 Sl (.list (stPV (headL :: (rs.take k).map rowL))) W = some (wrO dw Sl) := by rw [upd_ne _ _ hWS]; exact q1
    refine ss_expr (ev_nmeth m2 hW4 P.m_LineWriter_add ff.handled (ev_name m3 (ev_name m4 ?_)))
    refine (wr_add (n := n + 12) P hW4 (upd_same _ _ _) (by simp; omega) (kk _ ro.lst) (by have := ro.word.1; omega) (by have := ro.len; omega) ro.ok (ss_nil ?_)).call
    refine ⟨_, _, fun p hp => List.mem_of_mem_take (i := 3) hp, .refl _, by omega, rfl, ?_⟩
    rw [upd_upd]
    congr 2
    rw [List.take_add_one, hr]
    simp [rowL]
  rintro lo τ ⟨_, rfl, rfl⟩
  rw [List.length_map, List.take_length]
  -- text
  have hW4 : upd τ4 Sl (.list (stPV (headL :: rs.map rowL))) W = some (wrO dw Sl) := by rw [upd_ne _ _ hWS]; exact q1
  have hlb : ∀ t ∈ headL :: rs.map rowL, t.length ≤ 3270 := fun t ht => by
    rcases List.mem_cons.mp ht with rfl | ht
    · decide
    · obtain ⟨r, hr, rfl⟩ := List.mem_map.mp ht
      exact row_len (z3 r hr)
  refine ss_let (ev_nmeth m2 hW4 P.m_LineWriter_text ff.handled (wr_text (n := n + 17) P hW4 (upd_same _ _ _) (by simp; omega) (fun t ht => Nat.le_trans (hlb t ht) (by decide)) ⟨_, .nx (.nx (.nx .nil)), ?_⟩).call)
  have kk5 : ∀ {a o}, τ3 a = some o → upd τ4 Sl (.list (stPV (headL :: rs.map rowL))) a = some o := kk _
  generalize upd τ4 Sl (.list (stPV (headL :: rs.map rowL))) = τ5 at kk5
  clear kk q1 q2 k4 hW4 nSl hSl hW
  have z5 := kk5 z1
  -- is the text the law's own?
  refine ss_if (b_cmp (ev_name m3 (ev_binop (ev_methG (ev_str ⟨_, _, gm_str PySem.F.slot_str_join PySem.F.type_str_join, ev_binop (ev_binop (ev_list (ev_str fun A hA => ?_)))⟩) ff.handled))))
  have hA2 : Sub τ5 (upd τ5 A (.list [.str (T headL)])) := sub_new _ hA
  have hA3 : upd τ5 A (.list [.str (T headL)]) A = some (.list [.str (T headL)]) := upd_same _ _ _
  generalize upd τ5 A (.list [.str (T headL)]) = τ6 at hA2 hA3
  refine ev_comp [] (ei_of (ev_name m1 ⟨_, _, _, src_list (hA2 _ _ z5), fun i acc τ' => acc = stPV ((rs.take i).map rowL) ∧ τ' = τ6, ⟨rfl, rfl⟩, ?_, ?_⟩)) ff.handled
  · refine ⟨trivial, by rw [List.length_map]; unfold sizeLine; omega, fun _ _ _ h => by rw [h.2]; exact hA2 _ _ z5, ?_⟩
    rintro C i q acc τ' hq ⟨rfl, rfl⟩
    rw [List.getElem?_map] at hq
    obtain ⟨r, hr, rfl⟩ := Option.map_eq_some_iff.mp hq
    have ro := z3 r (List.mem_of_getElem? hr)
    unfold rowPV
    refine as_tuple ff.handled (as_name .nil (as_name (.nx .nil) ?_))
    refine ev_call (ev_glob P.g_law_line ⟨_, rfl, ev_name m0 (ev_name m1 ⟨kK P.k_law_line, ?_⟩)⟩) ff.handled
    refine (line_c (n := n + 14) P (hA2 _ _ (kk5 ro.lst)) (by have := ro.word.1; omega) (by have := ro.len; omega) ro.ok ⟨_, .refl _, ?_, rfl⟩).call
    rw [List.take_add_one, hr]
    simp [stPV, rowL]
  rintro B acc τ' ⟨rfl, rfl⟩ hB
  rw [List.length_map, List.take_length]
  have hAB : A ≠ B := fun q => by rw [← q, hA3] at hB; cases hB
  refine op_lists (by rw [upd_ne _ _ hAB]; exact hA3) (upd_same _ _ _) (by unfold stPV sizeLine; simp; omega) fun R hR => ?_
  have hS1 : Sub τ5 (upd (upd τ' B (.list (stPV (rs.map rowL)))) R (.list ([.str (T headL)] ++ stPV (rs.map rowL)))) := .trans hA2 (.trans (sub_new _ hB) (sub_new _ hR))
  have hS2 : upd (upd τ' B (.list (stPV (rs.map rowL)))) R (.list ([.str (T headL)] ++ stPV (rs.map rowL))) R = some (.list ([.str (T headL)] ++ stPV (rs.map rowL))) := upd_same _ _ _
  generalize upd (upd τ' B (.list (stPV (rs.map rowL)))) R (.list ([.str (T headL)] ++ stPV (rs.map rowL))) = τ7 at hS1 hS2
  refine ev_list (ev_binop (ev_str (ev_call (ev_builtin P.b_str rfl ⟨_, rfl, ev_binop (ev_call (ev_builtin P.b_len rfl ⟨_, rfl, ev_name m1 ⟨kB, c_len_list (hS1 _ _ z5) (by rw [List.length_map]; omega) (ev_int (op_add ⟨kT, c_str_int ?_ (op_cat ?_ fun E hE => ?_)⟩))⟩⟩) ff.handled)⟩) ff.handled)))
  · rw [List.length_map]; exact log2_small (by omega)
  · rw [List.length_map, ofString_int, show (PySem.Str.ofString "end ").length = 4 by kernel_rfl, T_len]
    have := intS_len (a := (rs.length : Int) + 2) (m := 4) (by decide) (by omega)
    unfold sizeLine; omega
  rw [List.length_map, show (rs.length : Int) + 2 = ((rs.length + 2 : Nat) : Int) by omega, end_str (by omega)]
  have hRE : R ≠ E := fun q => by rw [← q, hS2] at hE; cases hE
  refine op_lists (by rw [upd_ne _ _ hRE]; exact hS2) (upd_same _ _ _) (by unfold stPV sizeLine; simp; omega) fun R2 hR2 => ⟨.inl ⟨_, rfl⟩, ?_⟩
  rw [show PySem.Str.ofString "\n" = T [10] by kernel_rfl]
  have hel := end_len (k := rs.length + 2) (by omega)
  have hlb2 : ∀ t ∈ (headL :: rs.map rowL) ++ [endL (rs.length + 2)], t.length ≤ 3270 := fun t ht => by
    rcases List.mem_append.mp ht with ht | ht
    · exact hlb t ht
    · rw [List.mem_singleton.mp ht]; omega
  have hjl := jn_len (sep := [10]) hlb2
  rw [List.length_append] at hjl
  simp only [List.length_cons, List.length_nil, List.length_map] at hjl
  refine join_show (ts := (headL :: rs.map rowL) ++ [endL (rs.length + 2)]) (b := 3270) (by rw [upd_same, List.map_append]; rfl) hlb2 (by decide) ?_ (ev_str (op_cat ?_ (cmp_nes ?_)))
  · simp only [List.length_append, List.length_cons, List.length_nil, List.length_map]; omega
  · simp only [T_len, List.length_singleton]; unfold sizeLine; omega
  have hte : (textL (headL :: rs.map rowL) != jn [10] ((headL :: rs.map rowL) ++ [endL (rs.length + 2)]) ++ [10]) = false := by
    unfold textL
    rw [List.length_cons, List.length_map, bne_self_eq_false]
  rw [T_append, T_bne, hte]
  refine ss_forget (fun p hp => hp) (.trans hS1 (.trans (sub_new _ hE) (sub_new _ hR2))) (ss_nil ?_)
  clear hS1 hS2 hRE hE hR2 hAB hB hA2 hA3 hA hR
  have b2 : bd 2 = 653 := rfl
  -- each item is read back
  refine ss_for ff (BackI τ5 a Rw W rs) ?_
  refine ev_name m1 ⟨_, _, _, src_list z5, trivial, ⟨Nat.zero_le _, rfl, rfl⟩, fun _ _ _ ⟨_, _, h⟩ => by rw [h]; exact z5, ?_, ?_⟩
  · rintro k q lo τ hq ⟨hk, rfl, rfl⟩
    rw [List.getElem?_map] at hq
    obtain ⟨r, hr, rfl⟩ := Option.map_eq_some_iff.mp hq
    have hkl := (List.getElem?_eq_some_iff.mp hr).1
    have ro := z3 r (List.mem_of_getElem? hr)
    have rS := kk5 ro.lst
    unfold rowPV
    refine as_tuple ff.handled (as_name (.nx (.nx (.nx (.nx .nil)))) (as_name (.nx (.nx (.nx (.nx (.nx .nil))))) ?_))
    refine ss_if (b_cmp (ev_comp [] (ei_of (ev_name m5 ⟨_, _, _, src_list rS, fun i acc τ' => acc = r.2.2.take i ∧ Sub τ τ', ⟨rfl, .refl _⟩, ?_, ?_⟩)) ff.handled))
    · refine ⟨trivial, by have := ro.len; unfold sizeLine; omega, fun _ _ _ h => h.2 _ _ rS, ?_⟩
      rintro C i q acc τ' hq2 ⟨rfl, hs⟩
      have hqo := ro.ok q (List.mem_of_getElem? hq2)
      refine as_name .nil ?_
      refine ev_methG (ev_call (ev_glob P.g_LineReader ⟨_, rfl, ev_call (ev_glob P.g_law_shown ⟨_, rfl, ev_name m0 ⟨kK P.k_law_shown, ?_⟩⟩) ff.handled⟩) ff.handled) ff.handled
      refine (shown_c (n := n + 15) P 2 hqo (Nat.le_refl _) ⟨kK P.k_393, ?_⟩).call
      refine (rd_make (n := n + 14) P fun rr dr x dx hrr hx hrx => ⟨_, _, gm_inst (upd_same _ _ _) P.m_LineReader_item rfl, ⟨kK P.m_LineReader_item.keep, ?_⟩⟩).call
      have hlen := shL_len hqo
      refine (rd_item0 (m := n + 6) (i := 0) (nl := 0) (res := .ok q []) P (upd_same _ _ _) (by rw [upd_ne _ _ (Ne.symm hrx)]; exact upd_same _ _ _) (by omega) (Nat.zero_le _) ?_ (fun a' t j e D h1 h2 => ?_) (fun _ _ _ e => (nomatch e))).call
      · have := PIt_sh 2 q hqo [] (fun x hx => (nomatch hx))
        rw [List.append_nil] at this
        exact this
      · cases e
        refine ⟨_, .refl _, ?_, ?_⟩
        · rw [List.take_add_one, hq2]; rfl
        · exact .trans hs (Keep.sub (ln_sub hrr hx hrx 0 0) hrr hx .cu)
    · rintro D2 acc τ' ⟨rfl, hs⟩ hD2
      have hne : D2 ≠ r.2.1 := fun q => by rw [q, hs _ _ rS] at hD2; cases hD2
      have hd := okIs_okDs ro.ok
      rw [List.take_length]
      refine ev_name m5 (cmp_nel (k := 2) (by decide) (upd_same _ _ _) (by rw [upd_ne _ _ (Ne.symm hne)]; exact hs _ _ rS) hd hd ?_)
      rw [eqvs_self0 hd]
      exact ss_nil (ss_nil ⟨_, _, fun p hp => List.mem_of_mem_take (i := 4) hp, .trans hs (sub_new _ hD2), by omega, rfl, rfl⟩)
  rintro lo τ ⟨_, rfl, rfl⟩
  -- the text as it is read
  have htx := textL_rest headL (rs.map rowL)
  rw [List.length_map] at htx
  have hrl : (restL (endL (rs.length + 2) ++ [10]) (rs.map rowL)).length ≤ 10000 := by
    have := restL_len (b := 3270) (e := endL (rs.length + 2) ++ [10]) (ts := rs.map rowL) (fun t ht => hlb t (.tail _ ht))
    rw [List.length_map, List.length_append, List.length_singleton] at this
    have h3 : rs.length * (3270 + 1) ≤ 3 * 3271 := Nat.mul_le_mul_right _ hrn
    omega
  have hr63 : 63 ∉ textL (headL :: rs.map rowL) := by
    rw [htx]
    intro q
    rcases List.mem_append.mp q with q | q
    · revert q; decide
    · rcases List.mem_cons.mp q with q | q
      · cases q
      · refine restL_63 (endL_63 _) (fun t ht => ?_) q
        obtain ⟨r, hr, rfl⟩ := List.mem_map.mp ht
        have ro := z3 r hr
        exact lineL_63 ro.word.2 ro.ok
  have htl : (textL (headL :: rs.map rowL)).length ≤ 10007 ∧ 7 ≤ (textL (headL :: rs.map rowL)).length := by
    rw [htx, List.length_append, List.length_cons, show headL.length = 6 from rfl]; omega
  generalize textL (headL :: rs.map rowL) = tx at htx hr63 htl
  obtain ⟨htl, htl7⟩ := htl
  -- reader
  refine ss_let (ev_call (ev_glob P.g_LineReader ⟨_, rfl, ev_name m3 ⟨kK P.k_393, ?_⟩⟩) ff.handled)
  refine (rd_make (n := n + 14) P fun r dr x dx hr hx hrx => ⟨_, .nx (.nx (.nx (.nx .nil))), ?_⟩).call
  have e0 : upd (upd τ x (cuO dx tx 0)) r (rdO dr x 0) = ln τ r x dr dx tx 0 0 := rfl
  rw [e0]
  refine ss_expr (ev_nmeth m4 ln_r P.m_LineReader_head ff.handled (ev_str ?_))
  refine (rd_head (n := n + 10) P ln_r (ln_x hrx 0) (by omega) (Nat.zero_le _) (by decide) (show tx.drop 0 = _ from htx) ?_).call
  rw [cu_ln hrx]
  have kl : ∀ {a o} j k, τ a = some o → ln τ r x dr dx tx j k a = some o := fun {a o} j k e => ln_sub hr hx hrx j k _ _ e
  refine ss_for ff (ReadI τ a Rw W r x dr dx tx rs) ?_
  refine ev_name m1 ⟨_, _, _, src_list (kl _ _ z5), trivial, ⟨Nat.zero_le _, rfl, 7, htl7, ?_, rfl⟩, fun _ _ _ ⟨_, _, _, _, _, h⟩ => by rw [h]; exact kl _ _ z5, ?_, ?_⟩
  · rw [htx, show headL ++ 10 :: restL (endL (rs.length + 2) ++ [10]) (rs.map rowL) = (headL ++ [10]) ++ restL (endL (rs.length + 2) ++ [10]) (rs.map rowL) by simp, List.drop_left' (by rfl)]; rfl
  · rintro k q lo τ' hq ⟨hk, rfl, j, hj, D1, rfl⟩
    rw [List.getElem?_map] at hq
    obtain ⟨r0, hr0, rfl⟩ := Option.map_eq_some_iff.mp hq
    have hkl := (List.getElem?_eq_some_iff.mp hr0).1
    have ro := z3 r0 (List.mem_of_getElem? hr0)
    have rS := kk5 ro.lst
    have hdk : rs.drop k = r0 :: rs.drop (k + 1) := by
      rw [List.drop_eq_getElem_cons hkl]
      congr 1
      exact Option.some.inj ((List.getElem?_eq_getElem hkl).symm.trans hr0)
    rw [hdk] at D1
    have D1 : tx.drop j = lineL r0.1 r0.2.2 ++ 10 :: restL (endL (rs.length + 2) ++ [10]) ((rs.drop (k + 1)).map rowL) := D1
    unfold rowPV
    refine as_tuple ff.handled (as_name (.nx (.nx (.nx (.nx (.nx .nil))))) (as_name (.nx (.nx (.nx (.nx (.nx (.nx .nil)))))) ?_))
    have hd := okIs_okDs ro.ok
    refine ss_if (b_cmp (ev_nmeth m4 ln_r P.m_LineReader_items ff.handled (ev_name m5 ?_)))
    refine (rd_items (m := n + 5) (res := .ok r0.2.2 (restL (endL (rs.length + 2) ++ [10]) ((rs.drop (k + 1)).map rowL))) P ln_r (ln_x hrx j) (by omega) hj (by have := ro.word.1; omega) (by rw [D1]; exact IT_line (by have := ro.len; omega) ro.ok) (fun ps' t j' S' e D2 h1 h2 h3 hS' => ?_) (fun _ _ _ e => (nomatch e))).call
    cases e
    rw [cu_ln hrx]
    have hne : S' ≠ r0.2.1 := fun q => by rw [q, kl _ _ rS] at hS'; cases hS'
    have hS2 : ln τ r x dr dx tx j' (k + 1 + 1) S' = none := by
      have := ln_none (j := j') (k := k + 1 + 1) ln_r (ln_x hrx j) hS'
      rw [ln_ln hrx] at this
      exact this
    refine ev_name m6 (cmp_nel (k := 2) (by decide) (upd_same _ _ _) (by rw [upd_ne _ _ (Ne.symm hne)]; exact kl _ _ rS) hd hd ?_)
    rw [eqvs_self0 hd]
    exact ss_nil (ss_nil ⟨_, _, fun p hp => List.mem_of_mem_take (i := 5) hp, sub_new _ hS2, by omega, rfl, j', h2, D2, rfl⟩)
  rintro lo τ' ⟨_, rfl, j, hj, D1, rfl⟩
  rw [List.length_map] at D1 ⊢
  rw [List.drop_length] at D1
  -- the end
  refine ss_expr (ev_nmeth m4 ln_r P.m_LineReader_finish ff.handled (rd_finish (m := n + 8) (res := .ok () []) P ln_r (ln_x hrx j) (by omega) hj (by rw [D1]; exact FN_end (by omega)) (fun _ t9 e9 => ?_) (fun _ _ _ e => (nomatch e))).call)
  rw [ln_ln hrx]
  refine ss_expr (ev_nmeth m4 ln_r P.m_LineReader_need_same ff.handled (ev_name m3 (rd_same0 (n := n + 13) P ln_r (ln_x hrx _) ?_).call))
  have y_r : ln τ r x dr dx tx tx.length (rs.length + 1 + 1) r = some (rdO dr x (rs.length + 1 + 1)) := ln_r
  have y_x : ln τ r x dr dx tx tx.length (rs.length + 1 + 1) x = some (cuO dx tx tx.length) := ln_x hrx _
  have y_k : ∀ {a o}, τ1 a = some o → a ≠ p → ln τ r x dr dx tx tx.length (rs.length + 1 + 1) a = some o := fun {a o} e h1 => kl _ _ (kk5 (z4 _ _ e h1))
  have y_p : ln τ r x dr dx tx tx.length (rs.length + 1 + 1) p = some (penO D s t) := kl _ _ (kk5 z2)
  have hrp : r ≠ p := fun q => by rw [q, kk5 z2] at hr; cases hr
  have hxp : x ≠ p := fun q => by rw [q, kk5 z2] at hx; cases hx
  generalize ln τ r x dr dx tx tx.length (rs.length + 1 + 1) = τ8 at y_r y_x y_k y_p
  clear kl kk5 z5 z4 z3 z2 z1 hx hr D1 hj htx hrl hlb hlb2 hjl hel e0
  -- spot
  refine ss_let (ev_call (ev_glob P.g_law_draw ⟨_, rfl, ev_cell (a := L + 1) rfl (y_k tc cp) (ev_call (ev_builtin P.b_len rfl ⟨_, rfl, ev_name m3 ⟨kB, c_len_str (by rw [T_len]; omega) ⟨kK P.k_law_draw, ?_⟩⟩⟩) ff.handled)⟩) ff.handled)
  rw [T_len]
  refine (draw_c (n := n + 17) P y_p (y_k tD (Ne.symm hpD)) hz y1 (by omega) y3 (by omega) (by omega) fun sp s4 t4 a1 a2 a3 a4 a5 => ⟨_, .nx (.nx (.nx (.nx (.nx .nil)))), ?_⟩).call
  obtain ⟨k, rfl⟩ : ∃ k : Nat, sp = k := ⟨sp.toNat, by omega⟩
  have hk : k < tx.length := by omega
  have x_r : upd τ8 p (penO D s4 t4) r = some (rdO dr x (rs.length + 1 + 1)) := by rw [upd_ne _ _ hrp]; exact y_r
  have x_x : upd τ8 p (penO D s4 t4) x = some (cuO dx tx tx.length) := by rw [upd_ne _ _ hxp]; exact y_x
  have x_k : ∀ {a o}, τ1 a = some o → a ≠ p → upd τ8 p (penO D s4 t4) a = some o := fun {a o} e h1 => by rw [upd_ne _ _ h1]; exact y_k e h1
  have x_p : upd τ8 p (penO D s4 t4) p = some (penO D s4 t4) := upd_same _ _ _
  have s4b : s4 ≤ 300 := by omega
  generalize upd τ8 p (penO D s4 t4) = τ9 at x_r x_x x_k x_p
  clear y_r y_x y_k y_p y2
  -- other
  have htk : (tx.take k).length = k := by rw [List.length_take]; omega
  have hdk1 : (tx.drop k).length ≤ 10007 := by rw [List.length_drop]; omega
  have hdk2 : (tx.drop (k + 1)).length ≤ 10007 := by rw [List.length_drop]; omega
  have ec : ((k : Int) + 1) = ((k + 1 : Nat) : Int) := by omega
  refine ss_let (ev_call (ev_glob P.g_law_pick ⟨_, rfl, ev_cell (a := L + 1) rfl (x_k tc cp) (ev_list ?_)⟩) ff.handled)
  refine ev_slice (ev_name m3 (ev_name m5 ⟨_, rfl, sl_str sliceT_to (by unfold sizeLine; omega) ?_⟩))
  refine ev_binop (ev_binop (ev_slice (ev_name m3 (ev_name m5 ⟨_, rfl, sl_str sliceT_to (by unfold sizeLine; omega) (ev_str ?_)⟩))))
  rw [show PySem.Str.ofString "?" = T [63] by kernel_rfl]
  refine op_cat (by simp only [T_len, List.length_singleton]; unfold sizeLine; omega) ?_
  rw [T_append]
  refine ev_slice (ev_name m3 (ev_binop (ev_name m5 (ev_int (op_add ⟨_, rfl, sl_str (y := tx.drop (k + 1)) (by rw [ec]; exact sliceT_from (by omega)) (by unfold sizeLine; omega) ?_⟩)))))
  refine op_cat (by simp only [T_len, List.length_append, List.length_singleton]; unfold sizeLine; omega) ?_
  rw [T_append]
  refine ev_binop (ev_binop (ev_slice (ev_name m3 (ev_name m5 ⟨_, rfl, sl_str sliceT_to (by unfold sizeLine; omega) (ev_str ?_)⟩))))
  refine op_cat (by simp only [T_len, List.length_singleton]; unfold sizeLine; omega) ?_
  rw [T_append]
  refine ev_slice (ev_name m3 (ev_name m5 ⟨_, rfl, sl_str (sliceT_from (by omega)) (by unfold sizeLine; omega) ?_⟩))
  refine op_cat (by simp only [T_len, List.length_append, List.length_singleton]; unfold sizeLine; omega) ?_
  rw [T_append]
  intro I hI
  have hIp : I ≠ p := fun q => by rw [q, x_p] at hI; cases hI
  have hID : I ≠ D := fun q => by rw [q, x_k tD (Ne.symm hpD)] at hI; cases hI
  refine ⟨kK P.k_law_pick, (pick_c (n := n + 16) P (D := D) (s := s4) (t := t4) (is := is) (by rw [upd_ne _ _ (Ne.symm hIp)]; exact x_p) (by rw [upd_ne _ _ (Ne.symm hID)]; exact x_k tD (Ne.symm hpD)) hz (by omega) (by omega) a5 (upd_same _ _ _) hIp (of_decide_eq_true rfl) (of_decide_eq_true rfl) fun q s5 t5 b1 b2 b3 b4 => ⟨_, .nx (.nx (.nx (.nx (.nx (.nx .nil))))), ?_⟩).call⟩
  obtain ⟨b, rfl, hb, hbl⟩ : ∃ b, q = .str (T (tx.take k ++ b)) ∧ (b = [] ∨ b.head? = some 63) ∧ b.length ≤ 10010 := by
    simp only [List.mem_cons, List.not_mem_nil, or_false] at b1
    rcases b1 with rfl | rfl | rfl
    · exact ⟨[], by rw [List.append_nil], .inl rfl, by decide⟩
    · exact ⟨63 :: tx.drop (k + 1), by rw [List.append_assoc]; rfl, .inr rfl, by rw [List.length_cons]; omega⟩
    · exact ⟨63 :: tx.drop k, by rw [List.append_assoc]; rfl, .inr rfl, by rw [List.length_cons]; omega⟩
  refine ss_forget (fun p hp => hp) (sub_upd (sub_new _ hI) p (penO D s5 t5)) ?_
  have w_r : upd τ9 p (penO D s5 t5) r = some (rdO dr x (rs.length + 1 + 1)) := by rw [upd_ne _ _ hrp]; exact x_r
  have w_x : upd τ9 p (penO D s5 t5) x = some (cuO dx tx tx.length) := by rw [upd_ne _ _ hxp]; exact x_x
  have w_k : ∀ {a o}, τ1 a = some o → a ≠ p → upd τ9 p (penO D s5 t5) a = some o := fun {a o} e h1 => by rw [upd_ne _ _ h1]; exact x_k e h1
  have w_p : upd τ9 p (penO D s5 t5) p = some (penO D s5 t5) := upd_same _ _ _
  generalize upd τ9 p (penO D s5 t5) = τ10 at w_r w_x w_k w_p
  have c440 : L + 1 ≠ 440 := fun q => by rw [q, u1] at n1; cases n1
  have c445 : L + 1 ≠ 445 := fun q => by rw [q, u2] at n1; cases n1
  have D440 : D ≠ 440 := fun q => by rw [q, u1] at hD; cases hD
  have D445 : D ≠ 445 := fun q => by rw [q, u2] at hD; cases hD
  refine ss_try (Xb := fun C fs lo τ => C = 95 ∧ ErrAt k fs τ ∧ Sub τ10 τ ∧ lo = ([("script", .k (.ref a)), ("rows", .k (.ref Rw)), ("writer", .k (.ref W)), ("text", .str (T tx)), ("reader", .k (.ref r)), ("spot", .int (k : Int)), ("other", .str (T (tx.take k ++ b)))] : Loc)) P.xi.shape ff P.g_TableError ?_ ?_
  · refine ss_expr (ev_nmeth m4 w_r P.m_LineReader_need_same ff.handled (ev_name m6 ?_))
    refine (rd_same1 (n := n + 13) P (p := tx.take k) (a := tx.drop k) (b := b) w_r w_x (by omega) (by rw [List.length_append]; omega) (List.take_append_drop k tx).symm ?_ ?_ (fun fs τ he hs => ⟨rfl, by rw [htk] at he; exact he, hs, rfl⟩)).call
    · intro q
      rcases hb with hb | hb
      · rw [hb] at q
        have := congrArg List.length q
        rw [List.length_drop] at this
        simp at this; omega
      · rw [← q] at hb
        exact hr63 (List.mem_of_mem_drop (List.mem_of_mem_head? hb))
    · intro j hj q
      rcases hb with hb | hb
      · rw [hb] at q; cases q
      · rw [hb] at q; cases q
        exact hr63 (List.mem_of_mem_drop (List.mem_of_mem_head? hj))
  rintro C' fs lo τ ⟨rfl, ⟨w, q, dq, lnn, cl, rfl, hq⟩, hsub, rfl⟩
  refine ⟨rfl, fun ax dx' na nd => ⟨_, .nx (.nx (.nx (.nx (.nx (.nx (.nx .nil)))))), ?_⟩⟩
  have haq : q ≠ ax := fun z => na (z ▸ .inl ⟨_, hq⟩)
  have hax : τ ax = none := by
    cases e : τ ax with
    | none => rfl
    | some o => exact absurd (.inl ⟨o, e⟩) na
  refine ss_if (b_cmp (ev_attr (ev_attrX (ev_name m7 ⟨ax, 95, dx', _, false, _, rfl, upd_same _ _ _, P.x_95_at, rfl, rfl, ?_⟩))))
  refine ⟨_, _, _, ⟨q, dq, rfl, .inl (by rw [upd_ne _ _ haq]; exact hq)⟩, P.a_46_offset, rfl, rfl, ev_name m5 (cmp_ne ?_)⟩
  rw [bne_self_eq_false]
  refine ss_nil (ss_nil (ss_forget (fun p hp => hp) (.trans hsub (sub_new _ hax)) ?_))
  -- the three others
  refine ss_ret (ev_and (ev_call (ev_glob P.g_law_wrong_holds ⟨_, rfl, ev_cell (a := L + 1) rfl (w_k tc cp) ⟨kK P.k_law_wrong_holds, ?_⟩⟩) ff.handled))
  refine (wrong_c (n := n + 2) P hz w_p (w_k tD (Ne.symm hpD)) (by omega) (by omega) b4 (w_k v1 (Ne.symm w1)) w1 fun τa s6 t6 g1 g2 g3 g4 g5 g6 => ⟨_, rfl, ?_⟩).call
  refine ev_and (ev_call (ev_glob P.g_law_ends_hold ⟨_, rfl, ev_cell (a := L + 1) rfl (g1 _ _ (w_k tc cp) cp c440) ⟨kK P.k_law_ends_hold, ?_⟩⟩) ff.handled)
  refine (ends_c (n := n + 5) P hz g2 (g1 _ _ (w_k tD (Ne.symm hpD)) (Ne.symm hpD) D440) (by omega) (by omega) g5 (g1 _ _ (w_k v2 (Ne.symm w2)) (Ne.symm w2) (by decide)) w2 fun τb s7 t7 f1 f2 f3 f4 f5 f6 => ⟨_, rfl, ?_⟩).call
  refine ev_one (ev_call (ev_glob P.g_law_rules_hold ⟨_, rfl, ev_cell (a := L + 1) rfl (f1 _ _ (g1 _ _ (w_k tc cp) cp c440) cp c445) ⟨kK P.k_law_rules_hold, ?_⟩⟩) ff.handled)
  refine (rules_c (n := n) P hz f2 (f1 _ _ (g1 _ _ (w_k tD (Ne.symm hpD)) (Ne.symm hpD) D440) (Ne.symm hpD) D445) (by omega) (by omega) f5 (f1 _ _ (g1 _ _ (w_k v3 (Ne.symm w3)) (Ne.symm w3) (by decide)) (Ne.symm w3) (by decide)) w3 fun τx e1 e2 => ?_).call
  obtain ⟨p6, g6⟩ := g6
  obtain ⟨p7, f6⟩ := f6
  exact ⟨_, .refl _, h τx ⟨p6, e2 _ _ (f1 _ _ g6 (Ne.symm w1) (by decide)) (Ne.symm w1) (by decide)⟩ ⟨p7, e2 _ _ f6 (Ne.symm w2) (by decide)⟩ e1⟩
end
end Mine
end B26
section B27
open PySem PySem.W PySem.Calls PyProof.Rows PySem.Challenge
set_option maxRecDepth 100000
set_option linter.unusedVariables false
namespace Mine

noncomputable def σ0 : Sto := upd (upd (upd (fun _ => none) 440 (.tab #[])) 445 (.tab #[])) 452 (.tab #[])
theorem σ0_of {a : Addr} {o : AO} (e : σ0 a = some o) : (a = 440 ∨ a = 445 ∨ a = 452) ∧ o = .tab #[] := by
  unfold σ0 upd at e
  split at e
  · cases e; exact ⟨.inr (.inr ‹_›), rfl⟩
  · split at e
    · cases e; exact ⟨.inr (.inl ‹_›), rfl⟩
    · split at e
      · cases e; exact ⟨.inl ‹_›, rfl⟩
      · cases e

theorem law_run {c : Cx} (P : PK c) (C : c.Ok) {fa : Addr} {cd : Value} (F : FnB c fa "law" "law" (fnArgs (topSt 32)) (fnBody (topSt 32)) (fnScope (topSt 32)) .none cd)
    {a : Addr} {vs : List Value} {is0 : List Int} (ha : c.h₀.IsList a vs.toArray) (hi : IntsAre vs is0) (hz : vs.length ≤ sizeLine) {s : Shared}
    (base : c.h₀.StaysIn s.heap) (hg : s.gens = #[]) (hos : s.os = c.os₀) (ht : ∀ P, P = 440 ∨ P = 445 ∨ P = 452 → s.heap.get? P = some (tabObj #[]) ∧ c.h₀.get? P = none) :
    codeAny c.M callerA (.call (.ref fa) ⟨[.ref a], []⟩) (fun r s' => r = .ok (.ret (.bool true)) ∧ c.h₀.StaysIn s'.heap ∧ s'.os = c.os₀ ∧ s'.gens = #[] ∧
      GrownAt 440 s'.heap ∧ GrownAt 445 s'.heap ∧ GrownAt 452 s'.heap) s := by
  have R : CRel c callerA 19 σ0 s := by
    refine ⟨C, ⟨by decide, by decide⟩, base, hg, hos, ⟨[], rfl, fun _ h => nomatch h⟩, fun a o e => ?_, fun a f => ?_, fun x y o p d e1 _ d1 _ => ?_⟩
    · obtain ⟨h1, rfl⟩ := σ0_of e
      exact (ht a h1).1
    · rcases f with ⟨o, e⟩ | ⟨x, o, e, d⟩
      · exact (ht a (σ0_of e).1).2
      · obtain ⟨_, rfl⟩ := σ0_of e
        cases d
    · obtain ⟨_, rfl⟩ := σ0_of e1
      cases d1
  have L := law_c (n := 0) (σ := σ0) (Φ := fun p τ => p = .k (.bool true) ∧ (∃ ps, τ 440 = some (.tab ps)) ∧ (∃ ps, τ 445 = some (.tab ps)) ∧ ∃ ps, τ 452 = some (.tab ps)) (X := fun _ _ _ => False) P F ha hi hz rfl rfl rfl
    fun τ x y z => ⟨rfl, x, y, z⟩
  refine codeAny_mono (L.run callerA s [.ref a] rfl R (.cons (.k _) .nil)) fun r s' x => ?_
  have two : ∀ v, CNP c callerA 19 σ0 s (fun p τ => p = .k (.bool true) ∧ (∃ ps, τ 440 = some (.tab ps)) ∧ (∃ ps, τ 445 = some (.tab ps)) ∧ ∃ ps, τ 452 = some (.tab ps)) v s' →
      v = .bool true ∧ c.h₀.StaysIn s'.heap ∧ s'.os = c.os₀ ∧ s'.gens = #[] ∧ GrownAt 440 s'.heap ∧ GrownAt 445 s'.heap ∧ GrownAt 452 s'.heap := fun v y => by
    obtain ⟨p, τ, ⟨rfl, ⟨p1, t1⟩, ⟨p2, t2⟩, ⟨p3, t3⟩⟩, hv, R', _⟩ := y
    cases hv
    exact ⟨rfl, R'.base, R'.os, R'.gens, ⟨p1, R'.sto _ _ t1⟩, ⟨p2, R'.sto _ _ t2⟩, ⟨p3, R'.sto _ _ t3⟩⟩
  cases r with
  | error e =>
    obtain ⟨_, _, _, _, _, _, hf, _⟩ := x
    exact hf.elim
  | ok f =>
    cases f with
    | ret v =>
      obtain ⟨rfl, y⟩ := two _ x
      exact ⟨rfl, y⟩
    | _ => exact x.elim
end Mine
end B27
section HD
open PySem PySem.W PySem.Calls PyProof.Rows PySem.Challenge
set_option maxRecDepth 100000
set_option maxHeartbeats 0
set_option linter.unusedVariables false
namespace Mine

noncomputable abbrev eT : Obj := { cls := .type "tuple", data := .seq #[] }
noncomputable abbrev eF : Obj := { cls := .none, data := .fields #[] }
noncomputable abbrev fnO (name qual : PySem.Str) (st : Stmt) (df : Value) : Obj :=
  { cls := .none, data := .func { name := name, qualname := qual, params := fnArgs st, body := .stmts (fnBody st), scope := fnScope st, globals := 0, closure := [], defaults := df, kwdefaults := .none } }
noncomputable def hTree47 : Params → BT := fun P => .node (boot_o_0 P) (.node (boot_o_1 P) (.node (boot_o_3 P) (.node (boot_o_7 P) .nil .nil) (.node eT .nil .nil)) (.node (boot_o_5 P) (.node (boot_o_9 P) .nil .nil) (.node ({ cls := .type "code", data := .fields #[vs "<module>" 182, vs "<module>" 183, vs "/claim/cut.py" 184, .int 1 0, .int 0 0, .int 0 0, .int 0 0, .int 0 0, .ref 11, .bool false, .int 181 0, .ref 12, .none, .none, .none, .none, .int 185 0, .int 1 0, vs "/claim/cut.py" 186] }) .nil .nil))) (.node (boot_o_2 P) (.node (boot_o_4 P) (.node (boot_o_8 P) .nil .nil) (.node eF .nil .nil)) (.node (boot_o_6 P) (.node (boot_o_10 P) .nil .nil) (.node ({ cls := .type "frame", slots := #[some (.ref 13), some (.ref 3), some (.ref 3), none, some (vs "__main__" 164), none, some (.ref 0)] }) .nil .nil)))
noncomputable def hTree58 : Params → BT := fun P => .node (boot_o_0 P) (.node (boot_o_1 P) (.node ({ cls := .type "dict", data := .dict #[de P "__name__" 165 (vs "grammarmill.source" 194), de P "__doc__" 166 (.none), de P "__package__" 167 (.none), de P "__loader__" 168 (.builtin "__main__.__loader__#opaque"), de P "__spec__" 169 (.none), de P "__annotations__" 170 (.ref 6), de P "__builtins__" 171 (.ref 4), de P "__file__" 173 (vs "/claim/cut.py" 172), de P "__cached__" 174 (.none), de P "_wall" 193 (.ref 21), de P "FIGURES" 197 (vs "0123456789" 196), de P "HEX_SIGNS" 200 (vs "0123456789abcdefABCDEF" 199), de P "OCTAL_SIGNS" 202 (vs "01234567" 201), de P "MOST_FIGURES_source" 204 (.int 4000 203), de P "PLAIN_ESCAPES" 226 (.ref 22)] 15 }) (.node (boot_o_7 P) (.node eT .nil .nil) .nil) (.node eT (.node (fnO "_wall" "_wall" (topSt 0) (.none)) .nil .nil) .nil)) (.node (boot_o_5 P) (.node (boot_o_9 P) (.node ({ cls := .type "tuple", data := .seq #[vs "k" 190] }) .nil .nil) .nil) (.node ({ cls := .type "code", data := .fields #[vs "<module>" 182, vs "<module>" 183, vs "/claim/cut.py" 184, .int 1 0, .int 0 0, .int 0 0, .int 0 0, .int 0 0, .ref 11, .bool false, .int 181 0, .ref 12, .none, .none, .none, .none, .int 185 0, .int 1 0, vs "/claim/cut.py" 186] }) (.node ({ cls := .type "function", data := fnD "_wall" "_wall" (topSt 0) 164 "__main__" (.none) (.ref 20) 3 [] (.none) }) .nil .nil) .nil))) (.node (boot_o_2 P) (.node (boot_o_4 P) (.node (boot_o_8 P) (.node eF .nil .nil) .nil) (.node ({ cls := .none, data := .fields #[.int 1 0, .int 0 0, .ref 20] }) (.node ({ cls := .type "code", data := .fields #[vs "_wall" 187, vs "_wall" 188, vs "/claim/cut.py" 189, .int 1 0, .int 1 0, .int 0 0, .int 0 0, .int 3 0, .ref 15, .bool true, .int 181 0, .ref 16, .none, .ref 17, .ref 18, .ref 19, .int 191 0, .int 1 0, vs "/claim/cut.py" 192] }) .nil .nil) .nil)) (.node (boot_o_6 P) (.node (boot_o_10 P) (.node eT .nil .nil) .nil) (.node ({ cls := .type "frame", slots := #[some (.ref 13), some (.ref 3), some (.ref 3), none, some (vs "__main__" 164), none, some (.ref 0)] }) (.node ({ cls := .type "dict", data := .dict #[de P "n" 205 (.int 10 206), de P "t" 207 (.int 9 208), de P "r" 209 (.int 13 210), de P "f" 211 (.int 12 212), de P "v" 213 (.int 11 214), de P "a" 215 (.int 7 216), de P "b" 217 (.int 8 218)] 7 }) .nil .nil) .nil)))
noncomputable def hTree227 : Params → BT := fun P => .node (boot_o_0 P) (.node (boot_o_1 P) (.node ({ cls := .type "dict", data := .dict #[de P "__name__" 165 (vs "grammarmill.source" 194), de P "__doc__" 166 (.none), de P "__package__" 167 (.none), de P "__loader__" 168 (.builtin "__main__.__loader__#opaque"), de P "__spec__" 169 (.none), de P "__annotations__" 170 (.ref 6), de P "__builtins__" 171 (.ref 4), de P "__file__" 173 (vs "/claim/cut.py" 172), de P "__cached__" 174 (.none), de P "_wall" 193 (.ref 21), de P "FIGURES" 197 (vs "0123456789" 196), de P "HEX_SIGNS" 200 (vs "0123456789abcdefABCDEF" 199), de P "OCTAL_SIGNS" 202 (vs "01234567" 201), de P "MOST_FIGURES_source" 204 (.int 4000 203), de P "PLAIN_ESCAPES" 226 (.ref 22), de P "Position" 266 (.ref 46), de P "position_of" 278 (.ref 57), de P "ToolError" 316 (.ref 82), de P "TableError" 332 (.ref 95), de P "Cursor" 491 (.ref 222)] 20 }) (.node (boot_o_7 P) (.node eT (.node eF (.node ({ cls := .type "code", data := .fields #[vs "ToolError" 281, vs "ToolError" 282, vs "/claim/cut.py" 283, .int 28 0, .int 0 0, .int 0 0, .int 0 0, .int 0 0, .ref 61, .bool false, .int 181 0, .ref 62, .none, .none, .none, .none, .int 284 0, .int 28 0, vs "/claim/cut.py" 285] }) (.node ({ cls := .type "function", data := fnD "peek" "Cursor.peek" (inSt 11 2) 194 "grammarmill.source" (.ref 120) (.ref 126) 3 [] (.none) }) .nil .nil) (.node ({ cls := .type "function", data := fnD "position" "Cursor.position" (inSt 11 11) 194 "grammarmill.source" (.none) (.ref 190) 3 [] (.none) }) .nil .nil)) (.node ({ cls := .type "type", data := .cls { name := "TableError", bases := [.ref 82], mro := [.ref 95, .ref 82, .type "Exception", .type "BaseException", .type "object"], ns := 94, qualname := "TableError" }, slots := #[some (.ref 86), none, some (vs "TableError" 317), some (vs "TableError" 325), some (.builtin "Exception.__new__"), some (.bool true)] }) (.node eT .nil .nil) (.node ({ cls := .type "getset_descriptor", data := .fields #[vs "__dict__" 485, .ref 222, .builtin "function.__dict__", .builtin "function.__dict__#set"] }) .nil .nil))) (.node ({ cls := .type "getset_descriptor", data := .fields #[vs "__dict__" 260, .ref 46, .builtin "function.__dict__", .builtin "function.__dict__#set"] }) (.node ({ cls := .type "function", data := fnD "told" "ToolError.told" (inSt 9 1) 194 "grammarmill.source" (.none) (.ref 78) 3 [] (.none) }) (.node eF .nil .nil) (.node eF .nil .nil)) (.node ({ cls := .type "code", data := .fields #[vs "__init__" 346, vs "Cursor.__init__" 347, vs "/claim/cut.py" 348, .int 43 0, .int 3 0, .int 0 0, .int 0 0, .int 3 0, .ref 106, .bool true, .int 181 0, .ref 107, .none, .ref 108, .ref 109, .ref 110, .int 352 0, .int 43 0, vs "/claim/cut.py" 353] }) (.node (fnO "name" "Cursor.name" (inSt 11 9) (.none)) .nil .nil) .nil))) (.node eT (.node ({ cls := .type "tuple", data := .seq #[vs "self" 252] }) (.node ({ cls := .type "code", data := .fields #[vs "__init__" 291, vs "ToolError.__init__" 292, vs "/claim/cut.py" 293, .int 30 0, .int 3 0, .int 0 0, .int 0 0, .int 3 0, .ref 66, .bool true, .int 181 0, .ref 67, .none, .ref 68, .ref 69, .ref 70, .int 297 0, .int 30 0, vs "/claim/cut.py" 298] }) (.node eT .nil .nil) (.node eT .nil .nil)) (.node ({ cls := .type "code", data := .fields #[vs "Cursor" 335, vs "Cursor" 336, vs "/claim/cut.py" 337, .int 41 0, .int 0 0, .int 0 0, .int 0 0, .int 0 0, .ref 101, .bool false, .int 181 0, .ref 102, .none, .none, .none, .none, .int 338 0, .int 41 0, vs "/claim/cut.py" 339] }) (.node eT .nil .nil) .nil)) (.node (fnO "position_of" "position_of" (topSt 8) (.none)) (.node ({ cls := .type "builtin_function_or_method", data := .fields #[.builtin "type.__prepare__", .type "type"] }) (.node ({ cls := .type "tuple", data := .seq #[vs "self" 399, vs "signs" 400, vs "begun" 401] }) .nil .nil) (.node ({ cls := .type "tuple", data := .seq #[vs "self" 475, vs "end" 476, vs "signs" 477, vs "sign" 478] }) .nil .nil)) (.node ({ cls := .type "function", data := fnD "is_done" "Cursor.is_done" (inSt 11 1) 194 "grammarmill.source" (.none) (.ref 118) 3 [] (.none) }) (.node ({ cls := .type "code", data := .fields #[vs "number" 428, vs "Cursor.number" 429, vs "/claim/cut.py" 430, .int 87 0, .int 1 0, .int 0 0, .int 0 0, .int 3 0, .ref 178, .bool true, .int 181 0, .ref 179, .none, .ref 180, .ref 181, .ref 182, .int 434 0, .int 87 0, vs "/claim/cut.py" 435] }) .nil .nil) .nil)))) (.node eT (.node (fnO "_wall" "_wall" (topSt 0) (.none)) (.node ({ cls := .type "code", data := .fields #[vs "__init__" 239, vs "Position.__init__" 240, vs "/claim/cut.py" 241, .int 12 0, .int 4 0, .int 0 0, .int 0 0, .int 3 0, .ref 30, .bool true, .int 181 0, .ref 31, .none, .ref 32, .ref 33, .ref 34, .int 246 0, .int 12 0, vs "/claim/cut.py" 247] }) (.node eF (.node eT .nil .nil) (.node eT .nil .nil)) (.node ({ cls := .type "builtin_function_or_method", data := .fields #[.builtin "type.__prepare__", .type "type"] }) (.node ({ cls := .type "tuple", data := .seq #[vs " \t" 412] }) .nil .nil) .nil)) (.node eT (.node ({ cls := .type "getset_descriptor", data := .fields #[vs "__weakref__" 310, .ref 82, .builtin "ExceptionGroup.__weakref__", .none] }) (.node ({ cls := .type "code", data := .fields #[vs "skip" 388, vs "Cursor.skip" 389, vs "/claim/cut.py" 390, .int 66 0, .int 2 0, .int 0 0, .int 0 0, .int 3 0, .ref 142, .bool true, .int 181 0, .ref 143, .none, .ref 144, .ref 145, .ref 146, .int 393 0, .int 66 0, vs "/claim/cut.py" 394] }) .nil .nil) (.node ({ cls := .type "code", data := .fields #[vs "escape" 464, vs "Cursor.escape" 465, vs "/claim/cut.py" 466, .int 109 0, .int 1 0, .int 0 0, .int 0 0, .int 3 0, .ref 206, .bool true, .int 181 0, .ref 207, .none, .ref 208, .ref 209, .ref 210, .int 469 0, .int 109 0, vs "/claim/cut.py" 470] }) .nil .nil)) (.node ({ cls := .type "tuple", data := .seq #[vs "self" 358] }) (.node eF .nil .nil) .nil))) (.node ({ cls := .none, data := .fields #[.int 12 0, .int 4 0, .ref 35, .int 17 0, .int 4 0, .ref 42] }) (.node ({ cls := .type "function", data := fnD "told" "Position.told" (inSt 7 1) 194 "grammarmill.source" (.none) (.ref 42) 3 [] (.none) }) (.node ({ cls := .type "tuple", data := .seq #[vs "self" 303] }) (.node (fnO "take" "Cursor.take" (inSt 11 4) (.none)) .nil .nil) (.node (fnO "coded" "Cursor.coded" (inSt 11 13) (.none)) .nil .nil)) (.node eF (.node eT .nil .nil) .nil)) (.node ({ cls := .type "builtin_function_or_method", data := .fields #[.builtin "type.__prepare__", .type "type"] }) (.node ({ cls := .type "code", data := .fields #[vs "TableError" 319, vs "TableError" 320, vs "/claim/cut.py" 321, .int 39 0, .int 0 0, .int 0 0, .int 0 0, .int 0 0, .ref 89, .bool false, .int 181 0, .ref 90, .none, .none, .none, .none, .int 322 0, .int 39 0, vs "/claim/cut.py" 323] }) (.node ({ cls := .type "function", data := fnD "take_while" "Cursor.take_while" (inSt 11 6) 194 "grammarmill.source" (.none) (.ref 154) 3 [] (.none) }) .nil .nil) (.node ({ cls := .type "function", data := fnD "quoted" "Cursor.quoted" (inSt 11 15) 194 "grammarmill.source" (.none) (.ref 218) 3 [] (.none) }) .nil .nil)) (.node ({ cls := .type "tuple", data := .seq #[vs "self" 366, vs "ahead" 367, vs "at" 368] }) (.node ({ cls := .type "tuple", data := .seq #[vs "self" 440] }) .nil .nil) .nil))))) (.node (boot_o_5 P) (.node (boot_o_9 P) (.node ({ cls := .type "tuple", data := .seq #[vs "k" 190] }) (.node eT (.node ({ cls := .type "tuple", data := .seq #[.none] }) (.node eF .nil .nil) (.node eF .nil .nil)) (.node ({ cls := .type "builtin_function_or_method", data := .fields #[.builtin "object.__init_subclass__", .ref 95] }) (.node ({ cls := .type "code", data := .fields #[vs "take_line" 405, vs "Cursor.take_line" 406, vs "/claim/cut.py" 407, .int 78 0, .int 1 0, .int 0 0, .int 0 0, .int 3 0, .ref 156, .bool true, .int 181 0, .ref 157, .none, .ref 158, .ref 159, .ref 160, .int 409 0, .int 78 0, vs "/claim/cut.py" 410] }) .nil .nil) (.node ({ cls := .type "super", data := .fields #[.ref 222, .ref 222, .ref 222] }) .nil .nil))) (.node ({ cls := .type "super", data := .fields #[.ref 46, .ref 46, .ref 46] }) (.node ({ cls := .type "dict", data := .dict #[de P "__module__" 286 (vs "grammarmill.source" 194), de P "__firstlineno__" 290 (.int 28 289), de P "__init__" 299 (.ref 72), de P "told" 306 (.ref 79), de P "__static_attributes__" 309 (.ref 80), de P "__weakref__" 311 (.ref 83), de P "__doc__" 312 (.none)] 3 }) (.node eT .nil .nil) (.node eT .nil .nil)) (.node eT (.node ({ cls := .type "function", data := fnD "name" "Cursor.name" (inSt 11 9) 194 "grammarmill.source" (.none) (.ref 176) 3 [] (.none) }) .nil .nil) .nil))) (.node ({ cls := .type "dict", data := .dict #[de P "__module__" 234 (vs "grammarmill.source" 194), de P "__qualname__" 236 (vs "Position" 235), de P "__firstlineno__" 238 (.int 10 237), de P "__init__" 248 (.ref 36), de P "told" 255 (.ref 43), de P "__static_attributes__" 259 (.ref 44)] 6 }) (.node (fnO "told" "Position.told" (inSt 7 1) (.none)) (.node eT (.node ({ cls := .type "tuple", data := .seq #[vs "self" 383, vs "sign" 384] }) .nil .nil) (.node ({ cls := .type "tuple", data := .seq #[vs "self" 455, vs "signs" 456, vs "most" 457, vs "base" 458, vs "code" 459, vs "taken" 460] }) .nil .nil)) (.node ({ cls := .type "tuple", data := .seq #[.int 0 345] }) (.node ({ cls := .type "code", data := .fields #[vs "skip_blanks" 413, vs "Cursor.skip_blanks" 414, vs "/claim/cut.py" 415, .int 81 0, .int 2 0, .int 0 0, .int 0 0, .int 3 0, .ref 164, .bool true, .int 181 0, .ref 165, .none, .ref 166, .ref 167, .ref 168, .int 418 0, .int 81 0, vs "/claim/cut.py" 419] }) .nil .nil) .nil)) (.node ({ cls := .type "function", data := fnD "position_of" "position_of" (topSt 8) 194 "grammarmill.source" (.none) (.ref 56) 3 [] (.none) }) (.node eT (.node (fnO "take_while" "Cursor.take_while" (inSt 11 6) (.none)) .nil .nil) (.node (fnO "quoted" "Cursor.quoted" (inSt 11 15) (.none)) .nil .nil)) (.node eT (.node eT .nil .nil) .nil)))) (.node ({ cls := .type "code", data := .fields #[vs "<module>" 182, vs "<module>" 183, vs "/claim/cut.py" 184, .int 1 0, .int 0 0, .int 0 0, .int 0 0, .int 0 0, .ref 11, .bool false, .int 181 0, .ref 12, .none, .none, .none, .none, .int 185 0, .int 1 0, vs "/claim/cut.py" 186] }) (.node ({ cls := .type "function", data := fnD "_wall" "_wall" (topSt 0) 164 "__main__" (.none) (.ref 20) 3 [] (.none) }) (.node eT (.node eT (.node ({ cls := .type "code", data := .fields #[vs "starts" 372, vs "Cursor.starts" 373, vs "/claim/cut.py" 374, .int 56 0, .int 2 0, .int 0 0, .int 0 0, .int 3 0, .ref 128, .bool true, .int 181 0, .ref 129, .none, .ref 130, .ref 131, .ref 132, .int 377 0, .int 56 0, vs "/claim/cut.py" 378] }) .nil .nil) (.node ({ cls := .type "code", data := .fields #[vs "position_at" 444, vs "Cursor.position_at" 445, vs "/claim/cut.py" 446, .int 98 0, .int 2 0, .int 0 0, .int 0 0, .int 3 0, .ref 192, .bool true, .int 181 0, .ref 193, .none, .ref 194, .ref 195, .ref 196, .int 449 0, .int 98 0, vs "/claim/cut.py" 450] }) .nil .nil)) (.node eT (.node eF .nil .nil) .nil)) (.node ({ cls := .type "tuple", data := .seq #[vs "text" 270, vs "offset" 271, vs "at" 272, vs "line" 273, vs "begun" 274, vs "here" 275] }) (.node ({ cls := .type "builtin_function_or_method", data := .fields #[.builtin "object.__init_subclass__", .ref 82] }) (.node eT .nil .nil) (.node eT .nil .nil)) (.node (fnO "is_done" "Cursor.is_done" (inSt 11 1) (.none)) (.node eT .nil .nil) .nil))) (.node ({ cls := .type "frame", slots := #[some (.ref 28), some (.ref 3), some (.ref 25), none, some (vs "grammarmill.source" 194), none, some (.ref 0)] }) (.node ({ cls := .type "dict", data := .dict #[de P "__module__" 234 (vs "grammarmill.source" 194), de P "__firstlineno__" 238 (.int 10 237), de P "__init__" 248 (.ref 36), de P "told" 255 (.ref 43), de P "__static_attributes__" 259 (.ref 44), de P "__dict__" 261 (.ref 47), de P "__weakref__" 263 (.ref 48), de P "__doc__" 264 (.none)] 4 }) (.node (fnO "told" "ToolError.told" (inSt 9 1) (.none)) (.node ({ cls := .type "function", data := fnD "take" "Cursor.take" (inSt 11 4) 194 "grammarmill.source" (.none) (.ref 140) 3 [] (.none) }) .nil .nil) (.node ({ cls := .type "function", data := fnD "coded" "Cursor.coded" (inSt 11 13) 194 "grammarmill.source" (.none) (.ref 204) 3 [] (.none) }) .nil .nil)) (.node eT (.node ({ cls := .type "tuple", data := .seq #[vs "self" 424] }) .nil .nil) .nil)) (.node eT (.node eT (.node eF .nil .nil) (.node ({ cls := .type "dict", data := .dict #[de P "__module__" 340 (vs "grammarmill.source" 194), de P "__firstlineno__" 344 (.int 41 343), de P "__init__" 354 (.ref 112), de P "is_done" 361 (.ref 119), de P "peek" 371 (.ref 127), de P "starts" 379 (.ref 134), de P "take" 387 (.ref 141), de P "skip" 395 (.ref 148), de P "take_while" 404 (.ref 155), de P "take_line" 411 (.ref 162), de P "skip_blanks" 420 (.ref 170), de P "name" 427 (.ref 177), de P "number" 436 (.ref 184), de P "position" 443 (.ref 191), de P "position_at" 451 (.ref 198), de P "coded" 463 (.ref 205), de P "escape" 471 (.ref 212), de P "quoted" 481 (.ref 219), de P "__static_attributes__" 484 (.ref 220), de P "__dict__" 486 (.ref 223), de P "__weakref__" 488 (.ref 224), de P "__doc__" 489 (.none)] 4 }) .nil .nil)) (.node (fnO "peek" "Cursor.peek" (inSt 11 2) (.none)) (.node (fnO "position" "Cursor.position" (inSt 11 11) (.none)) .nil .nil) .nil)))))) (.node ({ cls := .none, data := .dict #[de P "type.__subclasses__.Exception.0" 313 (.int 82 0), de P "type.__subclasses__.Exception.n" 314 (.int 1 0)] 2 }) (.node (boot_o_4 P) (.node (boot_o_8 P) (.node eF (.node ({ cls := .type "tuple", data := .seq #[vs "self" 242, vs "offset" 243, vs "line" 244, vs "column" 245] }) (.node ({ cls := .type "frame", slots := #[some (.ref 63), some (.ref 3), some (.ref 60), none, some (vs "grammarmill.source" 194), none, some (.ref 0)] }) (.node eT .nil .nil) (.node eT .nil .nil)) (.node ({ cls := .type "super", data := .fields #[.ref 95, .ref 95, .ref 95] }) (.node (fnO "take_line" "Cursor.take_line" (inSt 11 7) (.none)) .nil .nil) (.node ({ cls := .type "getset_descriptor", data := .fields #[vs "__weakref__" 487, .ref 222, .builtin "ExceptionGroup.__weakref__", .none] }) .nil .nil))) (.node ({ cls := .type "getset_descriptor", data := .fields #[vs "__weakref__" 262, .ref 46, .builtin "ExceptionGroup.__weakref__", .none] }) (.node ({ cls := .type "tuple", data := .seq #[vs "at" 307, vs "what" 308] }) (.node ({ cls := .type "tuple", data := .seq #[vs "self" 391, vs "word" 392] }) .nil .nil) (.node ({ cls := .type "tuple", data := .seq #[vs "self" 467, vs "sign" 468] }) .nil .nil)) (.node ({ cls := .type "function", data := fnD "__init__" "Cursor.__init__" (inSt 11 0) 194 "grammarmill.source" (.ref 105) (.ref 111) 3 [] (.none) }) (.node ({ cls := .type "code", data := .fields #[vs "name" 421, vs "Cursor.name" 422, vs "/claim/cut.py" 423, .int 84 0, .int 1 0, .int 0 0, .int 0 0, .int 3 0, .ref 171, .bool true, .int 181 0, .ref 172, .none, .ref 173, .ref 174, .ref 175, .int 425 0, .int 84 0, vs "/claim/cut.py" 426] }) .nil .nil) .nil))) (.node ({ cls := .type "builtin_function_or_method", data := .fields #[.builtin "type.__prepare__", .type "type"] }) (.node eT (.node ({ cls := .type "function", data := fnD "__init__" "ToolError.__init__" (inSt 9 0) 194 "grammarmill.source" (.ref 65) (.ref 71) 3 [] (.none) }) (.node eF .nil .nil) (.node eF .nil .nil)) (.node ({ cls := .type "frame", slots := #[some (.ref 103), some (.ref 3), some (.ref 100), none, some (vs "grammarmill.source" 194), none, some (.ref 0)] }) (.node (fnO "skip_blanks" "Cursor.skip_blanks" (inSt 11 8) (.none)) .nil .nil) .nil)) (.node ({ cls := .type "code", data := .fields #[vs "position_of" 267, vs "position_of" 268, vs "/claim/cut.py" 269, .int 19 0, .int 2 0, .int 0 0, .int 0 0, .int 3 0, .ref 51, .bool true, .int 181 0, .ref 52, .none, .ref 53, .ref 54, .ref 55, .int 276 0, .int 19 0, vs "/claim/cut.py" 277] }) (.node ({ cls := .type "dict", data := .dict #[de P "__module__" 324 (vs "grammarmill.source" 194), de P "__qualname__" 326 (vs "TableError" 325), de P "__firstlineno__" 328 (.int 39 327), de P "__static_attributes__" 329 (.ref 93)] 4 }) (.node eT .nil .nil) (.node eT .nil .nil)) (.node ({ cls := .type "tuple", data := .seq #[.int 0 362] }) (.node ({ cls := .type "function", data := fnD "number" "Cursor.number" (inSt 11 10) 194 "grammarmill.source" (.none) (.ref 183) 3 [] (.none) }) .nil .nil) .nil)))) (.node ({ cls := .none, data := .fields #[.int 1 0, .int 0 0, .ref 20, .int 10 0, .int 0 0, .ref 28, .int 19 0, .int 0 0, .ref 56, .int 28 0, .int 0 0, .ref 63, .int 39 0, .int 0 0, .ref 91, .int 41 0, .int 0 0, .ref 103] }) (.node ({ cls := .type "code", data := .fields #[vs "_wall" 187, vs "_wall" 188, vs "/claim/cut.py" 189, .int 1 0, .int 1 0, .int 0 0, .int 0 0, .int 3 0, .ref 15, .bool true, .int 181 0, .ref 16, .none, .ref 17, .ref 18, .ref 19, .int 191 0, .int 1 0, vs "/claim/cut.py" 192] }) (.node ({ cls := .type "function", data := fnD "__init__" "Position.__init__" (inSt 7 0) 194 "grammarmill.source" (.none) (.ref 35) 3 [] (.none) }) (.node ({ cls := .type "tuple", data := .seq #[vs "self" 294, vs "what" 295, vs "at" 296] }) (.node (fnO "starts" "Cursor.starts" (inSt 11 3) (.none)) .nil .nil) (.node (fnO "position_at" "Cursor.position_at" (inSt 11 12) (.none)) .nil .nil)) (.node ({ cls := .type "dict", data := .dict #[de P "__module__" 340 (vs "grammarmill.source" 194), de P "__qualname__" 342 (vs "Cursor" 341), de P "__firstlineno__" 344 (.int 41 343), de P "__init__" 354 (.ref 112), de P "is_done" 361 (.ref 119), de P "peek" 371 (.ref 127), de P "starts" 379 (.ref 134), de P "take" 387 (.ref 141), de P "skip" 395 (.ref 148), de P "take_while" 404 (.ref 155), de P "take_line" 411 (.ref 162), de P "skip_blanks" 420 (.ref 170), de P "name" 427 (.ref 177), de P "number" 436 (.ref 184), de P "position" 443 (.ref 191), de P "position_at" 451 (.ref 198), de P "coded" 463 (.ref 205), de P "escape" 471 (.ref 212), de P "quoted" 481 (.ref 219), de P "__static_attributes__" 484 (.ref 220)] 20 }) (.node eT .nil .nil) .nil)) (.node eF (.node ({ cls := .type "super", data := .fields #[.ref 82, .ref 82, .ref 82] }) (.node ({ cls := .type "function", data := fnD "skip" "Cursor.skip" (inSt 11 5) 194 "grammarmill.source" (.none) (.ref 147) 3 [] (.none) }) .nil .nil) (.node ({ cls := .type "function", data := fnD "escape" "Cursor.escape" (inSt 11 14) 194 "grammarmill.source" (.none) (.ref 211) 3 [] (.none) }) .nil .nil)) (.node eT (.node ({ cls := .type "tuple", data := .seq #[vs "self" 431, vs "begun" 432, vs "figures" 433] }) .nil .nil) .nil))) (.node ({ cls := .type "code", data := .fields #[vs "Position" 229, vs "Position" 230, vs "/claim/cut.py" 231, .int 10 0, .int 0 0, .int 0 0, .int 0 0, .int 0 0, .ref 26, .bool false, .int 181 0, .ref 27, .none, .none, .none, .none, .int 232 0, .int 10 0, vs "/claim/cut.py" 233] }) (.node ({ cls := .type "tuple", data := .seq #[vs "column" 256, vs "line" 257, vs "offset" 258] }) (.node eT (.node ({ cls := .type "code", data := .fields #[vs "take" 380, vs "Cursor.take" 381, vs "/claim/cut.py" 382, .int 59 0, .int 1 0, .int 0 0, .int 0 0, .int 3 0, .ref 135, .bool true, .int 181 0, .ref 136, .none, .ref 137, .ref 138, .ref 139, .int 385 0, .int 59 0, vs "/claim/cut.py" 386] }) .nil .nil) (.node ({ cls := .type "code", data := .fields #[vs "coded" 452, vs "Cursor.coded" 453, vs "/claim/cut.py" 454, .int 101 0, .int 4 0, .int 0 0, .int 0 0, .int 3 0, .ref 199, .bool true, .int 181 0, .ref 200, .none, .ref 201, .ref 202, .ref 203, .int 461 0, .int 101 0, vs "/claim/cut.py" 462] }) .nil .nil)) (.node ({ cls := .type "tuple", data := .seq #[vs "self" 349, vs "text" 350, vs "at" 351] }) (.node eF .nil .nil) .nil)) (.node ({ cls := .type "dict", data := .dict #[de P "__module__" 286 (vs "grammarmill.source" 194), de P "__qualname__" 288 (vs "ToolError" 287), de P "__firstlineno__" 290 (.int 28 289), de P "__init__" 299 (.ref 72), de P "told" 306 (.ref 79), de P "__static_attributes__" 309 (.ref 80)] 6 }) (.node ({ cls := .type "frame", slots := #[some (.ref 91), some (.ref 3), some (.ref 88), none, some (vs "grammarmill.source" 194), none, some (.ref 0)] }) (.node eT .nil .nil) (.node ({ cls := .type "tuple", data := .seq #[vs "at" 482, vs "text" 483] }) .nil .nil)) (.node eT (.node eT .nil .nil) .nil))))) (.node (boot_o_6 P) (.node (boot_o_10 P) (.node eT (.node (fnO "__init__" "Position.__init__" (inSt 7 0) (.none)) (.node eT (.node ({ cls := .type "tuple", data := .seq #[vs "self" 375, vs "word" 376] }) .nil .nil) (.node ({ cls := .type "tuple", data := .seq #[vs "self" 447, vs "offset" 448] }) .nil .nil)) (.node eT (.node ({ cls := .type "function", data := fnD "take_line" "Cursor.take_line" (inSt 11 7) 194 "grammarmill.source" (.none) (.ref 161) 3 [] (.none) }) .nil .nil) (.node ({ cls := .type "builtin_function_or_method", data := .fields #[.builtin "object.__init_subclass__", .ref 222] }) .nil .nil))) (.node ({ cls := .type "builtin_function_or_method", data := .fields #[.builtin "object.__init_subclass__", .ref 46] }) (.node ({ cls := .type "type", data := .cls { name := "ToolError", bases := [.type "Exception"], mro := [.ref 82, .type "Exception", .type "BaseException", .type "object"], ns := 81, qualname := "ToolError", subclasses := [.ref 95] }, slots := #[some (.ref 58), none, some (vs "ToolError" 279), some (vs "ToolError" 287), some (.builtin "Exception.__new__"), some (.bool true)] }) (.node (fnO "skip" "Cursor.skip" (inSt 11 5) (.none)) .nil .nil) (.node (fnO "escape" "Cursor.escape" (inSt 11 14) (.none)) .nil .nil)) (.node eF (.node eT .nil .nil) .nil))) (.node eT (.node ({ cls := .type "code", data := .fields #[vs "told" 249, vs "Position.told" 250, vs "/claim/cut.py" 251, .int 17 0, .int 1 0, .int 0 0, .int 0 0, .int 3 0, .ref 37, .bool true, .int 181 0, .ref 38, .none, .ref 39, .ref 40, .ref 41, .int 253 0, .int 17 0, vs "/claim/cut.py" 254] }) (.node eF (.node eT .nil .nil) (.node eT .nil .nil)) (.node eT (.node ({ cls := .type "function", data := fnD "skip_blanks" "Cursor.skip_blanks" (inSt 11 8) 194 "grammarmill.source" (.ref 163) (.ref 169) 3 [] (.none) }) .nil .nil) .nil)) (.node ({ cls := .type "tuple", data := .seq #[.type "Exception"] }) (.node eF (.node ({ cls := .type "code", data := .fields #[vs "take_while" 396, vs "Cursor.take_while" 397, vs "/claim/cut.py" 398, .int 72 0, .int 2 0, .int 0 0, .int 0 0, .int 3 0, .ref 149, .bool true, .int 181 0, .ref 150, .none, .ref 151, .ref 152, .ref 153, .int 402 0, .int 72 0, vs "/claim/cut.py" 403] }) .nil .nil) (.node ({ cls := .type "code", data := .fields #[vs "quoted" 472, vs "Cursor.quoted" 473, vs "/claim/cut.py" 474, .int 123 0, .int 2 0, .int 0 0, .int 0 0, .int 3 0, .ref 213, .bool true, .int 181 0, .ref 214, .none, .ref 215, .ref 216, .ref 217, .int 479 0, .int 123 0, vs "/claim/cut.py" 480] }) .nil .nil)) (.node eF (.node eF .nil .nil) .nil)))) (.node ({ cls := .type "frame", slots := #[some (.ref 13), some (.ref 3), some (.ref 3), none, some (vs "__main__" 164), none, some (.ref 0)] }) (.node ({ cls := .type "dict", data := .dict #[de P "n" 205 (.int 10 206), de P "t" 207 (.int 9 208), de P "r" 209 (.int 13 210), de P "f" 211 (.int 12 212), de P "v" 213 (.int 11 214), de P "a" 215 (.int 7 216), de P "b" 217 (.int 8 218)] 7 }) (.node eF (.node (fnO "__init__" "ToolError.__init__" (inSt 9 0) (.none)) (.node ({ cls := .type "function", data := fnD "starts" "Cursor.starts" (inSt 11 3) 194 "grammarmill.source" (.none) (.ref 133) 3 [] (.none) }) .nil .nil) (.node ({ cls := .type "function", data := fnD "position_at" "Cursor.position_at" (inSt 11 12) 194 "grammarmill.source" (.none) (.ref 197) 3 [] (.none) }) .nil .nil)) (.node ({ cls := .none, data := .fields #[.int 43 0, .int 4 0, .ref 111, .int 47 0, .int 4 0, .ref 118, .int 50 0, .int 4 0, .ref 126, .int 56 0, .int 4 0, .ref 133, .int 59 0, .int 4 0, .ref 140, .int 66 0, .int 4 0, .ref 147, .int 72 0, .int 4 0, .ref 154, .int 78 0, .int 4 0, .ref 161, .int 81 0, .int 4 0, .ref 169, .int 84 0, .int 4 0, .ref 176, .int 87 0, .int 4 0, .ref 183, .int 95 0, .int 4 0, .ref 190, .int 98 0, .int 4 0, .ref 197, .int 101 0, .int 4 0, .ref 204, .int 109 0, .int 4 0, .ref 211, .int 123 0, .int 4 0, .ref 218] }) (.node ({ cls := .type "tuple", data := .seq #[vs "self" 416, vs "signs" 417] }) .nil .nil) .nil)) (.node eT (.node ({ cls := .type "tuple", data := .seq #[.ref 82] }) (.node eF .nil .nil) (.node eF .nil .nil)) (.node ({ cls := .type "code", data := .fields #[vs "is_done" 355, vs "Cursor.is_done" 356, vs "/claim/cut.py" 357, .int 47 0, .int 1 0, .int 0 0, .int 0 0, .int 3 0, .ref 113, .bool true, .int 181 0, .ref 114, .none, .ref 115, .ref 116, .ref 117, .int 359 0, .int 47 0, vs "/claim/cut.py" 360] }) (.node (fnO "number" "Cursor.number" (inSt 11 10) (.none)) .nil .nil) .nil))) (.node eT (.node ({ cls := .type "type", data := .cls { name := "Position", bases := [.type "object"], mro := [.ref 46, .type "object"], ns := 45, qualname := "Position" }, slots := #[none, none, some (vs "Position" 227), some (vs "Position" 235), some (.builtin "object.__new__"), some (.bool true)] }) (.node ({ cls := .type "code", data := .fields #[vs "told" 300, vs "ToolError.told" 301, vs "/claim/cut.py" 302, .int 35 0, .int 1 0, .int 0 0, .int 0 0, .int 3 0, .ref 73, .bool true, .int 181 0, .ref 74, .none, .ref 75, .ref 76, .ref 77, .int 304 0, .int 35 0, vs "/claim/cut.py" 305] }) (.node eT .nil .nil) (.node eT .nil .nil)) (.node (fnO "__init__" "Cursor.__init__" (inSt 11 0) (.none)) (.node eT .nil .nil) .nil)) (.node ({ cls := .none, data := .fields #[.int 30 0, .int 4 0, .ref 71, .int 35 0, .int 4 0, .ref 78] }) (.node ({ cls := .type "dict", data := .dict #[de P "__module__" 324 (vs "grammarmill.source" 194), de P "__firstlineno__" 328 (.int 39 327), de P "__static_attributes__" 329 (.ref 93), de P "__doc__" 330 (.none)] 2 }) (.node ({ cls := .type "tuple", data := .seq #[vs "self" 408] }) .nil .nil) (.node ({ cls := .type "type", data := .cls { name := "Cursor", bases := [.type "object"], mro := [.ref 222, .type "object"], ns := 221, qualname := "Cursor" }, slots := #[none, none, some (vs "Cursor" 333), some (vs "Cursor" 341), some (.builtin "object.__new__"), some (.bool true)] }) .nil .nil)) (.node ({ cls := .type "code", data := .fields #[vs "peek" 363, vs "Cursor.peek" 364, vs "/claim/cut.py" 365, .int 50 0, .int 2 0, .int 0 0, .int 0 0, .int 3 0, .ref 121, .bool true, .int 181 0, .ref 122, .none, .ref 123, .ref 124, .ref 125, .int 369 0, .int 50 0, vs "/claim/cut.py" 370] }) (.node ({ cls := .type "code", data := .fields #[vs "position" 437, vs "Cursor.position" 438, vs "/claim/cut.py" 439, .int 95 0, .int 1 0, .int 0 0, .int 0 0, .int 3 0, .ref 185, .bool true, .int 181 0, .ref 186, .none, .ref 187, .ref 188, .ref 189, .int 441 0, .int 95 0, vs "/claim/cut.py" 442] }) .nil .nil) .nil))))))
noncomputable def hTree398 : Params → BT := fun P => .node (boot_o_0 P) (.node (boot_o_1 P) (.node ({ cls := .type "dict", data := .dict #[de P "__name__" 165 (vs "grammarmill.lines" 515), de P "__doc__" 166 (.none), de P "__package__" 167 (.none), de P "__loader__" 168 (.builtin "__main__.__loader__#opaque"), de P "__spec__" 169 (.none), de P "__annotations__" 170 (.ref 6), de P "__builtins__" 171 (.ref 4), de P "__file__" 173 (vs "/claim/cut.py" 172), de P "__cached__" 174 (.none), de P "_wall" 193 (.ref 21), de P "FIGURES" 197 (vs "0123456789" 196), de P "HEX_SIGNS" 200 (vs "0123456789abcdefABCDEF" 199), de P "OCTAL_SIGNS" 202 (vs "01234567" 201), de P "MOST_FIGURES_source" 204 (.int 4000 203), de P "PLAIN_ESCAPES" 226 (.ref 22), de P "Position" 266 (.ref 46), de P "position_of" 278 (.ref 57), de P "ToolError" 316 (.ref 82), de P "TableError" 332 (.ref 95), de P "Cursor" 491 (.ref 222), de P "hex_escape" 499 (.ref 233), de P "escaped_sign" 508 (.ref 240), de P "escaped" 514 (.ref 245), de P "MOST_DEPTH" 518 (.int 2 517), de P "MOST_FIGURES_lines" 520 (.int 160 519), de P "show_item" 526 (.ref 250), de P "LineWriter" 568 (.ref 279), de P "LineReader" 719 (.ref 393)] 28 }) (.node (boot_o_7 P) (.node eT (.node eF (.node ({ cls := .type "code", data := .fields #[vs "ToolError" 281, vs "ToolError" 282, vs "/claim/cut.py" 283, .int 28 0, .int 0 0, .int 0 0, .int 0 0, .int 0 0, .ref 61, .bool false, .int 181 0, .ref 62, .none, .none, .none, .none, .int 284 0, .int 28 0, vs "/claim/cut.py" 285] }) (.node ({ cls := .type "function", data := fnD "peek" "Cursor.peek" (inSt 11 2) 194 "grammarmill.source" (.ref 120) (.ref 126) 3 [] (.none) }) (.node ({ cls := .none, data := .fields #[.int 164 0, .int 4 0, .ref 263, .int 167 0, .int 4 0, .ref 268, .int 170 0, .int 4 0, .ref 275] }) .nil .nil) (.node ({ cls := .type "function", data := fnD "finish" "LineReader.finish" (inSt 20 12) 515 "grammarmill.lines" (.none) (.ref 382) 3 [] (.none) }) .nil .nil)) (.node ({ cls := .type "function", data := fnD "position" "Cursor.position" (inSt 11 11) 194 "grammarmill.source" (.none) (.ref 190) 3 [] (.none) }) (.node eT .nil .nil) .nil)) (.node ({ cls := .type "type", data := .cls { name := "TableError", bases := [.ref 82], mro := [.ref 95, .ref 82, .type "Exception", .type "BaseException", .type "object"], ns := 94, qualname := "TableError" }, slots := #[some (.ref 86), none, some (vs "TableError" 317), some (vs "TableError" 325), some (.builtin "Exception.__new__"), some (.bool true)] }) (.node eT (.node eT .nil .nil) .nil) (.node ({ cls := .type "getset_descriptor", data := .fields #[vs "__dict__" 485, .ref 222, .builtin "function.__dict__", .builtin "function.__dict__#set"] }) (.node eT .nil .nil) .nil))) (.node ({ cls := .type "getset_descriptor", data := .fields #[vs "__dict__" 260, .ref 46, .builtin "function.__dict__", .builtin "function.__dict__#set"] }) (.node ({ cls := .type "function", data := fnD "told" "ToolError.told" (inSt 9 1) 194 "grammarmill.source" (.none) (.ref 78) 3 [] (.none) }) (.node eF (.node eF .nil .nil) .nil) (.node eF (.node eF .nil .nil) .nil)) (.node ({ cls := .type "code", data := .fields #[vs "__init__" 346, vs "Cursor.__init__" 347, vs "/claim/cut.py" 348, .int 43 0, .int 3 0, .int 0 0, .int 0 0, .int 3 0, .ref 106, .bool true, .int 181 0, .ref 107, .none, .ref 108, .ref 109, .ref 110, .int 352 0, .int 43 0, vs "/claim/cut.py" 353] }) (.node (fnO "name" "Cursor.name" (inSt 11 9) (.none)) (.node ({ cls := .type "code", data := .fields #[vs "fail" 589, vs "LineReader.fail" 590, vs "/claim/cut.py" 591, .int 178 0, .int 2 0, .int 0 0, .int 0 0, .int 3 0, .ref 298, .bool true, .int 181 0, .ref 299, .none, .ref 300, .ref 301, .ref 302, .int 594 0, .int 178 0, vs "/claim/cut.py" 595] }) .nil .nil) .nil) (.node ({ cls := .type "code", data := .fields #[vs "escaped_sign" 500, vs "escaped_sign" 501, vs "/claim/cut.py" 502, .int 138 0, .int 2 0, .int 0 0, .int 0 0, .int 3 0, .ref 234, .bool true, .int 181 0, .ref 235, .none, .ref 236, .ref 237, .ref 238, .int 506 0, .int 138 0, vs "/claim/cut.py" 507] }) (.node (fnO "one" "LineReader.one" (inSt 20 10) (.none)) .nil .nil) .nil)))) (.node eT (.node ({ cls := .type "tuple", data := .seq #[vs "self" 252] }) (.node ({ cls := .type "code", data := .fields #[vs "__init__" 291, vs "ToolError.__init__" 292, vs "/claim/cut.py" 293, .int 30 0, .int 3 0, .int 0 0, .int 0 0, .int 3 0, .ref 66, .bool true, .int 181 0, .ref 67, .none, .ref 68, .ref 69, .ref 70, .int 297 0, .int 30 0, vs "/claim/cut.py" 298] }) (.node eT (.node ({ cls := .type "code", data := .fields #[vs "__init__" 539, vs "LineWriter.__init__" 540, vs "/claim/cut.py" 541, .int 164 0, .int 2 0, .int 0 0, .int 0 0, .int 3 0, .ref 258, .bool true, .int 181 0, .ref 259, .none, .ref 260, .ref 261, .ref 262, .int 544 0, .int 164 0, vs "/claim/cut.py" 545] }) .nil .nil) (.node ({ cls := .type "tuple", data := .seq #[vs "cursor" 710, vs "lines" 711] }) .nil .nil)) (.node eT (.node eF .nil .nil) .nil)) (.node ({ cls := .type "code", data := .fields #[vs "Cursor" 335, vs "Cursor" 336, vs "/claim/cut.py" 337, .int 41 0, .int 0 0, .int 0 0, .int 0 0, .int 0 0, .ref 101, .bool false, .int 181 0, .ref 102, .none, .none, .none, .none, .int 338 0, .int 41 0, vs "/claim/cut.py" 339] }) (.node eT (.node (fnO "__init__" "LineReader.__init__" (inSt 20 0) (.none)) .nil .nil) .nil) (.node (fnO "hex_escape" "hex_escape" (topSt 12) (.none)) (.node eT .nil .nil) .nil))) (.node (fnO "position_of" "position_of" (topSt 8) (.none)) (.node ({ cls := .type "builtin_function_or_method", data := .fields #[.builtin "type.__prepare__", .type "type"] }) (.node ({ cls := .type "tuple", data := .seq #[vs "self" 399, vs "signs" 400, vs "begun" 401] }) (.node ({ cls := .type "type", data := .cls { name := "LineWriter", bases := [.type "object"], mro := [.ref 279, .type "object"], ns := 278, qualname := "LineWriter" }, slots := #[none, none, some (vs "LineWriter" 527), some (vs "LineWriter" 535), some (.builtin "object.__new__"), some (.bool true)] }) .nil .nil) .nil) (.node ({ cls := .type "tuple", data := .seq #[vs "self" 475, vs "end" 476, vs "signs" 477, vs "sign" 478] }) (.node ({ cls := .type "tuple", data := .seq #[vs "self" 642, vs "depth" 643, vs "found" 644] }) .nil .nil) .nil)) (.node ({ cls := .type "function", data := fnD "is_done" "Cursor.is_done" (inSt 11 1) 194 "grammarmill.source" (.none) (.ref 118) 3 [] (.none) }) (.node ({ cls := .type "code", data := .fields #[vs "number" 428, vs "Cursor.number" 429, vs "/claim/cut.py" 430, .int 87 0, .int 1 0, .int 0 0, .int 0 0, .int 3 0, .ref 178, .bool true, .int 181 0, .ref 179, .none, .ref 180, .ref 181, .ref 182, .int 434 0, .int 87 0, vs "/claim/cut.py" 435] }) (.node ({ cls := .type "function", data := fnD "need" "LineReader.need" (inSt 20 2) 515 "grammarmill.lines" (.none) (.ref 310) 3 [] (.none) }) .nil .nil) .nil) (.node eF (.node ({ cls := .type "code", data := .fields #[vs "texts" 683, vs "LineReader.texts" 684, vs "/claim/cut.py" 685, .int 249 0, .int 2 0, .int 0 0, .int 0 0, .int 3 0, .ref 370, .bool true, .int 181 0, .ref 371, .none, .ref 372, .ref 373, .ref 374, .int 690 0, .int 249 0, vs "/claim/cut.py" 691] }) .nil .nil) .nil))))) (.node eT (.node (fnO "_wall" "_wall" (topSt 0) (.none)) (.node ({ cls := .type "code", data := .fields #[vs "__init__" 239, vs "Position.__init__" 240, vs "/claim/cut.py" 241, .int 12 0, .int 4 0, .int 0 0, .int 0 0, .int 3 0, .ref 30, .bool true, .int 181 0, .ref 31, .none, .ref 32, .ref 33, .ref 34, .int 246 0, .int 12 0, vs "/claim/cut.py" 247] }) (.node eF (.node eT (.node eF .nil .nil) (.node eT .nil .nil)) (.node eT (.node (fnO "end_line" "LineReader.end_line" (inSt 20 4) (.none)) .nil .nil) .nil)) (.node ({ cls := .type "builtin_function_or_method", data := .fields #[.builtin "type.__prepare__", .type "type"] }) (.node ({ cls := .type "tuple", data := .seq #[vs " \t" 412] }) (.node eT .nil .nil) .nil) (.node eT (.node ({ cls := .type "tuple", data := .seq #[.none, .none, .none] }) .nil .nil) .nil))) (.node eT (.node ({ cls := .type "getset_descriptor", data := .fields #[vs "__weakref__" 310, .ref 82, .builtin "ExceptionGroup.__weakref__", .none] }) (.node ({ cls := .type "code", data := .fields #[vs "skip" 388, vs "Cursor.skip" 389, vs "/claim/cut.py" 390, .int 66 0, .int 2 0, .int 0 0, .int 0 0, .int 3 0, .ref 142, .bool true, .int 181 0, .ref 143, .none, .ref 144, .ref 145, .ref 146, .int 393 0, .int 66 0, vs "/claim/cut.py" 394] }) (.node ({ cls := .type "code", data := .fields #[vs "text" 553, vs "LineWriter.text" 554, vs "/claim/cut.py" 555, .int 170 0, .int 1 0, .int 0 0, .int 0 0, .int 3 0, .ref 270, .bool true, .int 181 0, .ref 271, .none, .ref 272, .ref 273, .ref 274, .int 557 0, .int 170 0, vs "/claim/cut.py" 558] }) .nil .nil) .nil) (.node ({ cls := .type "code", data := .fields #[vs "escape" 464, vs "Cursor.escape" 465, vs "/claim/cut.py" 466, .int 109 0, .int 1 0, .int 0 0, .int 0 0, .int 3 0, .ref 206, .bool true, .int 181 0, .ref 207, .none, .ref 208, .ref 209, .ref 210, .int 469 0, .int 109 0, vs "/claim/cut.py" 470] }) (.node ({ cls := .type "code", data := .fields #[vs "item" 630, vs "LineReader.item" 631, vs "/claim/cut.py" 632, .int 200 0, .int 2 0, .int 0 0, .int 0 0, .int 3 0, .ref 334, .bool true, .int 181 0, .ref 335, .none, .ref 336, .ref 337, .ref 338, .int 636 0, .int 200 0, vs "/claim/cut.py" 637] }) .nil .nil) .nil)) (.node ({ cls := .type "tuple", data := .seq #[vs "self" 358] }) (.node eF (.node ({ cls := .type "tuple", data := .seq #[vs "self" 600, vs "word" 601] }) .nil .nil) .nil) (.node (fnO "escaped" "escaped" (topSt 14) (.none)) (.node eF .nil .nil) .nil)))) (.node ({ cls := .none, data := .fields #[.int 12 0, .int 4 0, .ref 35, .int 17 0, .int 4 0, .ref 42] }) (.node ({ cls := .type "function", data := fnD "told" "Position.told" (inSt 7 1) 194 "grammarmill.source" (.none) (.ref 42) 3 [] (.none) }) (.node ({ cls := .type "tuple", data := .seq #[vs "self" 303] }) (.node (fnO "take" "Cursor.take" (inSt 11 4) (.none)) (.node (fnO "add" "LineWriter.add" (inSt 19 1) (.none)) .nil .nil) (.node ({ cls := .type "getset_descriptor", data := .fields #[vs "__weakref__" 715, .ref 393, .builtin "ExceptionGroup.__weakref__", .none] }) .nil .nil)) (.node (fnO "coded" "Cursor.coded" (inSt 11 13) (.none)) (.node ({ cls := .type "code", data := .fields #[vs "whole" 620, vs "LineReader.whole" 621, vs "/claim/cut.py" 622, .int 193 0, .int 1 0, .int 0 0, .int 0 0, .int 3 0, .ref 326, .bool true, .int 181 0, .ref 327, .none, .ref 328, .ref 329, .ref 330, .int 626 0, .int 193 0, vs "/claim/cut.py" 627] }) .nil .nil) .nil)) (.node eF (.node eT (.node eF .nil .nil) .nil) (.node eF (.node eT .nil .nil) .nil))) (.node ({ cls := .type "builtin_function_or_method", data := .fields #[.builtin "type.__prepare__", .type "type"] }) (.node ({ cls := .type "code", data := .fields #[vs "TableError" 319, vs "TableError" 320, vs "/claim/cut.py" 321, .int 39 0, .int 0 0, .int 0 0, .int 0 0, .int 0 0, .ref 89, .bool false, .int 181 0, .ref 90, .none, .none, .none, .none, .int 322 0, .int 39 0, vs "/claim/cut.py" 323] }) (.node ({ cls := .type "function", data := fnD "take_while" "Cursor.take_while" (inSt 11 6) 194 "grammarmill.source" (.none) (.ref 154) 3 [] (.none) }) (.node ({ cls := .type "builtin_function_or_method", data := .fields #[.builtin "object.__init_subclass__", .ref 279] }) .nil .nil) .nil) (.node ({ cls := .type "function", data := fnD "quoted" "Cursor.quoted" (inSt 11 15) 194 "grammarmill.source" (.none) (.ref 218) 3 [] (.none) }) (.node ({ cls := .type "function", data := fnD "bracket" "LineReader.bracket" (inSt 20 7) 515 "grammarmill.lines" (.none) (.ref 346) 3 [] (.none) }) .nil .nil) .nil)) (.node ({ cls := .type "tuple", data := .seq #[vs "self" 366, vs "ahead" 367, vs "at" 368] }) (.node ({ cls := .type "tuple", data := .seq #[vs "self" 440] }) (.node eT .nil .nil) .nil) (.node eT (.node ({ cls := .type "tuple", data := .seq #[vs "self" 696] }) .nil .nil) .nil)))))) (.node (boot_o_5 P) (.node (boot_o_9 P) (.node ({ cls := .type "tuple", data := .seq #[vs "k" 190] }) (.node eT (.node ({ cls := .type "tuple", data := .seq #[.none] }) (.node eF (.node ({ cls := .type "frame", slots := #[some (.ref 256), some (.ref 3), some (.ref 253), none, some (vs "grammarmill.lines" 515), none, some (.ref 0)] }) .nil .nil) (.node eF .nil .nil)) (.node eF (.node ({ cls := .type "tuple", data := .seq #[vs "self" 616] }) .nil .nil) .nil)) (.node ({ cls := .type "builtin_function_or_method", data := .fields #[.builtin "object.__init_subclass__", .ref 95] }) (.node ({ cls := .type "code", data := .fields #[vs "take_line" 405, vs "Cursor.take_line" 406, vs "/claim/cut.py" 407, .int 78 0, .int 1 0, .int 0 0, .int 0 0, .int 3 0, .ref 156, .bool true, .int 181 0, .ref 157, .none, .ref 158, .ref 159, .ref 160, .int 409 0, .int 78 0, vs "/claim/cut.py" 410] }) (.node ({ cls := .type "code", data := .fields #[vs "LineReader" 571, vs "LineReader" 572, vs "/claim/cut.py" 573, .int 172 0, .int 0 0, .int 0 0, .int 0 0, .int 0 0, .ref 287, .bool false, .int 181 0, .ref 288, .none, .none, .none, .none, .int 574 0, .int 172 0, vs "/claim/cut.py" 575] }) .nil .nil) .nil) (.node ({ cls := .type "super", data := .fields #[.ref 222, .ref 222, .ref 222] }) (.node ({ cls := .type "code", data := .fields #[vs "items" 648, vs "LineReader.items" 649, vs "/claim/cut.py" 650, .int 225 0, .int 2 0, .int 0 0, .int 0 0, .int 3 0, .ref 348, .bool true, .int 181 0, .ref 349, .none, .ref 350, .ref 351, .ref 352, .int 656 0, .int 225 0, vs "/claim/cut.py" 657] }) .nil .nil) .nil))) (.node ({ cls := .type "super", data := .fields #[.ref 46, .ref 46, .ref 46] }) (.node ({ cls := .type "dict", data := .dict #[de P "__module__" 286 (vs "grammarmill.source" 194), de P "__firstlineno__" 290 (.int 28 289), de P "__init__" 299 (.ref 72), de P "told" 306 (.ref 79), de P "__static_attributes__" 309 (.ref 80), de P "__weakref__" 311 (.ref 83), de P "__doc__" 312 (.none)] 3 }) (.node eT (.node eT .nil .nil) .nil) (.node eT (.node eT .nil .nil) .nil)) (.node eT (.node ({ cls := .type "function", data := fnD "name" "Cursor.name" (inSt 11 9) 194 "grammarmill.source" (.none) (.ref 176) 3 [] (.none) }) (.node eT .nil .nil) .nil) (.node eT (.node ({ cls := .type "function", data := fnD "one" "LineReader.one" (inSt 20 10) 515 "grammarmill.lines" (.none) (.ref 368) 3 [] (.none) }) .nil .nil) .nil)))) (.node ({ cls := .type "dict", data := .dict #[de P "__module__" 234 (vs "grammarmill.source" 194), de P "__qualname__" 236 (vs "Position" 235), de P "__firstlineno__" 238 (.int 10 237), de P "__init__" 248 (.ref 36), de P "told" 255 (.ref 43), de P "__static_attributes__" 259 (.ref 44)] 6 }) (.node (fnO "told" "Position.told" (inSt 7 1) (.none)) (.node eT (.node ({ cls := .type "tuple", data := .seq #[vs "self" 383, vs "sign" 384] }) (.node eT .nil .nil) (.node ({ cls := .type "type", data := .cls { name := "LineReader", bases := [.type "object"], mro := [.ref 393, .type "object"], ns := 392, qualname := "LineReader" }, slots := #[none, none, some (vs "LineReader" 569), some (vs "LineReader" 577), some (.builtin "object.__new__"), some (.bool true)] }) .nil .nil)) (.node ({ cls := .type "tuple", data := .seq #[vs "self" 455, vs "signs" 456, vs "most" 457, vs "base" 458, vs "code" 459, vs "taken" 460] }) (.node eT .nil .nil) .nil)) (.node ({ cls := .type "tuple", data := .seq #[.int 0 345] }) (.node ({ cls := .type "code", data := .fields #[vs "skip_blanks" 413, vs "Cursor.skip_blanks" 414, vs "/claim/cut.py" 415, .int 81 0, .int 2 0, .int 0 0, .int 0 0, .int 3 0, .ref 164, .bool true, .int 181 0, .ref 165, .none, .ref 166, .ref 167, .ref 168, .int 418 0, .int 81 0, vs "/claim/cut.py" 419] }) (.node ({ cls := .type "function", data := fnD "__init__" "LineReader.__init__" (inSt 20 0) 515 "grammarmill.lines" (.none) (.ref 296) 3 [] (.none) }) .nil .nil) .nil) (.node ({ cls := .type "function", data := fnD "hex_escape" "hex_escape" (topSt 12) 194 "grammarmill.source" (.none) (.ref 232) 3 [] (.none) }) (.node ({ cls := .type "code", data := .fields #[vs "numbers" 659, vs "LineReader.numbers" 660, vs "/claim/cut.py" 661, .int 236 0, .int 5 0, .int 0 0, .int 0 0, .int 3 0, .ref 356, .bool true, .int 181 0, .ref 357, .none, .ref 358, .ref 359, .ref 360, .int 670 0, .int 236 0, vs "/claim/cut.py" 671] }) .nil .nil) .nil))) (.node ({ cls := .type "function", data := fnD "position_of" "position_of" (topSt 8) 194 "grammarmill.source" (.none) (.ref 56) 3 [] (.none) }) (.node eT (.node (fnO "take_while" "Cursor.take_while" (inSt 11 6) (.none)) (.node ({ cls := .type "getset_descriptor", data := .fields #[vs "__weakref__" 564, .ref 279, .builtin "ExceptionGroup.__weakref__", .none] }) .nil .nil) .nil) (.node (fnO "quoted" "Cursor.quoted" (inSt 11 15) (.none)) (.node (fnO "bracket" "LineReader.bracket" (inSt 20 7) (.none)) .nil .nil) .nil)) (.node eT (.node eT (.node eF .nil .nil) .nil) (.node ({ cls := .type "code", data := .fields #[vs "show_item" 521, vs "show_item" 522, vs "/claim/cut.py" 523, .int 154 0, .int 1 0, .int 0 0, .int 0 0, .int 3 0, .ref 246, .bool true, .int 181 0, .ref 247, .none, .none, .none, .ref 248, .int 524 0, .int 154 0, vs "/claim/cut.py" 525] }) (.node eT .nil .nil) .nil))))) (.node ({ cls := .type "code", data := .fields #[vs "<module>" 182, vs "<module>" 183, vs "/claim/cut.py" 184, .int 1 0, .int 0 0, .int 0 0, .int 0 0, .int 0 0, .ref 11, .bool false, .int 181 0, .ref 12, .none, .none, .none, .none, .int 185 0, .int 1 0, vs "/claim/cut.py" 186] }) (.node ({ cls := .type "function", data := fnD "_wall" "_wall" (topSt 0) 164 "__main__" (.none) (.ref 20) 3 [] (.none) }) (.node eT (.node eT (.node ({ cls := .type "code", data := .fields #[vs "starts" 372, vs "Cursor.starts" 373, vs "/claim/cut.py" 374, .int 56 0, .int 2 0, .int 0 0, .int 0 0, .int 3 0, .ref 128, .bool true, .int 181 0, .ref 129, .none, .ref 130, .ref 131, .ref 132, .int 377 0, .int 56 0, vs "/claim/cut.py" 378] }) (.node eT .nil .nil) (.node ({ cls := .type "code", data := .fields #[vs "need_same" 700, vs "LineReader.need_same" 701, vs "/claim/cut.py" 702, .int 264 0, .int 2 0, .int 0 0, .int 0 0, .int 3 0, .ref 384, .bool true, .int 181 0, .ref 385, .none, .ref 386, .ref 387, .ref 388, .int 707 0, .int 264 0, vs "/claim/cut.py" 708] }) .nil .nil)) (.node ({ cls := .type "code", data := .fields #[vs "position_at" 444, vs "Cursor.position_at" 445, vs "/claim/cut.py" 446, .int 98 0, .int 2 0, .int 0 0, .int 0 0, .int 3 0, .ref 192, .bool true, .int 181 0, .ref 193, .none, .ref 194, .ref 195, .ref 196, .int 449 0, .int 98 0, vs "/claim/cut.py" 450] }) (.node ({ cls := .type "function", data := fnD "end_line" "LineReader.end_line" (inSt 20 4) 515 "grammarmill.lines" (.none) (.ref 324) 3 [] (.none) }) .nil .nil) .nil)) (.node eT (.node eF (.node ({ cls := .type "tuple", data := .seq #[vs "self" 584, vs "text" 585] }) .nil .nil) .nil) (.node ({ cls := .type "tuple", data := .seq #[vs "code" 495, vs "figures" 496] }) (.node eF .nil .nil) .nil))) (.node ({ cls := .type "tuple", data := .seq #[vs "text" 270, vs "offset" 271, vs "at" 272, vs "line" 273, vs "begun" 274, vs "here" 275] }) (.node ({ cls := .type "builtin_function_or_method", data := .fields #[.builtin "object.__init_subclass__", .ref 82] }) (.node eT (.node ({ cls := .type "tuple", data := .seq #[vs "lines" 560] }) .nil .nil) .nil) (.node eT (.node eT .nil .nil) .nil)) (.node (fnO "is_done" "Cursor.is_done" (inSt 11 1) (.none)) (.node eT (.node (fnO "need" "LineReader.need" (inSt 20 2) (.none)) .nil .nil) .nil) (.node ({ cls := .type "function", data := fnD "escaped" "escaped" (topSt 14) 194 "grammarmill.source" (.none) (.ref 244) 3 [] (.none) }) (.node eT .nil .nil) .nil)))) (.node ({ cls := .type "frame", slots := #[some (.ref 28), some (.ref 3), some (.ref 25), none, some (vs "grammarmill.source" 194), none, some (.ref 0)] }) (.node ({ cls := .type "dict", data := .dict #[de P "__module__" 234 (vs "grammarmill.source" 194), de P "__firstlineno__" 238 (.int 10 237), de P "__init__" 248 (.ref 36), de P "told" 255 (.ref 43), de P "__static_attributes__" 259 (.ref 44), de P "__dict__" 261 (.ref 47), de P "__weakref__" 263 (.ref 48), de P "__doc__" 264 (.none)] 4 }) (.node (fnO "told" "ToolError.told" (inSt 9 1) (.none)) (.node ({ cls := .type "function", data := fnD "take" "Cursor.take" (inSt 11 4) 194 "grammarmill.source" (.none) (.ref 140) 3 [] (.none) }) (.node ({ cls := .type "function", data := fnD "add" "LineWriter.add" (inSt 19 1) 515 "grammarmill.lines" (.none) (.ref 268) 3 [] (.none) }) .nil .nil) (.node ({ cls := .type "builtin_function_or_method", data := .fields #[.builtin "object.__init_subclass__", .ref 393] }) .nil .nil)) (.node ({ cls := .type "function", data := fnD "coded" "Cursor.coded" (inSt 11 13) 194 "grammarmill.source" (.none) (.ref 204) 3 [] (.none) }) (.node ({ cls := .type "tuple", data := .seq #[.int 0 629] }) .nil .nil) .nil)) (.node eT (.node ({ cls := .type "tuple", data := .seq #[vs "self" 424] }) (.node eT .nil .nil) .nil) (.node eT (.node ({ cls := .type "tuple", data := .seq #[vs "self" 676, vs "word" 677, vs "least" 678, vs "most" 679] }) .nil .nil) .nil))) (.node eT (.node eT (.node eF (.node ({ cls := .type "builtin_function_or_method", data := .fields #[.builtin "type.__prepare__", .type "type"] }) .nil .nil) .nil) (.node ({ cls := .type "dict", data := .dict #[de P "__module__" 340 (vs "grammarmill.source" 194), de P "__firstlineno__" 344 (.int 41 343), de P "__init__" 354 (.ref 112), de P "is_done" 361 (.ref 119), de P "peek" 371 (.ref 127), de P "starts" 379 (.ref 134), de P "take" 387 (.ref 141), de P "skip" 395 (.ref 148), de P "take_while" 404 (.ref 155), de P "take_line" 411 (.ref 162), de P "skip_blanks" 420 (.ref 170), de P "name" 427 (.ref 177), de P "number" 436 (.ref 184), de P "position" 443 (.ref 191), de P "position_at" 451 (.ref 198), de P "coded" 463 (.ref 205), de P "escape" 471 (.ref 212), de P "quoted" 481 (.ref 219), de P "__static_attributes__" 484 (.ref 220), de P "__dict__" 486 (.ref 223), de P "__weakref__" 488 (.ref 224), de P "__doc__" 489 (.none)] 4 }) (.node eF .nil .nil) .nil)) (.node (fnO "peek" "Cursor.peek" (inSt 11 2) (.none)) (.node (fnO "position" "Cursor.position" (inSt 11 11) (.none)) (.node ({ cls := .type "code", data := .fields #[vs "head" 605, vs "LineReader.head" 606, vs "/claim/cut.py" 607, .int 185 0, .int 2 0, .int 0 0, .int 0 0, .int 3 0, .ref 312, .bool true, .int 181 0, .ref 313, .none, .ref 314, .ref 315, .ref 316, .int 610 0, .int 185 0, vs "/claim/cut.py" 611] }) .nil .nil) .nil) (.node ({ cls := .type "dict", data := .dict #[de P "__module__" 534 (vs "grammarmill.lines" 515), de P "__qualname__" 536 (vs "LineWriter" 535), de P "__firstlineno__" 538 (.int 162 537), de P "__init__" 546 (.ref 264), de P "add" 552 (.ref 269), de P "text" 559 (.ref 276), de P "__static_attributes__" 561 (.ref 277)] 7 }) (.node (fnO "finish" "LineReader.finish" (inSt 20 12) (.none)) .nil .nil) .nil))))))) (.node ({ cls := .none, data := .dict #[de P "type.__subclasses__.Exception.0" 313 (.int 82 0), de P "type.__subclasses__.Exception.n" 314 (.int 1 0)] 2 }) (.node (boot_o_4 P) (.node (boot_o_8 P) (.node eF (.node ({ cls := .type "tuple", data := .seq #[vs "self" 242, vs "offset" 243, vs "line" 244, vs "column" 245] }) (.node ({ cls := .type "frame", slots := #[some (.ref 63), some (.ref 3), some (.ref 60), none, some (vs "grammarmill.source" 194), none, some (.ref 0)] }) (.node eT (.node ({ cls := .type "code", data := .fields #[vs "LineWriter" 529, vs "LineWriter" 530, vs "/claim/cut.py" 531, .int 162 0, .int 0 0, .int 0 0, .int 0 0, .int 0 0, .ref 254, .bool false, .int 181 0, .ref 255, .none, .none, .none, .none, .int 532 0, .int 162 0, vs "/claim/cut.py" 533] }) .nil .nil) (.node eT .nil .nil)) (.node eT (.node eF .nil .nil) .nil)) (.node ({ cls := .type "super", data := .fields #[.ref 95, .ref 95, .ref 95] }) (.node (fnO "take_line" "Cursor.take_line" (inSt 11 7) (.none)) (.node ({ cls := .none, data := .fields #[.int 174 0, .int 4 0, .ref 296, .int 178 0, .int 4 0, .ref 303, .int 181 0, .int 4 0, .ref 310, .int 185 0, .int 4 0, .ref 317, .int 189 0, .int 4 0, .ref 324, .int 193 0, .int 4 0, .ref 331, .int 200 0, .int 4 0, .ref 339, .int 213 0, .int 4 0, .ref 346, .int 225 0, .int 4 0, .ref 353, .int 236 0, .int 4 0, .ref 361, .int 246 0, .int 4 0, .ref 368, .int 249 0, .int 4 0, .ref 375, .int 256 0, .int 4 0, .ref 382, .int 264 0, .int 4 0, .ref 389] }) .nil .nil) .nil) (.node ({ cls := .type "getset_descriptor", data := .fields #[vs "__weakref__" 487, .ref 222, .builtin "ExceptionGroup.__weakref__", .none] }) (.node (fnO "items" "LineReader.items" (inSt 20 8) (.none)) .nil .nil) .nil))) (.node ({ cls := .type "getset_descriptor", data := .fields #[vs "__weakref__" 262, .ref 46, .builtin "ExceptionGroup.__weakref__", .none] }) (.node ({ cls := .type "tuple", data := .seq #[vs "at" 307, vs "what" 308] }) (.node ({ cls := .type "tuple", data := .seq #[vs "self" 391, vs "word" 392] }) (.node ({ cls := .type "tuple", data := .seq #[vs "self" 556] }) .nil .nil) .nil) (.node ({ cls := .type "tuple", data := .seq #[vs "self" 467, vs "sign" 468] }) (.node ({ cls := .type "tuple", data := .seq #[vs "self" 633, vs "depth" 634, vs "found" 635] }) .nil .nil) .nil)) (.node ({ cls := .type "function", data := fnD "__init__" "Cursor.__init__" (inSt 11 0) 194 "grammarmill.source" (.ref 105) (.ref 111) 3 [] (.none) }) (.node ({ cls := .type "code", data := .fields #[vs "name" 421, vs "Cursor.name" 422, vs "/claim/cut.py" 423, .int 84 0, .int 1 0, .int 0 0, .int 0 0, .int 3 0, .ref 171, .bool true, .int 181 0, .ref 172, .none, .ref 173, .ref 174, .ref 175, .int 425 0, .int 84 0, vs "/claim/cut.py" 426] }) (.node ({ cls := .type "function", data := fnD "fail" "LineReader.fail" (inSt 20 1) 515 "grammarmill.lines" (.none) (.ref 303) 3 [] (.none) }) .nil .nil) .nil) (.node ({ cls := .type "function", data := fnD "escaped_sign" "escaped_sign" (topSt 13) 194 "grammarmill.source" (.none) (.ref 239) 3 [] (.none) }) (.node ({ cls := .type "code", data := .fields #[vs "one" 673, vs "LineReader.one" 674, vs "/claim/cut.py" 675, .int 246 0, .int 4 0, .int 0 0, .int 0 0, .int 3 0, .ref 363, .bool true, .int 181 0, .ref 364, .none, .ref 365, .ref 366, .ref 367, .int 680 0, .int 246 0, vs "/claim/cut.py" 681] }) .nil .nil) .nil)))) (.node ({ cls := .type "builtin_function_or_method", data := .fields #[.builtin "type.__prepare__", .type "type"] }) (.node eT (.node ({ cls := .type "function", data := fnD "__init__" "ToolError.__init__" (inSt 9 0) 194 "grammarmill.source" (.ref 65) (.ref 71) 3 [] (.none) }) (.node eF (.node ({ cls := .type "function", data := fnD "__init__" "LineWriter.__init__" (inSt 19 0) 515 "grammarmill.lines" (.none) (.ref 263) 3 [] (.none) }) .nil .nil) (.node ({ cls := .type "dict", data := .dict #[de P "__module__" 576 (vs "grammarmill.lines" 515), de P "__firstlineno__" 580 (.int 172 579), de P "__init__" 588 (.ref 297), de P "fail" 596 (.ref 304), de P "need" 604 (.ref 311), de P "head" 612 (.ref 318), de P "end_line" 619 (.ref 325), de P "whole" 628 (.ref 332), de P "item" 638 (.ref 340), de P "bracket" 647 (.ref 347), de P "items" 658 (.ref 354), de P "numbers" 672 (.ref 362), de P "one" 682 (.ref 369), de P "texts" 692 (.ref 376), de P "finish" 699 (.ref 383), de P "need_same" 709 (.ref 390), de P "__static_attributes__" 712 (.ref 391), de P "__dict__" 714 (.ref 394), de P "__weakref__" 716 (.ref 395), de P "__doc__" 717 (.none)] 4 }) .nil .nil)) (.node eF (.node ({ cls := .type "tuple", data := .seq #[vs "self" 623, vs "sign" 624, vs "figures" 625] }) .nil .nil) .nil)) (.node ({ cls := .type "frame", slots := #[some (.ref 103), some (.ref 3), some (.ref 100), none, some (vs "grammarmill.source" 194), none, some (.ref 0)] }) (.node (fnO "skip_blanks" "Cursor.skip_blanks" (inSt 11 8) (.none)) (.node ({ cls := .type "code", data := .fields #[vs "__init__" 581, vs "LineReader.__init__" 582, vs "/claim/cut.py" 583, .int 174 0, .int 2 0, .int 0 0, .int 0 0, .int 3 0, .ref 291, .bool true, .int 181 0, .ref 292, .none, .ref 293, .ref 294, .ref 295, .int 586 0, .int 174 0, vs "/claim/cut.py" 587] }) .nil .nil) .nil) (.node ({ cls := .type "code", data := .fields #[vs "hex_escape" 492, vs "hex_escape" 493, vs "/claim/cut.py" 494, .int 135 0, .int 1 0, .int 0 0, .int 0 0, .int 3 0, .ref 227, .bool true, .int 181 0, .ref 228, .none, .ref 229, .ref 230, .ref 231, .int 497 0, .int 135 0, vs "/claim/cut.py" 498] }) (.node (fnO "numbers" "LineReader.numbers" (inSt 20 9) (.none)) .nil .nil) .nil))) (.node ({ cls := .type "code", data := .fields #[vs "position_of" 267, vs "position_of" 268, vs "/claim/cut.py" 269, .int 19 0, .int 2 0, .int 0 0, .int 0 0, .int 3 0, .ref 51, .bool true, .int 181 0, .ref 52, .none, .ref 53, .ref 54, .ref 55, .int 276 0, .int 19 0, vs "/claim/cut.py" 277] }) (.node ({ cls := .type "dict", data := .dict #[de P "__module__" 324 (vs "grammarmill.source" 194), de P "__qualname__" 326 (vs "TableError" 325), de P "__firstlineno__" 328 (.int 39 327), de P "__static_attributes__" 329 (.ref 93)] 4 }) (.node eT (.node ({ cls := .type "getset_descriptor", data := .fields #[vs "__dict__" 562, .ref 279, .builtin "function.__dict__", .builtin "function.__dict__#set"] }) .nil .nil) .nil) (.node eT (.node eT .nil .nil) .nil)) (.node ({ cls := .type "tuple", data := .seq #[.int 0 362] }) (.node ({ cls := .type "function", data := fnD "number" "Cursor.number" (inSt 11 10) 194 "grammarmill.source" (.none) (.ref 183) 3 [] (.none) }) (.node eT .nil .nil) .nil) (.node (fnO "show_item" "show_item" (topSt 18) (.none)) (.node ({ cls := .type "function", data := fnD "texts" "LineReader.texts" (inSt 20 11) 515 "grammarmill.lines" (.none) (.ref 375) 3 [] (.none) }) .nil .nil) .nil))))) (.node ({ cls := .none, data := .fields #[.int 1 0, .int 0 0, .ref 20, .int 10 0, .int 0 0, .ref 28, .int 19 0, .int 0 0, .ref 56, .int 28 0, .int 0 0, .ref 63, .int 39 0, .int 0 0, .ref 91, .int 41 0, .int 0 0, .ref 103, .int 135 0, .int 0 0, .ref 232, .int 138 0, .int 0 0, .ref 239, .int 149 0, .int 0 0, .ref 244, .int 154 0, .int 0 0, .ref 249, .int 162 0, .int 0 0, .ref 256, .int 172 0, .int 0 0, .ref 289] }) (.node ({ cls := .type "code", data := .fields #[vs "_wall" 187, vs "_wall" 188, vs "/claim/cut.py" 189, .int 1 0, .int 1 0, .int 0 0, .int 0 0, .int 3 0, .ref 15, .bool true, .int 181 0, .ref 16, .none, .ref 17, .ref 18, .ref 19, .int 191 0, .int 1 0, vs "/claim/cut.py" 192] }) (.node ({ cls := .type "function", data := fnD "__init__" "Position.__init__" (inSt 7 0) 194 "grammarmill.source" (.none) (.ref 35) 3 [] (.none) }) (.node ({ cls := .type "tuple", data := .seq #[vs "self" 294, vs "what" 295, vs "at" 296] }) (.node (fnO "starts" "Cursor.starts" (inSt 11 3) (.none)) (.node ({ cls := .type "tuple", data := .seq #[vs "self" 542, vs "head" 543] }) .nil .nil) (.node (fnO "need_same" "LineReader.need_same" (inSt 20 13) (.none)) .nil .nil)) (.node (fnO "position_at" "Cursor.position_at" (inSt 11 12) (.none)) (.node ({ cls := .type "code", data := .fields #[vs "end_line" 613, vs "LineReader.end_line" 614, vs "/claim/cut.py" 615, .int 189 0, .int 1 0, .int 0 0, .int 0 0, .int 3 0, .ref 319, .bool true, .int 181 0, .ref 320, .none, .ref 321, .ref 322, .ref 323, .int 617 0, .int 189 0, vs "/claim/cut.py" 618] }) .nil .nil) .nil)) (.node ({ cls := .type "dict", data := .dict #[de P "__module__" 340 (vs "grammarmill.source" 194), de P "__qualname__" 342 (vs "Cursor" 341), de P "__firstlineno__" 344 (.int 41 343), de P "__init__" 354 (.ref 112), de P "is_done" 361 (.ref 119), de P "peek" 371 (.ref 127), de P "starts" 379 (.ref 134), de P "take" 387 (.ref 141), de P "skip" 395 (.ref 148), de P "take_while" 404 (.ref 155), de P "take_line" 411 (.ref 162), de P "skip_blanks" 420 (.ref 170), de P "name" 427 (.ref 177), de P "number" 436 (.ref 184), de P "position" 443 (.ref 191), de P "position_at" 451 (.ref 198), de P "coded" 463 (.ref 205), de P "escape" 471 (.ref 212), de P "quoted" 481 (.ref 219), de P "__static_attributes__" 484 (.ref 220)] 20 }) (.node eT (.node eF .nil .nil) .nil) (.node eF (.node eT .nil .nil) .nil))) (.node eF (.node ({ cls := .type "super", data := .fields #[.ref 82, .ref 82, .ref 82] }) (.node ({ cls := .type "function", data := fnD "skip" "Cursor.skip" (inSt 11 5) 194 "grammarmill.source" (.none) (.ref 147) 3 [] (.none) }) (.node ({ cls := .type "function", data := fnD "text" "LineWriter.text" (inSt 19 2) 515 "grammarmill.lines" (.none) (.ref 275) 3 [] (.none) }) .nil .nil) .nil) (.node ({ cls := .type "function", data := fnD "escape" "Cursor.escape" (inSt 11 14) 194 "grammarmill.source" (.none) (.ref 211) 3 [] (.none) }) (.node ({ cls := .type "function", data := fnD "item" "LineReader.item" (inSt 20 6) 515 "grammarmill.lines" (.ref 333) (.ref 339) 3 [] (.none) }) .nil .nil) .nil)) (.node eT (.node ({ cls := .type "tuple", data := .seq #[vs "self" 431, vs "begun" 432, vs "figures" 433] }) (.node eT .nil .nil) .nil) (.node ({ cls := .type "code", data := .fields #[vs "escaped" 509, vs "escaped" 510, vs "/claim/cut.py" 511, .int 149 0, .int 2 0, .int 0 0, .int 0 0, .int 3 0, .ref 241, .bool true, .int 181 0, .ref 242, .none, .none, .none, .ref 243, .int 512 0, .int 149 0, vs "/claim/cut.py" 513] }) (.node ({ cls := .type "tuple", data := .seq #[vs "self" 686, vs "word" 687, vs "found" 688, vs "at" 689] }) .nil .nil) .nil)))) (.node ({ cls := .type "code", data := .fields #[vs "Position" 229, vs "Position" 230, vs "/claim/cut.py" 231, .int 10 0, .int 0 0, .int 0 0, .int 0 0, .int 0 0, .ref 26, .bool false, .int 181 0, .ref 27, .none, .none, .none, .none, .int 232 0, .int 10 0, vs "/claim/cut.py" 233] }) (.node ({ cls := .type "tuple", data := .seq #[vs "column" 256, vs "line" 257, vs "offset" 258] }) (.node eT (.node ({ cls := .type "code", data := .fields #[vs "take" 380, vs "Cursor.take" 381, vs "/claim/cut.py" 382, .int 59 0, .int 1 0, .int 0 0, .int 0 0, .int 3 0, .ref 135, .bool true, .int 181 0, .ref 136, .none, .ref 137, .ref 138, .ref 139, .int 385 0, .int 59 0, vs "/claim/cut.py" 386] }) (.node ({ cls := .type "code", data := .fields #[vs "add" 547, vs "LineWriter.add" 548, vs "/claim/cut.py" 549, .int 167 0, .int 3 0, .int 0 0, .int 0 0, .int 3 0, .ref 265, .bool true, .int 181 0, .ref 266, .none, .none, .none, .ref 267, .int 550 0, .int 167 0, vs "/claim/cut.py" 551] }) .nil .nil) (.node ({ cls := .type "super", data := .fields #[.ref 393, .ref 393, .ref 393] }) .nil .nil)) (.node ({ cls := .type "code", data := .fields #[vs "coded" 452, vs "Cursor.coded" 453, vs "/claim/cut.py" 454, .int 101 0, .int 4 0, .int 0 0, .int 0 0, .int 3 0, .ref 199, .bool true, .int 181 0, .ref 200, .none, .ref 201, .ref 202, .ref 203, .int 461 0, .int 101 0, vs "/claim/cut.py" 462] }) (.node ({ cls := .type "function", data := fnD "whole" "LineReader.whole" (inSt 20 5) 515 "grammarmill.lines" (.none) (.ref 331) 3 [] (.none) }) .nil .nil) .nil)) (.node ({ cls := .type "tuple", data := .seq #[vs "self" 349, vs "text" 350, vs "at" 351] }) (.node eF (.node ({ cls := .type "tuple", data := .seq #[vs "self" 592, vs "what" 593] }) .nil .nil) .nil) (.node ({ cls := .type "tuple", data := .seq #[vs "sign" 503, vs "marks" 504, vs "code" 505] }) (.node eF .nil .nil) .nil))) (.node ({ cls := .type "dict", data := .dict #[de P "__module__" 286 (vs "grammarmill.source" 194), de P "__qualname__" 288 (vs "ToolError" 287), de P "__firstlineno__" 290 (.int 28 289), de P "__init__" 299 (.ref 72), de P "told" 306 (.ref 79), de P "__static_attributes__" 309 (.ref 80)] 6 }) (.node ({ cls := .type "frame", slots := #[some (.ref 91), some (.ref 3), some (.ref 88), none, some (vs "grammarmill.source" 194), none, some (.ref 0)] }) (.node eT (.node eT .nil .nil) .nil) (.node ({ cls := .type "tuple", data := .seq #[vs "at" 482, vs "text" 483] }) (.node eT .nil .nil) .nil)) (.node eT (.node eT (.node (fnO "head" "LineReader.head" (inSt 20 3) (.none)) .nil .nil) .nil) (.node ({ cls := .type "builtin_function_or_method", data := .fields #[.builtin "type.__prepare__", .type "type"] }) (.node eT .nil .nil) .nil)))))) (.node (boot_o_6 P) (.node (boot_o_10 P) (.node eT (.node (fnO "__init__" "Position.__init__" (inSt 7 0) (.none)) (.node eT (.node ({ cls := .type "tuple", data := .seq #[vs "self" 375, vs "word" 376] }) (.node eT .nil .nil) (.node ({ cls := .type "tuple", data := .seq #[vs "self" 703, vs "text" 704, vs "own" 705, vs "at" 706] }) .nil .nil)) (.node ({ cls := .type "tuple", data := .seq #[vs "self" 447, vs "offset" 448] }) (.node eT .nil .nil) .nil)) (.node eT (.node ({ cls := .type "function", data := fnD "take_line" "Cursor.take_line" (inSt 11 7) 194 "grammarmill.source" (.none) (.ref 161) 3 [] (.none) }) (.node ({ cls := .type "frame", slots := #[some (.ref 289), some (.ref 3), some (.ref 286), none, some (vs "grammarmill.lines" 515), none, some (.ref 0)] }) .nil .nil) .nil) (.node ({ cls := .type "builtin_function_or_method", data := .fields #[.builtin "object.__init_subclass__", .ref 222] }) (.node ({ cls := .type "function", data := fnD "items" "LineReader.items" (inSt 20 8) 515 "grammarmill.lines" (.none) (.ref 353) 3 [] (.none) }) .nil .nil) .nil))) (.node ({ cls := .type "builtin_function_or_method", data := .fields #[.builtin "object.__init_subclass__", .ref 46] }) (.node ({ cls := .type "type", data := .cls { name := "ToolError", bases := [.type "Exception"], mro := [.ref 82, .type "Exception", .type "BaseException", .type "object"], ns := 81, qualname := "ToolError", subclasses := [.ref 95] }, slots := #[some (.ref 58), none, some (vs "ToolError" 279), some (vs "ToolError" 287), some (.builtin "Exception.__new__"), some (.bool true)] }) (.node (fnO "skip" "Cursor.skip" (inSt 11 5) (.none)) (.node (fnO "text" "LineWriter.text" (inSt 19 2) (.none)) .nil .nil) .nil) (.node (fnO "escape" "Cursor.escape" (inSt 11 14) (.none)) (.node (fnO "item" "LineReader.item" (inSt 20 6) (.none)) .nil .nil) .nil)) (.node eF (.node eT (.node eF .nil .nil) .nil) (.node eF (.node eT .nil .nil) .nil)))) (.node eT (.node ({ cls := .type "code", data := .fields #[vs "told" 249, vs "Position.told" 250, vs "/claim/cut.py" 251, .int 17 0, .int 1 0, .int 0 0, .int 0 0, .int 3 0, .ref 37, .bool true, .int 181 0, .ref 38, .none, .ref 39, .ref 40, .ref 41, .int 253 0, .int 17 0, vs "/claim/cut.py" 254] }) (.node eF (.node eT (.node eF .nil .nil) (.node ({ cls := .type "getset_descriptor", data := .fields #[vs "__dict__" 713, .ref 393, .builtin "function.__dict__", .builtin "function.__dict__#set"] }) .nil .nil)) (.node eT (.node (fnO "whole" "LineReader.whole" (inSt 20 5) (.none)) .nil .nil) .nil)) (.node eT (.node ({ cls := .type "function", data := fnD "skip_blanks" "Cursor.skip_blanks" (inSt 11 8) 194 "grammarmill.source" (.ref 163) (.ref 169) 3 [] (.none) }) (.node eT .nil .nil) .nil) (.node eT (.node ({ cls := .type "function", data := fnD "numbers" "LineReader.numbers" (inSt 20 9) 515 "grammarmill.lines" (.ref 355) (.ref 361) 3 [] (.none) }) .nil .nil) .nil))) (.node ({ cls := .type "tuple", data := .seq #[.type "Exception"] }) (.node eF (.node ({ cls := .type "code", data := .fields #[vs "take_while" 396, vs "Cursor.take_while" 397, vs "/claim/cut.py" 398, .int 72 0, .int 2 0, .int 0 0, .int 0 0, .int 3 0, .ref 149, .bool true, .int 181 0, .ref 150, .none, .ref 151, .ref 152, .ref 153, .int 402 0, .int 72 0, vs "/claim/cut.py" 403] }) (.node ({ cls := .type "super", data := .fields #[.ref 279, .ref 279, .ref 279] }) .nil .nil) .nil) (.node ({ cls := .type "code", data := .fields #[vs "quoted" 472, vs "Cursor.quoted" 473, vs "/claim/cut.py" 474, .int 123 0, .int 2 0, .int 0 0, .int 0 0, .int 3 0, .ref 213, .bool true, .int 181 0, .ref 214, .none, .ref 215, .ref 216, .ref 217, .int 479 0, .int 123 0, vs "/claim/cut.py" 480] }) (.node ({ cls := .type "code", data := .fields #[vs "bracket" 639, vs "LineReader.bracket" 640, vs "/claim/cut.py" 641, .int 213 0, .int 2 0, .int 0 0, .int 0 0, .int 3 0, .ref 341, .bool true, .int 181 0, .ref 342, .none, .ref 343, .ref 344, .ref 345, .int 645 0, .int 213 0, vs "/claim/cut.py" 646] }) .nil .nil) .nil)) (.node eF (.node eF (.node ({ cls := .type "tuple", data := .seq #[vs "self" 608, vs "word" 609] }) .nil .nil) .nil) (.node ({ cls := .type "function", data := fnD "show_item" "show_item" (topSt 18) 515 "grammarmill.lines" (.none) (.ref 249) 3 [] (.none) }) (.node eF .nil .nil) .nil))))) (.node ({ cls := .type "frame", slots := #[some (.ref 13), some (.ref 3), some (.ref 3), none, some (vs "__main__" 164), none, some (.ref 0)] }) (.node ({ cls := .type "dict", data := .dict #[de P "n" 205 (.int 10 206), de P "t" 207 (.int 9 208), de P "r" 209 (.int 13 210), de P "f" 211 (.int 12 212), de P "v" 213 (.int 11 214), de P "a" 215 (.int 7 216), de P "b" 217 (.int 8 218)] 7 }) (.node eF (.node (fnO "__init__" "ToolError.__init__" (inSt 9 0) (.none)) (.node ({ cls := .type "function", data := fnD "starts" "Cursor.starts" (inSt 11 3) 194 "grammarmill.source" (.none) (.ref 133) 3 [] (.none) }) (.node (fnO "__init__" "LineWriter.__init__" (inSt 19 0) (.none)) .nil .nil) (.node ({ cls := .type "function", data := fnD "need_same" "LineReader.need_same" (inSt 20 13) 515 "grammarmill.lines" (.none) (.ref 389) 3 [] (.none) }) .nil .nil)) (.node ({ cls := .type "function", data := fnD "position_at" "Cursor.position_at" (inSt 11 12) 194 "grammarmill.source" (.none) (.ref 197) 3 [] (.none) }) (.node eT .nil .nil) .nil)) (.node ({ cls := .none, data := .fields #[.int 43 0, .int 4 0, .ref 111, .int 47 0, .int 4 0, .ref 118, .int 50 0, .int 4 0, .ref 126, .int 56 0, .int 4 0, .ref 133, .int 59 0, .int 4 0, .ref 140, .int 66 0, .int 4 0, .ref 147, .int 72 0, .int 4 0, .ref 154, .int 78 0, .int 4 0, .ref 161, .int 81 0, .int 4 0, .ref 169, .int 84 0, .int 4 0, .ref 176, .int 87 0, .int 4 0, .ref 183, .int 95 0, .int 4 0, .ref 190, .int 98 0, .int 4 0, .ref 197, .int 101 0, .int 4 0, .ref 204, .int 109 0, .int 4 0, .ref 211, .int 123 0, .int 4 0, .ref 218] }) (.node ({ cls := .type "tuple", data := .seq #[vs "self" 416, vs "signs" 417] }) (.node eT .nil .nil) .nil) (.node eT (.node ({ cls := .type "tuple", data := .seq #[vs "self" 662, vs "word" 663, vs "least" 664, vs "most" 665, vs "many" 666, vs "found" 667, vs "item" 668, vs "is_out" 669] }) .nil .nil) .nil))) (.node eT (.node ({ cls := .type "tuple", data := .seq #[.ref 82] }) (.node eF (.node ({ cls := .type "dict", data := .dict #[de P "__module__" 534 (vs "grammarmill.lines" 515), de P "__firstlineno__" 538 (.int 162 537), de P "__init__" 546 (.ref 264), de P "add" 552 (.ref 269), de P "text" 559 (.ref 276), de P "__static_attributes__" 561 (.ref 277), de P "__dict__" 563 (.ref 280), de P "__weakref__" 565 (.ref 281), de P "__doc__" 566 (.none)] 4 }) .nil .nil) .nil) (.node eF (.node eF .nil .nil) .nil)) (.node ({ cls := .type "code", data := .fields #[vs "is_done" 355, vs "Cursor.is_done" 356, vs "/claim/cut.py" 357, .int 47 0, .int 1 0, .int 0 0, .int 0 0, .int 3 0, .ref 113, .bool true, .int 181 0, .ref 114, .none, .ref 115, .ref 116, .ref 117, .int 359 0, .int 47 0, vs "/claim/cut.py" 360] }) (.node (fnO "number" "Cursor.number" (inSt 11 10) (.none)) (.node ({ cls := .type "code", data := .fields #[vs "need" 597, vs "LineReader.need" 598, vs "/claim/cut.py" 599, .int 181 0, .int 2 0, .int 0 0, .int 0 0, .int 3 0, .ref 305, .bool true, .int 181 0, .ref 306, .none, .ref 307, .ref 308, .ref 309, .int 602 0, .int 181 0, vs "/claim/cut.py" 603] }) .nil .nil) .nil) (.node eT (.node (fnO "texts" "LineReader.texts" (inSt 20 11) (.none)) .nil .nil) .nil)))) (.node eT (.node ({ cls := .type "type", data := .cls { name := "Position", bases := [.type "object"], mro := [.ref 46, .type "object"], ns := 45, qualname := "Position" }, slots := #[none, none, some (vs "Position" 227), some (vs "Position" 235), some (.builtin "object.__new__"), some (.bool true)] }) (.node ({ cls := .type "code", data := .fields #[vs "told" 300, vs "ToolError.told" 301, vs "/claim/cut.py" 302, .int 35 0, .int 1 0, .int 0 0, .int 0 0, .int 3 0, .ref 73, .bool true, .int 181 0, .ref 74, .none, .ref 75, .ref 76, .ref 77, .int 304 0, .int 35 0, vs "/claim/cut.py" 305] }) (.node eT (.node eT .nil .nil) .nil) (.node eT (.node eT .nil .nil) .nil)) (.node (fnO "__init__" "Cursor.__init__" (inSt 11 0) (.none)) (.node eT (.node (fnO "fail" "LineReader.fail" (inSt 20 1) (.none)) .nil .nil) .nil) (.node (fnO "escaped_sign" "escaped_sign" (topSt 13) (.none)) (.node eT .nil .nil) .nil))) (.node ({ cls := .none, data := .fields #[.int 30 0, .int 4 0, .ref 71, .int 35 0, .int 4 0, .ref 78] }) (.node ({ cls := .type "dict", data := .dict #[de P "__module__" 324 (vs "grammarmill.source" 194), de P "__firstlineno__" 328 (.int 39 327), de P "__static_attributes__" 329 (.ref 93), de P "__doc__" 330 (.none)] 2 }) (.node ({ cls := .type "tuple", data := .seq #[vs "self" 408] }) (.node ({ cls := .type "dict", data := .dict #[de P "__module__" 576 (vs "grammarmill.lines" 515), de P "__qualname__" 578 (vs "LineReader" 577), de P "__firstlineno__" 580 (.int 172 579), de P "__init__" 588 (.ref 297), de P "fail" 596 (.ref 304), de P "need" 604 (.ref 311), de P "head" 612 (.ref 318), de P "end_line" 619 (.ref 325), de P "whole" 628 (.ref 332), de P "item" 638 (.ref 340), de P "bracket" 647 (.ref 347), de P "items" 658 (.ref 354), de P "numbers" 672 (.ref 362), de P "one" 682 (.ref 369), de P "texts" 692 (.ref 376), de P "finish" 699 (.ref 383), de P "need_same" 709 (.ref 390), de P "__static_attributes__" 712 (.ref 391)] 18 }) .nil .nil) .nil) (.node ({ cls := .type "type", data := .cls { name := "Cursor", bases := [.type "object"], mro := [.ref 222, .type "object"], ns := 221, qualname := "Cursor" }, slots := #[none, none, some (vs "Cursor" 333), some (vs "Cursor" 341), some (.builtin "object.__new__"), some (.bool true)] }) (.node ({ cls := .type "tuple", data := .seq #[vs "self" 651, vs "word" 652, vs "many" 653, vs "found" 654, vs "turn" 655] }) .nil .nil) .nil)) (.node ({ cls := .type "code", data := .fields #[vs "peek" 363, vs "Cursor.peek" 364, vs "/claim/cut.py" 365, .int 50 0, .int 2 0, .int 0 0, .int 0 0, .int 3 0, .ref 121, .bool true, .int 181 0, .ref 122, .none, .ref 123, .ref 124, .ref 125, .int 369 0, .int 50 0, vs "/claim/cut.py" 370] }) (.node ({ cls := .type "code", data := .fields #[vs "position" 437, vs "Cursor.position" 438, vs "/claim/cut.py" 439, .int 95 0, .int 1 0, .int 0 0, .int 0 0, .int 3 0, .ref 185, .bool true, .int 181 0, .ref 186, .none, .ref 187, .ref 188, .ref 189, .int 441 0, .int 95 0, vs "/claim/cut.py" 442] }) (.node ({ cls := .type "function", data := fnD "head" "LineReader.head" (inSt 20 3) 515 "grammarmill.lines" (.none) (.ref 317) 3 [] (.none) }) .nil .nil) .nil) (.node eT (.node ({ cls := .type "code", data := .fields #[vs "finish" 693, vs "LineReader.finish" 694, vs "/claim/cut.py" 695, .int 256 0, .int 1 0, .int 0 0, .int 0 0, .int 3 0, .ref 377, .bool true, .int 181 0, .ref 378, .none, .ref 379, .ref 380, .ref 381, .int 697 0, .int 256 0, vs "/claim/cut.py" 698] }) .nil .nil) .nil)))))))
noncomputable def hHeap46 : Params → Heap := fun P => { objs := { toList := [boot_o_0 P, boot_o_1 P, boot_o_2 P, boot_o_3 P, boot_o_4 P, boot_o_5 P, boot_o_6 P, boot_o_7 P, boot_o_8 P, boot_o_9 P, boot_o_10 P, eT, eF, { cls := .type "code", data := .fields #[vs "<module>" 182, vs "<module>" 183, vs "/claim/cut.py" 184, .int 1 0, .int 0 0, .int 0 0, .int 0 0, .int 0 0, .ref 11, .bool false, .int 181 0, .ref 12, .none, .none, .none, .none, .int 185 0, .int 1 0, vs "/claim/cut.py" 186] }, { cls := .type "frame", slots := #[some (.ref 13), some (.ref 3), some (.ref 3), none, some (vs "__main__" 164), none, some (.ref 0)] }] } }

noncomputable abbrev pv : Program := pw_on0170_01
abbrev rv : OpenRow := rw_on0170_01.row
noncomputable abbrev qv : Program := view pv [0, 1, 2, 4, 5, 7, 8, 10, 11, 12, 13, 14, 15, 16, 17, 18, 19, 20, 21, 22, 23, 24, 25, 26, 27, 28, 29, 30, 31, 32]
noncomputable abbrev loosev : List PySem.Str := ["HEX_SIGNS", "PLAIN_ESCAPES", "ToolError"]
noncomputable abbrev HK : Hook := kmHook KK asK (fun _ => by kernel_rfl) [452, 445, 440]
noncomputable def hEnv : Env := { scope := pv.main.scope, locals := mainNs, globals := mainNs, cells := [], code := Value.ref 13, frame := some 14 }
noncomputable def hCode : Code := .body (behindTheImports pv) hEnv
noncomputable abbrev p0 : Pos := ⟨0, 0, 0, 0⟩
noncomputable abbrev p6 : Pos := ⟨9, 0, 9, 13⟩
noncomputable abbrev pZ : Pos := ⟨352, 0, 379, 81⟩
noncomputable abbrev sBoot (w : World) (os : OsState) : Shared := ⟨boot_heap w.params, Array.mk [], boot_drawn, boot_toks, os⟩
noncomputable abbrev s46 (w : World) (os : OsState) : Shared := ⟨hHeap46 w.params, Array.mk [], {}, 187, os⟩
noncomputable abbrev s47 (w : World) (os : OsState) : SharedT := ⟨hTree47 w.params, 15, {}, Array.mk [], {}, 187, os⟩
noncomputable abbrev s58 (w : World) (os : OsState) : SharedT := ⟨hTree58 w.params, 23, {}, Array.mk [], {}, 227, os⟩
noncomputable abbrev s227 (w : World) (os : OsState) : SharedT := ⟨hTree227 w.params, 227, {}, Array.mk [], {}, 492, os⟩
noncomputable abbrev s398 (w : World) (os : OsState) : SharedT := ⟨hTree398 w.params, 398, {}, Array.mk [], {}, 720, os⟩
noncomputable abbrev hd1 : List Stmt := (behindTheImports pv).take 7
noncomputable abbrev hd2 : List Stmt := (behindTheImports pv).drop 7
noncomputable abbrev hd3 : List Stmt := hd2.drop 5
noncomputable abbrev hd4 : List Stmt := hd3.drop 9
noncomputable abbrev pA : Pos := ⟨41, 0, 134, 19⟩
noncomputable abbrev pB : Pos := ⟨172, 0, 271, 77⟩
noncomputable abbrev annv : Option Value := some (.ref 6)


theorem pre_run (w : World) (os : OsState) : topGo treeTable pv w 11 annv 12 (sBoot w os) (topStub pv) = some (s46 w os, ⟨denote treeTable hCode, hCode, p0, [topFrame p0]⟩) := by
  rw [PySem.W.Fast.te15667345088766844465, PySem.W.Fast.te11892475500146522536, PySem.W.Fast.te14364793385576792824]; kernel_rfl
theorem block_run (w : World) (os : OsState) : segRun treeTable pv w 11 annv 1 1 (s46 w os) (blockOf (behindTheImports pv) hEnv hCode p0 [topFrame p0]) = some (.next, (s47 w os).abs, hCode, p0) := by
  rw [PySem.W.Fast.te14374325043358763698, PySem.W.Fast.te14364793385576792824]; kernel_rfl
noncomputable abbrev P1 (tb : String → Option Builtin) (run : type_of% segRunT) (w : World) : Prop := (fun os => run tb pv w 11 annv 1 198 (s47 w os) (piecesOf hd1 hEnv hCode p0 [topFrame p0])) = fun os => some (.next, s58 w os, hCode, p6)
theorem piece1F (w : World) : P1 PySem.W.Fast.tw14364793385576792824 PySem.W.Fast.tw10110043849684766642 (w.withFollow "special-get-raises" false) := by kernel_rfl
theorem piece1T (w : World) : P1 PySem.W.Fast.tw14364793385576792824 PySem.W.Fast.tw10110043849684766642 (w.withFollow "special-get-raises" true) := by kernel_rfl
theorem piece1 (w : World) : P1 treeTable segRunT w := by
  rw [PySem.W.Fast.te10110043849684766642, PySem.W.Fast.te14364793385576792824]; exact byRow2 "special-get-raises" piece1F piece1T w


noncomputable abbrev PS (tb : String → Option Builtin) (run : type_of% segRunT) (n : Nat) (s₀ s₁ : World → OsState → SharedT) (sts : List Stmt) (p q : Pos) (w : World) : Prop := (fun os => run tb pv w 11 annv 1 n (s₀ w os) (piecesOf sts hEnv hCode p [topFrame p0])) = fun os => some (.next, s₁ w os, hCode, q)
theorem segA_tw (w : World) : PS PySem.W.Fast.tw14364793385576792824 PySem.W.Fast.tw10110043849684766642 1500 s58 s227 (hd2.take 5) p6 pA w := by kernel_rfl
theorem segB_tw (w : World) : PS PySem.W.Fast.tw14364793385576792824 PySem.W.Fast.tw10110043849684766642 1100 s227 s398 (hd3.take 9) pA pB w := by kernel_rfl
theorem segA (w : World) : PS treeTable segRunT 1500 s58 s227 (hd2.take 5) p6 pA w := by
  rw [PySem.W.Fast.te10110043849684766642, PySem.W.Fast.te14364793385576792824]; exact segA_tw w
theorem segB (w : World) : PS treeTable segRunT 1100 s227 s398 (hd3.take 9) pA pB w := by
  rw [PySem.W.Fast.te10110043849684766642, PySem.W.Fast.te14364793385576792824]; exact segB_tw w
theorem open_at : ∀ w : World, (fencedOpening treeTable pv w 3213).map (fun s => (s.heap, s.gens, s.drawn, s.toks)) = some (boot_heap w.params, Array.mk [], boot_drawn, boot_toks) :=
  boot_open (by kernel_rfl) (by kernel_rfl) (fun s => by kernel_rfl)
theorem size_at (w : World) : ((boot_heap w.params).isNs mainGlobals, (boot_heap w.params).objs.size, (boot_heap w.params).nsMap mainGlobals "__annotations__") = (true, 11, annv) := by kernel_rfl
noncomputable abbrev keptv (w : World) (s : Shared) : Bool := staticsOk (importedModules pv.main.body) (boot_heap w.params) s.heap && namesBound pv s.heap && gensDone s && laidKept (boot_heap w.params) s.heap
noncomputable abbrev seenv (seen : type_of% @openSeen) (s : Shared) := seen qv loosev (importedModules pv.main.body) (fun s => recOk rv.toRowW.records s) true s
noncomputable abbrev P2 {α : Type} (tb : String → Option Builtin) (runT : type_of% segRunT) (run : type_of% topRun) (look : World → Shared → α) (good : World → α) (w : World) : Prop := ∀ os,
  ((runT tb pv w 11 annv 1 400 (s398 w os) (piecesOf hd4 hEnv hCode pB [topFrame p0])).bind fun x => (run tb pv w 11 annv 2 x.2.1.abs ⟨doneF .next, hCode, pZ, [topFrame p0]⟩).map fun r => (x.1, x.2.2, look w r)) = some (.next, (hCode, pZ), good w)
theorem P2.and {α β : Type} {tb : String → Option Builtin} {runT : type_of% segRunT} {run : type_of% topRun} {l1 : World → Shared → α} {g1 : World → α} {l2 : World → Shared → β} {g2 : World → β} {w : World} (h1 : P2 tb runT run l1 g1 w) (h2 : P2 tb runT run l2 g2 w) : P2 tb runT run (fun w s => (l1 w s, l2 w s)) (fun w => (g1 w, g2 w)) w := fun os => by
  obtain ⟨x, h, k⟩ := Option.bind_eq_some_iff.mp (h1 os)
  obtain ⟨r, hr, e1⟩ := Option.map_eq_some_iff.mp k
  have e2 := h2 os
  rw [h, Option.bind_some, hr, Option.map_some] at e2
  rw [h, Option.bind_some, hr, Option.map_some]
  have a1 := congrArg (fun x => x.2.2) e1
  have a2 := congrArg (fun x => x.2.2) (Option.some.inj e2)
  have a3 := congrArg (fun x => (x.1, x.2.1)) e1
  have b1 := congrArg Prod.fst a3
  have b2 := congrArg Prod.snd a3
  dsimp only at a1 a2 b1 b2
  show some (x.1, x.2.2, l1 w r, l2 w r) = some (Flow.next, (hCode, pZ), g1 w, g2 w)
  rw [a1, a2, b1, b2]
theorem rest_tw1 (w : World) : P2 PySem.W.Fast.tw14364793385576792824 PySem.W.Fast.tw10110043849684766642 PySem.W.Fast.tw14082659384304107361 (fun w s => keptv w s) (fun _ => true) w := fun os => by kernel_rfl
theorem seen1 (w : World) : P2 PySem.W.Fast.tw14364793385576792824 PySem.W.Fast.tw10110043849684766642 PySem.W.Fast.tw14082659384304107361 (fun _ s => (Fast.tw5160383126252970620 (R.mapR (fun x => x.name) (Fast.tw3399658132070893891 qv)) (Fast.tw5991557255702980513 qv) [] { s with gens := #[] }, s.heap.bltView, Fast.tw10880121769531294198 s.heap (Fast.tw821141287760084731 qv loosev) (R.mapR (fun x => x.name) (Fast.tw3399658132070893891 qv)) (R.mapR (fun x => x.fst) (Fast.tw7409074990110511671 qv)) (R.mapR (fun x => x.name) (Fast.tw13664370479719496447 qv (Fast.tw821141287760084731 qv loosev))) && Fast.tw14722251495701143533 s.heap (importedModules pv.main.body) && s.heap.isNs mainGlobals && s.heap.isNs builtinsNs && Fast.tw10994771534591457954 qv s.heap && recOk rv.toRowW.records s && if true then s.gens.size == 0 else !leftWithCleanup s.gens)) (fun _ => (expectedOf qv, bltViewBooted, true)) w := fun os => by kernel_rfl
theorem seen2 (w : World) : P2 PySem.W.Fast.tw14364793385576792824 PySem.W.Fast.tw10110043849684766642 PySem.W.Fast.tw14082659384304107361 (fun _ s => (Fast.tw479339242167458305 qv s, Fast.tw16090120013241838585 qv (Fast.tw3247288618530077131 qv) s, Fast.tw2386780881361962483 qv (Fast.tw821141287760084731 qv loosev) s)) (fun _ => (true, pinGoodD (drecsOf qv), plainGoodE qv (looseW qv loosev))) w := fun os => by kernel_rfl
theorem seen3 (w : World) : P2 PySem.W.Fast.tw14364793385576792824 PySem.W.Fast.tw10110043849684766642 PySem.W.Fast.tw14082659384304107361 (fun _ s => (Fast.tw11698064438423848299 qv loosev s, Fast.tw7317090234206586261 qv s, Fast.tw7369524293546568484 qv loosev s)) (fun _ => (plainGoodD qv loosev, wideGood qv, clsGoodW qv loosev)) w := fun os => by kernel_rfl
theorem P2.map {α β : Type} {tb : String → Option Builtin} {runT : type_of% segRunT} {run : type_of% topRun} {l : World → Shared → α} {g : World → α} {w : World} (f : α → β) (h : P2 tb runT run l g w) : P2 tb runT run (fun w s => f (l w s)) (fun w => f (g w)) w := fun os => by
  obtain ⟨x, h, k⟩ := Option.bind_eq_some_iff.mp (h os)
  obtain ⟨r, hr, e⟩ := Option.map_eq_some_iff.mp k
  rw [h, Option.bind_some, hr, Option.map_some]
  exact congrArg (fun x => some (x.1, x.2.1, f x.2.2)) e
theorem rest_tw2 (w : World) : P2 PySem.W.Fast.tw14364793385576792824 PySem.W.Fast.tw10110043849684766642 PySem.W.Fast.tw14082659384304107361 (fun _ s => seenv PySem.W.Fast.tw4187177175401517315 s) (fun _ => openGood qv loosev) w := by
  delta seenv PySem.W.Fast.tw4187177175401517315 openGood
  exact P2.map (fun x => (x.1.1, x.1.2.1, x.1.2.2, x.2.1.1, x.2.1.2.1, x.2.1.2.2, x.2.2.1, x.2.2.2.1, x.2.2.2.2)) ((seen1 w).and ((seen2 w).and (seen3 w)))
theorem rest_tw3 (w : World) : P2 PySem.W.Fast.tw14364793385576792824 PySem.W.Fast.tw10110043849684766642 PySem.W.Fast.tw14082659384304107361 (fun _ s => HK.obs s) (fun w => HK.val w) w := fun os => by kernel_rfl
theorem rest_run1 (w : World) : P2 treeTable segRunT topRun (fun w s => keptv w s) (fun _ => true) w := by
  rw [PySem.W.Fast.te10110043849684766642, PySem.W.Fast.te14082659384304107361, PySem.W.Fast.te14364793385576792824]; exact rest_tw1 w
theorem rest_run2 (w : World) : P2 treeTable segRunT topRun (fun _ s => seenv openSeen s) (fun _ => openGood qv loosev) w := by
  rw [PySem.W.Fast.te10110043849684766642, PySem.W.Fast.te14082659384304107361, PySem.W.Fast.te14364793385576792824, PySem.W.Fast.te4187177175401517315]; exact rest_tw2 w
theorem rest_run3 (w : World) : P2 treeTable segRunT topRun (fun _ s => HK.obs s) (fun w => HK.val w) w := by
  rw [PySem.W.Fast.te10110043849684766642, PySem.W.Fast.te14082659384304107361, PySem.W.Fast.te14364793385576792824]; exact rest_tw3 w
theorem chain {w : World} {os : OsState} {S : SharedT} {r : Shared} (h : segRunT treeTable pv w 11 annv 1 400 (s398 w os) (piecesOf hd4 hEnv hCode pB [topFrame p0]) = some (.next, S, hCode, pZ))
    (k : topRun treeTable pv w 11 annv 2 S.abs ⟨doneF .next, hCode, pZ, [topFrame p0]⟩ = some r) : topRun treeTable pv w 11 annv (12 + (1 + (198 + (1500 + (1100 + (400 + 2)))))) (sBoot w os) (topStub pv) = some r := by
  refine go_top (pre_run w os) (piece_block (block_run w os) ?_)
  rw [show behindTheImports pv = hd1 ++ hd2 from (List.take_append_drop 7 _).symm]
  refine piece_app (segRun_of (congrFun (piece1 w) os)) ?_
  rw [show hd2 = hd2.take 5 ++ hd3 from (List.take_append_drop 5 _).symm]
  refine piece_app (segRun_of (congrFun (segA w) os)) ?_
  rw [show hd3 = hd3.take 9 ++ hd4 from (List.take_append_drop 9 _).symm]
  refine piece_app (segRun_of (congrFun (segB w) os)) ?_
  rw [show hd4 = hd4 ++ [] from (List.append_nil _).symm]
  exact piece_app (segRun_of h) (piece_nil k)
theorem run_all (w : World) (os : OsState) : (topRun treeTable pv w 11 annv (12 + (1 + (198 + (1500 + (1100 + (400 + 2)))))) (sBoot w os) (topStub pv)).map (fun s => (keptv w s, seenv openSeen s, HK.obs s)) = some (true, openGood qv loosev, HK.val w) := by
  obtain ⟨⟨f, S, c, p⟩, h, k⟩ := Option.bind_eq_some_iff.mp ((rest_run1 w).and ((rest_run2 w).and (rest_run3 w)) os)
  obtain ⟨r, hr, k1⟩ := Option.map_eq_some_iff.mp k
  obtain ⟨e1, e2, e3⟩ : _ ∧ _ ∧ _ := by simpa only [Prod.mk.injEq] using k1
  subst e1
  obtain ⟨rfl, rfl⟩ := e2
  rw [chain h hr, Option.map_some, e3.1, e3.2.1, e3.2.2]
theorem left_boot {p q : Program} {loose : List PySem.Str} {Xt : Shared → Bool} {α : Type} {Yf : Shared → α} {Ya : World → α} {N m₀ : Nat} {ann : Option Value}
    (open_ : ∀ w : World, (fencedOpening treeTable p w N).map (fun s => (s.heap, s.gens, s.drawn, s.toks)) = some (boot_heap w.params, Array.mk [], boot_drawn, boot_toks))
    (size : ∀ w : World, ((boot_heap w.params).isNs mainGlobals, (boot_heap w.params).objs.size, (boot_heap w.params).nsMap mainGlobals "__annotations__") = (true, m₀, ann))
    (run : ∀ (w : World) (os : OsState), (topRun treeTable p w m₀ ann N ⟨boot_heap w.params, Array.mk [], boot_drawn, boot_toks, os⟩ (topStub p)).map (fun s =>
      ((staticsOk (importedModules p.main.body) (boot_heap w.params) s.heap && namesBound p s.heap && gensDone s && laidKept (boot_heap w.params) s.heap), openSeen q loose (importedModules p.main.body) Xt true s, Yf s)) = some (true, openGood q loose, Ya w)) :
    LeftO p q loose Xt Yf Ya N := fun w => by
  obtain ⟨⟨h, gs, d, k, os⟩, e, e'⟩ := Option.map_eq_some_iff.mp (open_ w)
  obtain ⟨rfl, rfl, rfl, rfl⟩ : h = boot_heap w.params ∧ gs = Array.mk [] ∧ d = boot_drawn ∧ k = boot_toks := by simpa using e'
  obtain ⟨z1, z2, z3⟩ : _ ∧ _ ∧ _ := by simpa only [Prod.mk.injEq] using size w
  obtain ⟨s₁, r, l⟩ := Option.map_eq_some_iff.mp (run w os)
  obtain ⟨l1, l2, l3⟩ : _ ∧ _ ∧ _ := by simpa only [Prod.mk.injEq] using l
  have t : topFrom treeTable p w N ⟨boot_heap w.params, Array.mk [], boot_drawn, boot_toks, os⟩ = some s₁ := by
    unfold topFrom
    dsimp only
    rw [z1, z2, z3, r]
    show (match staticsOk (importedModules p.main.body) (boot_heap w.params) s₁.heap && namesBound p s₁.heap && gensDone s₁ && laidKept (boot_heap w.params) s₁.heap with | true => _ | false => _) = _
    rw [l1]
  unfold openEnds
  rw [e]
  show (topFrom treeTable p w N _).map _ = _
  rw [t]
  exact congrArg some (Prod.ext l2 l3)
noncomputable def lawD : DefRec := ((defOf qv "law").map (·.1)).getD ⟨"law", fnArgs passS, [], fnScope passS, p0⟩
theorem law_def : defOf qv rv.name = some (lawD, []) := by kernel_rfl
theorem law_the : rv.prog.theDef rv.name = some (lawD.params, lawD.body, lawD.scope) := by kernel_rfl
theorem law_kw : kwWritten? lawD.params.kwonlyargs lawD.params.kw_defaults = some [] := by kernel_rfl
theorem law_ok : (chainsOk qv && opensWell rv.prog && (frees rv.toRowW && rv.within.isEmpty)) = true := by kernel_rfl
theorem law_said : rw_on0170_01.wellSaid = true := by
  rw [PySem.W.Fast.te9446332074065402090]
  delta PySem.W.Fast.tw9446332074065402090
  repeat' (with_reducible refine look_both ?_ ?_)
  delta PySem.W.Fast.tw17960256430627541270
  repeat' (with_reducible refine look_both ?_ ?_)
  delta PySem.W.Fast.tw2436336058641802641
  repeat' (with_reducible refine look_both ?_ ?_)
  delta PySem.W.Fast.tw12908688711261696721
  repeat' (with_reducible refine look_both ?_ ?_)
  all_goals (as_aux_lemma => kernel_rfl)
theorem law_pre : rv.toRowW.promised := by w_witness2
theorem head (call : WalkO qv loosev (fun _ _ => True) HK.says rv.toRowW lawD [] fun f vs => PySem.call f vs) : rw_on0170_01.Holds :=
  holds_law law_said fun said => holds_open (left_boot open_at size_at run_all) HK.of HK.keeps (fun _ _ => trivial) (fun _ _ _ _ _ => trivial) law_def law_the law_kw (fun s e => recFacts_of e) rfl said law_ok ⟨rfl, rfl, rfl, rfl, rfl, by decide +kernel⟩ law_pre call

end Mine
end HD
section J0
open PySem PySem.W PySem.Calls PyProof.Rows PySem.Challenge
set_option maxRecDepth 100000
set_option maxHeartbeats 4000000
namespace Mine
theorem law_fn {h₁ : Heap} {tabs : List (Addr × Addr)} {c : Cx} (hT : TabsAt tabs h₁) (hc : c.h₀ = ghostOf h₁ tabs) {fa : Addr} {o : Obj} {name : PySem.Str} {params : Arguments} {body : List Stmt} {scope : Scope} {pm cd doc kV : Value}
    (ho : h₁.get? fa = some o) (hd : o.data = .func { docDef name params body scope pm cd doc with defaults := .none, kwdefaults := kV }) (hcd : h₁.CodeRec cd name) : FnB c fa name name params body scope .none cd := ⟨fun h _ k => by
  rw [hc] at k
  refine ⟨?_, ?_⟩
  · obtain ⟨oc, od, dt, sl⟩ := o
    have hd : dt = _ := hd
    subst hd
    exact ⟨kV, doc, pm, _, _, oc, od, sl, k _ _ (ghost_get hT ho (fun q => by cases q))⟩
  · obtain ⟨c', oc, vs, t, e1, e2, e3, e4⟩ := hcd
    exact ⟨c', oc, vs, t, e1, k _ _ (ghost_get hT e2 (fun q => by rw [q] at e3; cases e3; cases e4)), e3, e4⟩⟩

noncomputable abbrev tabs3 : List (Addr × Addr) := [(442, 440), (449, 445), (454, 452)]
theorem join {prog : Program} {w : World} {s₁ : Shared} {mg mb : PySem.Str → Option Value} {p : Program} {loose : List PySem.Str} {mean : ExcName → Option Value}
    (KX : (KK w.params).In s₁.heap) (hT8 : ∀ P ∈ [452, 445, 440], s₁.heap.get? P = some (tabObj #[])) (T : Top p loose mean mg mb s₁.heap) (hg : s₁.gens = #[])
    {fa : Addr} {o : Obj} {pm cd doc kV : Value} (ho : s₁.heap.get? fa = some o) (hdd : o.data = .func { docDef "law" (fnArgs (topSt 32)) (fnBody (topSt 32)) (fnScope (topSt 32)) pm cd doc with defaults := .none, kwdefaults := kV })
    (hcd : s₁.heap.CodeRec cd "law") {a : Addr} {vs : List Value} {zs : List Int} (hL : s₁.heap.IsList a vs.toArray) (hI : IntsAre vs zs) (hlen : zs.length ≤ 63)
    {cw : ClaimW} {cl : PySem.Str → Option Addr} {mean' : ExcName → Option Value} {args : List WData} (hr : ∀ a x, cw.raises a x = false) (hpost : cw.post args (.bool true) args = true) :
    codeAny (model prog w) callerA (.call (.ref fa) ⟨[.ref a], []⟩) (GoodWG cw cl mean' args s₁) s₁ := by
  have hT9 : TabsAt tabs3 s₁.heap := List.forall_mem_cons.mpr ⟨⟨codeHd_of_K KX (by kernel_rfl), hT8 440 (by decide)⟩, List.forall_mem_cons.mpr ⟨⟨codeHd_of_K KX (by kernel_rfl), hT8 445 (by decide)⟩, List.forall_mem_cons.mpr ⟨⟨codeHd_of_K KX (by kernel_rfl), hT8 452 (by decide)⟩, fun _ h => nomatch h⟩⟩⟩
  obtain ⟨lo, T'⟩ : ∃ lo, Top topProg lo mean mg mb (ghostOf s₁.heap tabs3) := ⟨_, ghost_top hT9 T⟩
  have F := law_fn (c := ⟨prog, w, KK w.params, ghostOf s₁.heap tabs3, s₁.os, mg, mb, topProg, lo⟩) hT9 rfl ho hdd hcd
  refine kn_post hT9 hr ?_
  refine codeAny_mono (law_run ⟨rfl⟩ ⟨ghost_K hT9 KX (by kernel_rfl), topRead_of T', T'.bmain⟩ F (ghost_list hT9 hL) hI (by have := hI.length; unfold sizeLine; omega) (s := s₁)
    (fun b o e => of_hideAll _ e) hg rfl (fun P hP => ⟨hT8 P (by rcases hP with rfl | rfl | rfl <;> decide), hideAll_none _ (by rcases hP with rfl | rfl | rfl <;> decide)⟩)) fun r s' x => ?_
  obtain ⟨rfl, b, os, g, g1, g2, g3⟩ := x
  exact ⟨⟨.inl ⟨.bool true, .bool true, [], rfl, hr _, .bool _, hpost, fun _ => ⟨List.nodup_nil, fun _ h => nomatch h⟩⟩, b, os, g⟩, g1, g2, g3, trivial⟩
end Mine

theorem PySem.Challenge.cw_on0170_01_holds : PySem.Challenge.rw_on0170_01.Holds := by
  refine Mine.head ?_
  intro w s₀ s₁ mg mb G Y fa o pm cd doc dV kV ho hdd hcd hD hmg hg args vals as hpre hlay hrd hwl hlo
  have KX := km_in_of Y
  have hT8 := km_tabs_of Y
  refine Ground.open G ?_
  intro T B D TE TW
  clear Y G B D TE TW
  rcases hD.pos with ⟨_, hdV⟩ | ⟨hn, _⟩
  case inr => exact absurd rfl hn
  subst hdV
  wrow_args hpre hlay hrd hwl hlo
  rename_i zs _ _ _ _ _ _ _ a vs _ hL _ _ _ hI _ hlen _
  exact enter_call (Mine.join KX hT8 T hg ho hdd hcd hL hI (by omega) (fun _ _ => rfl) (by wrow_post))
end J0
