import PyProof.Rows.All
import Wide.All
import OpenK.KRaise
import OpenK.XOpen
import OpenK.ZHead
import OpenK.KMore
import KE.KPop
import KE.KItem
import KE.BytesMake
import Open.FastT9
import Open.FastRun
import Wide.FinOn
import Lean
import PySem.Challenge.RW_pc0154_01
set_option Elab.async false
set_option maxRecDepth 100000
set_option linter.all false
set_option compiler.extract_closed false
set_option tactic.hygienic false
set_option genInjectivity false
set_option genSizeOf false
open PySem PySem.W PyProof.Rows PySem.Calls
namespace Mine.Internal
section
open PySem PySem.W PyProof.Rows
set_option maxHeartbeats 0
noncomputable abbrev lk0 : Look := { strict := false, foot := none, bare := [] }
theorem look_lk (p : Program) (body : List Stmt) (ns : List Str) (h1 : (importedModules body).all cThrough.contains = true) (h2 : (ns.filter (readsOut p body)).isEmpty = true)
    (h3 : noRoadLSs lk0 body = true) :
    noRoadLSs { strict := !(importedModules body).all cThrough.contains, foot := none, bare := ns.filter (readsOut p body) } body = true := by
  rw [h1, List.isEmpty_iff.mp h2]; exact h3
theorem road_app (lk : Look) (r : List Stmt) (h2 : noRoadLSs lk r = true) : ∀ l : List Stmt, noRoadLSs lk l = true → noRoadLSs lk (l ++ r) = true
  | [], _ => h2
  | s :: l, h => by
    have h' : (noRoadLS lk s && noRoadLSs lk l) = true := h
    have h1 := Bool.and_eq_true_iff.mp h'
    show (noRoadLS lk s && noRoadLSs lk (l ++ r)) = true
    rw [h1.1, road_app lk r h2 l h1.2]; rfl
theorem road_cut (lk : Look) (l : List Stmt) (n : Nat) (s : Stmt) (r : List Stmt) (e : l.drop n = s :: r) (h1 : noRoadLSs lk (l.take n) = true) (h2 : noRoadLS lk s = true) (h3 : noRoadLSs lk r = true) : noRoadLSs lk l = true := by
  rw [← List.take_append_drop n l, e]
  refine road_app lk _ ?_ _ h1
  show (noRoadLS lk s && noRoadLSs lk r) = true
  rw [h2, h3]; rfl
noncomputable def strL (l : List Nat) : Bool := !(l.any (fun c => c == 123 || c == 125) || l.any (· == 46)) && lk0.word ⟨⟨l⟩⟩
theorem look_str {s : String} {cs : List Char} (e : s = String.ofList cs) (h : strL (cs.map Char.toNat) = true) : lk0.str (Str.ofString s) = true := by
  subst e
  rw [Fast.ofString_ofList]
  unfold strL at h
  obtain ⟨h1, h2⟩ := Bool.and_eq_true_iff.mp h
  rw [Bool.not_eq_true', Bool.or_eq_false_iff] at h1
  unfold Look.str roadStr
  rw [h2, ← Array.any_toList, ← Array.any_toList, h1.1, h1.2]
  simp
theorem look_assign {lk : Look} {n : Str} {p q r : Pos} {k : Nat} {x : Str} (hf : lk.foot = none) (hn : lk.name n = true) (hx : lk.str x = true) : noRoadLS lk (.Assign [.Name n p] (.Constant (.str x) k q) r) = true := by
  show (lk.stores [.Name n p] && (lk.name n && true) && lk.str x) = true
  rw [hn, hx]
  unfold Look.stores
  rw [hf]
  rfl
theorem road_ok : noRoadLSs lk0 PySem.Challenge.pw_pc0154_01.main.body = true := by
  refine road_cut _ _ 59 _ _ rfl ?_ ?_ ?_
  · kernel_rfl
  · refine look_assign rfl ?_ ?_
    · kernel_rfl
    · refine look_str rfl ?_
      kernel_rfl
  · kernel_rfl
theorem lk_res : namesResolve PySem.Challenge.rw_pc0154_01.row.prog = true := by kernel_rfl
theorem lk_meet : (namesMeet PySem.Challenge.rw_pc0154_01.row.prog PySem.Challenge.rw_pc0154_01.row.prog.main.body fun _ n => attrL n) = true := by kernel_rfl
theorem lk_out : ((["vars", "dir", "locals"] : List Str).filter (readsOut PySem.Challenge.rw_pc0154_01.row.prog PySem.Challenge.rw_pc0154_01.row.prog.main.body)).isEmpty = true := by kernel_rfl
theorem look_ok : PySem.Challenge.rw_pc0154_01.wellSaid = true := by
  unfold OpenLaw.wellSaid OpenRow.wellSaid OpenRow.partSaid looksOpen
  repeat' (with_reducible refine look_both ?_ ?_)
  all_goals first
    | with_reducible exact lk_res
    | with_reducible exact lk_meet
    | ((with_reducible refine look_lk _ _ _ ?h1 ?h2 ?h3); (case h1 => kernel_rfl); (case h2 => first | with_reducible exact lk_out | kernel_rfl); (case h3 => exact road_ok))
    | kernel_rfl
end
section
theorem size_push (h : Heap) (o : Obj) : h.objs.size ≤ (h.push o).objs.size := by rw [Heap.size_push]; exact Nat.le_succ _
theorem size_update (h : Heap) (a : Addr) (f : Obj → Obj) : (h.update a f).objs.size = h.objs.size := by
  obtain ⟨objs, l⟩ := h
  show (objs.modify a f).size = objs.size
  simp
theorem runs_size {M : Model} {Γ : Ctx} {p : Pos} {t : Sem Fin} {fs : List Frame} {s s' : Shared} {e : End} (h : Runs M Γ p t fs s e s') : s.heap.objs.size ≤ s'.heap.objs.size := by
  induction h <;> (try simp only [Shared.setGen, size_update, Heap.size_push] at *) <;> lia
theorem returns_size {M : Model} {Γ : Ctx} {p : Pos} {s s' : Shared} {r : Result} (h : Returns M Γ p s r s') : s.heap.objs.size ≤ s'.heap.objs.size := runs_size h
theorem wakes_size {M : Model} {Γ : Ctx} {p : Pos} {g : Nat} {r : Resume} {s s' : Shared} {res : GenResult} (h : Wakes M Γ p g r s res s') : s.heap.objs.size ≤ s'.heap.objs.size := by
  have e0 : ∀ {p : Prop}, p ∧ s' = s → s.heap.objs.size ≤ s'.heap.objs.size := fun h => h.2 ▸ Nat.le_refl _
  revert h
  delta Wakes
  cases s.gens[g]? with
  | none => exact fun h => h.elim
  | some st => cases st with
    | fresh c => cases r with
      | send v => cases v with
        | none => intro h; obtain ⟨e₁, s₁, hr, _, _, rfl⟩ := h; exact (runs_size hr : (s.setGen g .running).heap.objs.size ≤ s₁.heap.objs.size)
        | _ => exact e0
      | throw x => intro h; rw [h.2]; exact Nat.le_refl _
    | suspended => intro h; obtain ⟨e₁, s₁, hr, _, _, rfl⟩ := h; exact (runs_size hr : (s.setGen g .running).heap.objs.size ≤ s₁.heap.objs.size)
    | running => exact e0
    | finished => exact e0
open Sem in
theorem wp_size {α : Type} (M : Model) (Γ : Ctx) (n : Nat) (t : Sem α) : ∀ (Q : α → Pos → Shared → Prop) (E : Value → Pos → Shared → Prop) (p : Pos) (s : Shared), n ≤ s.heap.objs.size → wp M Γ t Q E p s →
    wp M Γ t (fun a p' s' => n ≤ s'.heap.objs.size ∧ Q a p' s') (fun e p' s' => n ≤ s'.heap.objs.size ∧ E e p' s') p s := by
  induction t with
  | pure a => intro Q E p s hn h; exact ⟨hn, h⟩
  | raise e => intro Q E p s hn h; exact ⟨hn, h⟩
  | unsupported _ => intro Q E p s _ h; exact h
  | finish _ => intro Q E p s _ h; exact h
  | rule _ k ih => intro Q E p s hn h; exact ih () Q E p s hn h
  | «at» p' k ih => intro Q E p s hn h; exact ih () Q E p' s hn h
  | load a _ k ih => intro Q E p s hn h; obtain ⟨o, ho, h⟩ := h; exact ⟨o, ho, ih o Q E p s hn h⟩
  | update a _ f k ih => intro Q E p s hn h; exact ⟨h.1, ih () Q E p _ (by show n ≤ (s.heap.update a f).objs.size; rw [size_update]; exact hn) h.2⟩
  | loadIfAlive a k ih => intro Q E p s hn h; exact ih _ Q E p s hn h
  | point _ k ih => intro Q E p s hn h; exact ih () Q E p s hn h
  | register _ _ => intro Q E p s _ h; exact h
  | alloc o k ih => intro Q E p s hn h; exact ih _ Q E p _ (Nat.le_trans hn (size_push _ _)) h
  | fresh k ih => intro Q E p s hn h; exact ih _ Q E p _ hn h
  | ask k ih => intro Q E p s hn h; exact ih _ Q E p s hn h
  | choose src m k ih => intro Q E p s hn h; exact ⟨h.1, ih _ Q E p _ hn h.2⟩
  | os q _ k ih => intro Q E p s hn h; exact ih _ Q E p _ hn h
  | call c hd _ _ k ih => intro Q E p s hn h; obtain ⟨r, s', hr, h⟩ := h; exact ⟨r, s', hr, ih r Q E p s' (Nat.le_trans hn (returns_size hr)) h⟩
  | handled own k ih => intro Q E p s hn h; exact ih _ Q E p s hn h
  | genState g k ih => intro Q E p s hn h; obtain ⟨st, hs, h⟩ := h; exact ⟨st, hs, ih _ Q E p s hn h⟩
  | newGen c k ih => intro Q E p s hn h; exact ih _ Q E p _ hn h
  | resume g r _ k ih => intro Q E p s hn h; obtain ⟨res, s', hw, h⟩ := h; exact ⟨res, s', hw, ih res Q E p s' (Nat.le_trans hn (wakes_size hw)) h⟩
  | yield _ _ _ _ => intro Q E p s _ h; exact h
  | stack k ih => intro Q E p s hn h; exact ih _ Q E p s hn h
  | fork _ _ => intro Q E p s _ h; exact h
  | thread k ih => intro Q E p s hn h; exact ih _ Q E p s hn h
  | await _ _ _ _ _ => intro Q E p s _ h; exact h
theorem wpAny_size {α : Type} {M : Model} {A : Around} {s : Shared} {t : Sem α} {Q : α → Shared → Prop} {E : Value → Shared → Prop} (h : wpAny M A t (fun a s' => s.heap.objs.size ≤ s'.heap.objs.size → Q a s') (fun e s' => s.heap.objs.size ≤ s'.heap.objs.size → E e s') s) : wpAny M A t Q E s :=
  wpAny_mono (fun Γ p hΓ => wp_size M Γ s.heap.objs.size t _ _ p s (Nat.le_refl _) (h Γ p hΓ) : wpAny M A t (fun a s' => s.heap.objs.size ≤ s'.heap.objs.size ∧ (s.heap.objs.size ≤ s'.heap.objs.size → Q a s')) (fun e s' => s.heap.objs.size ≤ s'.heap.objs.size ∧ (s.heap.objs.size ≤ s'.heap.objs.size → E e s')) s)
    (fun _ _ x => x.2 x.1) (fun _ _ x => x.2 x.1)
end
section
set_option tactic.hygienic true
set_option genInjectivity true
inductive V where
  | none | bool (b : Bool) | int (i : Int) | str (s : Str) | bytes (b : Array UInt8)
  | tup (vs : List V) | lst (vs : List V) | ref (a : Addr) | typ (n : String) | bi (n : String) | rng (a b : Int)
  deriving Inhabited
inductive O where
  | list (vs : List V)
  | inst (C d : Addr) (fs : List (String × V))
  | shadow (x : Addr)
  | dict (kvs : List (Str × V)) (n : Nat)
  | exc (C : Addr) (d : Option Addr)
  | pend (k : Nat)
noncomputable abbrev Store := Addr → Option O
noncomputable def upd (σ : Store) (a : Addr) (o : O) : Store := fun b => if b = a then some o else σ b
theorem upd_self (σ : Store) (a : Addr) (o : O) : upd σ a o a = some o := if_pos rfl
theorem upd_ne {σ : Store} {a b : Addr} {o : O} (h : b ≠ a) : upd σ a o b = σ b := if_neg h
inductive TupE (R : List Value → Prop) (σ : Store) (h : Heap) (v : Value) : Prop
  | mk (a : Addr) (its : Array Value) (h1 : v = .ref a) (h2 : σ a = none) (h3 : IsTup h a its) (h4 : R its.toList)
inductive LstE (R : List Value → Prop) (σ : Store) (h : Heap) (v : Value) : Prop
  | mk (a : Addr) (its : Array Value) (h1 : v = .ref a) (h2 : σ a = none) (h3 : h.PlainList a its) (h4 : R its.toList)
inductive ConsE (R : Value → Prop) (S : List Value → Prop) (l : List Value) : Prop
  | mk (x : Value) (xs : List Value) (h1 : l = x :: xs) (h2 : R x) (h3 : S xs)
mutual
noncomputable def VR (σ : Store) (h : Heap) : V → Value → Prop
  | .none, v => v = .none
  | .bool b, v => v = .bool b
  | .int i, v => ∃ t, v = .int i t
  | .str s, v => ∃ t, v = .str s t
  | .bytes b, v => ∃ t, v = .bytes b t
  | .tup vs, v => TupE (VRs σ h vs) σ h v
  | .lst vs, v => LstE (VRs σ h vs) σ h v
  | .ref a, v => v = .ref a
  | .typ n, v => v = .type n
  | .bi n, v => v = .builtin n
  | .rng a b, v => ∃ r t u z, v = .ref r ∧ σ r = none ∧ IsRange h r a b 1 t u z
noncomputable def VRs (σ : Store) (h : Heap) : List V → List Value → Prop
  | [], l => l = []
  | v :: vs, l => ConsE (VR σ h v) (VRs σ h vs) l
end
theorem VRs.length {σ : Store} {h : Heap} : ∀ {vs : List V} {l : List Value}, VRs σ h vs l → l.length = vs.length
  | [], _, e => by rw [VRs] at e; subst e; rfl
  | v :: vs, _, e => by rw [VRs] at e; obtain ⟨x, xs, rfl, _, r⟩ := e; simp [VRs.length r]
structure Stp (σ : Store) (s : Shared) (σ' : Store) (s' : Shared) : Prop where
  size : s.heap.objs.size ≤ s'.heap.objs.size
  keep : ∀ x o, s.heap.get? x = some o → σ x = none → (∀ es n, o.data ≠ .dict es n) → s'.heap.get? x = some o
  ns : ∀ l m, s.heap.Ns l m → σ l = none → s'.heap.Ns l m
  new : ∀ x, x < s.heap.objs.size → σ x = none → σ' x = none
  gens : s'.gens = s.gens
  os : s'.os = s.os
theorem ns_keep {h h' : Heap} {l : Addr} {m : Str → Option Value} (x : h.Ns l m) (k : ∀ o, h.get? l = some o → h'.get? l = some o) : h'.Ns l m := by
  obtain ⟨o, es, ep, e, r⟩ := x
  exact ⟨o, es, ep, k o e, r⟩
theorem ns_lt {h : Heap} {x : Addr} {m : Str → Option Value} (n : h.Ns x m) : x < h.objs.size := by
  obtain ⟨o, _, _, e, _⟩ := n
  exact Heap.lt_size e
theorem Stp.refl (σ : Store) (s : Shared) : Stp σ s σ s := ⟨Nat.le_refl _, fun _ _ e _ _ => e, fun _ _ h _ => h, fun _ _ e => e, rfl, rfl⟩
theorem Stp.trans {σ₁ σ₂ σ₃ : Store} {s₁ s₂ s₃ : Shared} (x : Stp σ₁ s₁ σ₂ s₂) (y : Stp σ₂ s₂ σ₃ s₃) : Stp σ₁ s₁ σ₃ s₃ := by
  refine ⟨Nat.le_trans x.size y.size, fun a o e n d => ?_, fun l m h n => ?_, fun a l n => ?_, y.gens.trans x.gens, y.os.trans x.os⟩
  · exact y.keep a o (x.keep a o e n d) (x.new a (Heap.lt_size e) n) d
  · exact y.ns l m (x.ns l m h n) (x.new l (ns_lt h) n)
  · exact y.new a (Nat.lt_of_lt_of_le l x.size) (x.new a l n)
noncomputable def Frz (o : Obj) : Prop := (∃ xs n, o.data = .seq xs n) ∨ ((∃ vs, o.data = .fields vs) ∧ o.cls = .type "range")
noncomputable def Via (σ : Store) (h : Heap) (σ' : Store) (h' : Heap) : Prop := ∀ a o, h.get? a = some o → σ a = none → Frz o → h'.get? a = some o ∧ σ' a = none
mutual
theorem VR.via {σ σ' : Store} {h h' : Heap} (x : Via σ h σ' h') : ∀ {v : V} {u : Value}, VR σ h v u → VR σ' h' v u
  | .none, _, e => by rw [VR] at e ⊢; exact e
  | .bool _, _, e => by rw [VR] at e ⊢; exact e
  | .int _, _, e => by rw [VR] at e ⊢; exact e
  | .str _, _, e => by rw [VR] at e ⊢; exact e
  | .bytes _, _, e => by rw [VR] at e ⊢; exact e
  | .tup _, _, e => by
    rw [VR] at e ⊢
    obtain ⟨a, its, rfl, n, ⟨o, ho, hc, k, hd⟩, r⟩ := e
    obtain ⟨h1, h2⟩ := x a o ho n (.inl ⟨_, _, hd⟩)
    exact ⟨a, its, rfl, h2, ⟨o, h1, hc, k, hd⟩, VRs.via x r⟩
  | .lst _, _, e => by
    rw [VR] at e ⊢
    obtain ⟨a, its, rfl, n, ⟨k, ho⟩, r⟩ := e
    obtain ⟨h1, h2⟩ := x a _ ho n (.inl ⟨_, _, rfl⟩)
    exact ⟨a, its, rfl, h2, ⟨k, h1⟩, VRs.via x r⟩
  | .ref _, _, e => by rw [VR] at e ⊢; exact e
  | .typ _, _, e => by rw [VR] at e ⊢; exact e
  | .bi _, _, e => by rw [VR] at e ⊢; exact e
  | .rng _ _, _, e => by
    rw [VR] at e ⊢
    obtain ⟨r, t, u, z, rfl, n, q⟩ := e
    obtain ⟨h1, h2⟩ := x r _ q n (.inr ⟨⟨_, rfl⟩, rfl⟩)
    exact ⟨r, t, u, z, rfl, h2, h1⟩
theorem VRs.via {σ σ' : Store} {h h' : Heap} (x : Via σ h σ' h') : ∀ {vs : List V} {l : List Value}, VRs σ h vs l → VRs σ' h' vs l
  | [], _, e => by rw [VRs] at e ⊢; exact e
  | _ :: _, _, e => by
    rw [VRs] at e ⊢
    obtain ⟨y, ys, rfl, a, b⟩ := e
    exact ⟨y, ys, rfl, VR.via x a, VRs.via x b⟩
end
theorem Frz.dict {o : Obj} (x : Frz o) : ∀ es n, o.data ≠ .dict es n := fun es n q => by
  rcases x with ⟨_, _, d⟩ | ⟨⟨_, d⟩, _⟩ <;> rw [q] at d <;> cases d
theorem Frz.cell {o : Obj} (x : Frz o) : ∀ v, o.data ≠ .cell v := fun v q => by
  rcases x with ⟨_, _, d⟩ | ⟨⟨_, d⟩, _⟩ <;> rw [q] at d <;> cases d
theorem Stp.via {σ σ' : Store} {s s' : Shared} (x : Stp σ s σ' s') : Via σ s.heap σ' s'.heap := fun a o e n f => ⟨x.keep a o e n f.dict, x.new a (Heap.lt_size e) n⟩
theorem VR.step {σ σ' : Store} {s s' : Shared} (x : Stp σ s σ' s') {v : V} {u : Value} (r : VR σ s.heap v u) : VR σ' s'.heap v u := r.via x.via
theorem VRs.step {σ σ' : Store} {s s' : Shared} (x : Stp σ s σ' s') {vs : List V} {l : List Value} (r : VRs σ s.heap vs l) : VRs σ' s'.heap vs l := r.via x.via
noncomputable def FR (σ : Store) (h : Heap) : List (String × V) → List DictEntry → Prop
  | [], l => l = []
  | p :: r, l => ∃ e es, l = e :: es ∧ (∃ t, e.key = .str (Str.ofString p.1) t) ∧ VR σ h p.2 e.val ∧ FR σ h r es
noncomputable def KR (σ : Store) (h : Heap) : List (Str × V) → List (Str × Value) → Prop
  | [], l => l = []
  | p :: r, l => ∃ u us, l = (p.1, u) :: us ∧ VR σ h p.2 u ∧ KR σ h r us
theorem FR.length {σ : Store} {h : Heap} : ∀ {fs : List (String × V)} {l : List DictEntry}, FR σ h fs l → l.length = fs.length
  | [], _, e => by rw [FR] at e; subst e; rfl
  | _ :: _, _, e => by rw [FR] at e; obtain ⟨_, _, rfl, _, _, r⟩ := e; simp [FR.length r]
theorem FR.step {σ σ' : Store} {s s' : Shared} (x : Stp σ s σ' s') : ∀ {fs : List (String × V)} {l : List DictEntry}, FR σ s.heap fs l → FR σ' s'.heap fs l
  | [], _, e => by rw [FR] at e ⊢; exact e
  | _ :: _, _, e => by
    rw [FR] at e ⊢
    obtain ⟨y, ys, rfl, a, b, c⟩ := e
    exact ⟨y, ys, rfl, a, VR.step x b, FR.step x c⟩
theorem KR.via {σ σ' : Store} {h h' : Heap} (x : Via σ h σ' h') : ∀ {fs : List (Str × V)} {l : List (Str × Value)}, KR σ h fs l → KR σ' h' fs l
  | [], _, e => by rw [KR] at e ⊢; exact e
  | _ :: _, _, e => by
    rw [KR] at e ⊢
    obtain ⟨u, us, rfl, a, b⟩ := e
    exact ⟨u, us, rfl, a.via x, KR.via x b⟩
theorem dictAt_any {p p' : Program} {w : World} {h : Heap} {a : Addr} {kvs : List (Str × Value)} {n : Nat} (x : h.DictAt (PySem.strKind p w) a kvs n) : h.DictAt (PySem.strKind p' w) a kvs n := by
  obtain ⟨o, es, h1, h2, h3, h4, h5, h6⟩ := x
  refine ⟨o, es, h1, h2, h3, h4, ?_, h6⟩
  clear h3 h4 h6
  revert h5
  generalize es.toList = l
  intro h5
  induction h5 with
  | nil => exact .nil
  | cons a b _ ih => exact .cons a b ih
inductive OListE (R : List Value → Prop) (h : Heap) (a : Addr) : Prop
  | mk (its : Array Value) (n : Nat) (h1 : h.get? a = some (listOf its n)) (h2 : R its.toList)
inductive OInstE (R : List DictEntry → Prop) (σ : Store) (h : Heap) (a C d : Addr) : Prop
  | mk (h0 : σ d = some (.shadow a)) (h1 : h.get? a = some (instObj C d)) (es : List DictEntry) (n : Nat) (h2 : h.get? d = some (dictOf es n)) (h3 : R es)
inductive OExcE (h : Heap) (a C : Addr) (d : Option Addr) : Prop
  | mk (vs : Array Value) (a0 : Value) (h1 : h.get? a = some ⟨.ref C, d, .fields vs, #[]⟩) (h2 : vs[0]? = some a0) (h3 : vs[1]? = some .none)
noncomputable def OR (w : World) (σ : Store) (h : Heap) (a : Addr) : O → Prop
  | .list vs => OListE (VRs σ h vs) h a
  | .inst C d fs => OInstE (FR σ h fs) σ h a C d
  | .shadow x => ∃ C fs, σ x = some (.inst C a fs)
  | .dict kvs n => ∃ kvs', (∀ prog, h.DictAt (PySem.strKind prog w) a kvs' n) ∧ KR σ h kvs kvs'
  | .exc C d => OExcE h a C d
  | .pend k => ∃ m ns, h.Ns1 a m ∧ Within m ns ∧ ns.length ≤ k
structure G where
  w : World
  h₀ : Heap
  mg : Str → Option Value
  mb : Str → Option Value
  K : Frag
variable (g : G)
structure Inv (σ : Store) (s : Shared) : Prop where
  base : ∀ b o, g.h₀.get? b = some o → s.heap.get? b = some o
  low : ∀ b, σ b ≠ none → g.h₀.objs.size ≤ b
  obj : ∀ a o, σ a = some o → OR g.w σ s.heap a o
  gens : s.gens = #[]
variable {g}
theorem OR.there {w : World} {σ : Store} {h : Heap} (ob : ∀ a o, σ a = some o → OR w σ h a o) {a : Addr} {o : O} (e : σ a = some o) : ∃ x, h.get? a = some x := by
  have := ob a o e
  cases o with
  | list => obtain ⟨_, _, q, _⟩ := this; exact ⟨_, q⟩
  | inst => obtain ⟨_, q, _⟩ := this; exact ⟨_, q⟩
  | shadow x =>
    obtain ⟨C, fs, q⟩ := this
    obtain ⟨_, _, _, _, q', _⟩ := ob x _ q
    exact ⟨_, q'⟩
  | dict => obtain ⟨_, q, _⟩ := this; obtain ⟨o, _, ho, _⟩ := q default; exact ⟨o, ho⟩
  | exc => obtain ⟨_, _, q, _⟩ := this; exact ⟨_, q⟩
  | pend => obtain ⟨_, _, ⟨_, _, _, q, _⟩, _⟩ := this; exact ⟨_, q⟩
theorem Inv.there {σ : Store} {s : Shared} (I : Inv g σ s) {a : Addr} (e : σ a ≠ none) : ∃ x, s.heap.get? a = some x := by
  cases q : σ a with
  | none => exact absurd q e
  | some o => exact OR.there I.obj q
theorem Inv.fresh {σ : Store} {s : Shared} (I : Inv g σ s) {a : Addr} (e : s.heap.objs.size ≤ a) : σ a = none := by
  cases q : σ a with
  | none => rfl
  | some o =>
    obtain ⟨x, hx⟩ := I.there (a := a) (by rw [q]; exact fun z => by cases z)
    exact absurd (Heap.lt_size hx) (Nat.not_lt.mpr e)
theorem Inv.lo {σ : Store} {s : Shared} (I : Inv g σ s) {a : Addr} (e : a < g.h₀.objs.size) : σ a = none := by
  cases q : σ a with
  | none => rfl
  | some o => exact absurd (I.low a (by rw [q]; exact fun z => by cases z)) (Nat.not_le.mpr e)
theorem Inv.lo' {σ : Store} {s : Shared} (I : Inv g σ s) {a : Addr} {o : Obj} (e : g.h₀.get? a = some o) : σ a = none := I.lo (Heap.lt_size e)
theorem Inv.baseLe {σ : Store} {s : Shared} (I : Inv g σ s) (ne : 0 < g.h₀.objs.size → ∃ o, g.h₀.get? (g.h₀.objs.size - 1) = some o) : g.h₀.objs.size ≤ s.heap.objs.size := by
  by_cases h : 0 < g.h₀.objs.size
  · obtain ⟨o, ho⟩ := ne h
    exact Nat.le_of_pred_lt (Heap.lt_size (I.base _ _ ho))
  · exact Nat.le_trans (Nat.not_lt.mp h) (Nat.zero_le _)
theorem Inv.change {σ σ' : Store} {s s' : Shared} (I : Inv g σ s) (T : Addr → Prop) (L : Option Addr)
    (size : s.heap.objs.size ≤ s'.heap.objs.size)
    (hk : ∀ x o, s.heap.get? x = some o → ¬ T x → L ≠ some x → s'.heap.get? x = some o)
    (hL : ∀ l, L = some l → σ l = none ∧ g.h₀.objs.size ≤ l ∧ (∀ m, s.heap.Ns l m → s'.heap.Ns l m) ∧ ∃ m, s.heap.Ns l m)
    (ht : ∀ x, T x → σ x ≠ none ∨ s.heap.objs.size ≤ x)
    (hn : ∀ x, T x → g.h₀.objs.size ≤ x)
    (hs : ∀ x, ¬ T x → σ' x = σ x)
    (hd : ∀ a C d fs, ¬ T a → σ a = some (.inst C d fs) → ¬ T d)
    (gens : s'.gens = s.gens) (os : s'.os = s.os)
    (ho : Stp σ s σ' s' → ∀ a o, T a → σ' a = some o → OR g.w σ' s'.heap a o) (hsh : ∀ d x, ¬ T d → σ d = some (.shadow x) → ∃ C fs, σ' x = some (.inst C d fs)) : Stp σ s σ' s' ∧ Inv g σ' s' := by
  have nt : ∀ x, σ x = none → x < s.heap.objs.size → ¬ T x := fun x n l t => by
    rcases ht x t with q | q
    · exact q n
    · exact absurd l (Nat.not_lt.mpr q)
  have st : Stp σ s σ' s' := by
    refine ⟨size, fun x o e n d => ?_, fun l m h n => ?_, fun x l n => ?_, gens, os⟩
    · refine hk x o e (nt x n (Heap.lt_size e)) fun q => ?_
      obtain ⟨_, _, _, m, o', es, ep, e', hdt, _⟩ := hL x q
      rw [e] at e'
      cases e'
      exact d es ep hdt
    · by_cases q : L = some l
      · exact (hL l q).2.2.1 m h
      · exact ns_keep h fun o e => hk l o e (nt l n (Heap.lt_size e)) q
    · rw [hs x (nt x n l)]; exact n
  have live : ∀ a o, σ a = some o → ¬ T a → ∀ x, s.heap.get? a = some x → s'.heap.get? a = some x := fun a o e t x hx => hk a x hx t fun q => by
    have := (hL a q).1
    rw [e] at this; cases this
  refine ⟨st, fun x o e => ?_, fun x n => ?_, fun a o e => ?_, gens.trans I.gens⟩
  · refine hk x o (I.base x o e) (fun t => ?_) fun q => ?_
    · exact absurd (Heap.lt_size e) (Nat.not_lt.mpr (hn x t))
    · exact absurd (Heap.lt_size e) (Nat.not_lt.mpr (hL x q).2.1)
  · by_cases t : T x
    · exact hn x t
    · rw [hs x t] at n; exact I.low x n
  · by_cases t : T a
    · exact ho st a o t e
    · rw [hs a t] at e
      have q := I.obj a o e
      have lv := live a o e t
      cases o with
      | list vs =>
        obtain ⟨its, n, h1, h2⟩ := q
        exact ⟨its, n, lv _ h1, VRs.step st h2⟩
      | inst C d fs =>
        obtain ⟨h1, h2, es, n, h3, h4⟩ := q
        have td := hd a C d fs t e
        exact ⟨(hs d td).trans h1, lv _ h2, es, n, live d _ h1 td _ h3, FR.step st h4⟩
      | shadow x => exact hsh a x t e
      | dict kvs n =>
        obtain ⟨es, h1, h2⟩ := q
        exact ⟨es, fun p => (h1 p).at' fun o e => lv o e, h2.via st.via⟩
      | exc C d =>
        obtain ⟨vs, a0, h1, r, r2⟩ := q
        exact ⟨vs, a0, lv _ h1, r, r2⟩
      | pend k =>
        obtain ⟨m, ns, h1, r⟩ := q
        exact ⟨m, ns, h1.at fun o e => lv _ e, r⟩
theorem Inv.grow {σ : Store} {s s' : Shared} (I : Inv g σ s) (size : s.heap.objs.size ≤ s'.heap.objs.size)
    (hk : ∀ x o, s.heap.get? x = some o → s'.heap.get? x = some o) (gens : s'.gens = s.gens) (os : s'.os = s.os) : Stp σ s σ s' ∧ Inv g σ s' :=
  I.change (fun _ => False) none size (fun x o e _ _ => hk x o e) (fun _ q => by cases q) (fun _ f => f.elim) (fun _ f => f.elim) (fun _ _ => rfl) (fun _ _ _ _ _ _ f => f) gens os (fun _ _ _ f => f.elim)
    (fun d x _ e => I.obj d _ e)
theorem Inv.toks {σ : Store} {s s' : Shared} (I : Inv g σ s) (hh : s'.heap = s.heap) (gens : s'.gens = s.gens) (os : s'.os = s.os) : Stp σ s σ s' ∧ Inv g σ s' :=
  I.grow (by rw [hh]; exact Nat.le_refl _) (fun b o e => by rw [hh]; exact e) gens os
noncomputable def Off (a : Addr) (h h' : Heap) : Prop := (∀ o, h.get? a = some o → ¬ Frz o) ∧ ∀ b o, b ≠ a → h.get? b = some o → h'.get? b = some o
theorem Off.via {a : Addr} {σ : Store} {h h' : Heap} (x : Off a h h') : Via σ h σ h' := fun b o e n f => ⟨x.2 b o (fun q => x.1 o (q ▸ e) f) e, n⟩
theorem VR.touch {a : Addr} {σ : Store} {h h' : Heap} (x : Off a h h') {v : V} {u : Value} (r : VR σ h v u) : VR σ h' v u := r.via x.via
theorem VRs.touch {a : Addr} {σ : Store} {h h' : Heap} (x : Off a h h') {vs : List V} {l : List Value} (r : VRs σ h vs l) : VRs σ h' vs l := r.via x.via
theorem FR.touch {a : Addr} {σ : Store} {h h' : Heap} (x : Off a h h') : ∀ {fs : List (String × V)} {l : List DictEntry}, FR σ h fs l → FR σ h' fs l
  | [], _, e => by rw [FR] at e ⊢; exact e
  | _ :: _, _, e => by
    rw [FR] at e ⊢
    obtain ⟨y, ys, rfl, p, q, r⟩ := e
    exact ⟨y, ys, rfl, p, VR.touch x q, FR.touch x r⟩
theorem OR.touch {w : World} {a b : Addr} {σ : Store} {h h' : Heap} {o : O} (x : Off a h h') (n : σ a = none) (ob : OR w σ h b o) (hb : σ b = some o) : OR w σ h' b o := by
  have ne : ∀ {c : Addr} {y : O}, σ c = some y → c ≠ a := fun e q => by rw [q, n] at e; cases e
  cases o with
  | list vs => obtain ⟨its, k, h1, h2⟩ := ob; exact ⟨its, k, x.2 _ _ (ne hb) h1, VRs.touch x h2⟩
  | inst C d fs => obtain ⟨h1, h2, es, k, h3, h4⟩ := ob; exact ⟨h1, x.2 _ _ (ne hb) h2, es, k, x.2 _ _ (ne h1) h3, FR.touch x h4⟩
  | shadow y => exact ob
  | dict kvs k => obtain ⟨es, h1, h2⟩ := ob; exact ⟨es, fun p => (h1 p).at' fun o e => x.2 _ _ (ne hb) e, h2.via x.via⟩
  | exc C d => obtain ⟨vs, a0, h1, r, r2⟩ := ob; exact ⟨vs, a0, x.2 _ _ (ne hb) h1, r, r2⟩
  | pend k => obtain ⟨m, ns, h1, r⟩ := ob; exact ⟨m, ns, h1.at fun o e => x.2 _ _ (ne hb) e, r⟩
theorem Inv.touch {σ : Store} {s s' : Shared} (I : Inv g σ s) {a : Addr} (n : σ a = none) (x : Off a s.heap s'.heap) (low : g.h₀.objs.size ≤ a) (gens : s'.gens = s.gens) : Inv g σ s' :=
  ⟨fun b o e => x.2 b o (fun q => Nat.not_lt.mpr low (q ▸ Heap.lt_size e)) (I.base b o e), I.low, fun b o e => (I.obj b o e).touch x n e, gens.trans I.gens⟩
theorem ledger (h₀ h : Heap) (L : Addr) : ∃ news, News h₀ L h news ∧ (∀ b x, h.get? b = some x → b ≠ L → h₀.get? b = none → (b, x) ∈ news) ∧ news.Pairwise fun p q => p.1 ≠ q.1 := by
  refine ⟨(List.range h.objs.size).filterMap fun b => match h.get? b, h₀.get? b with
    | some x, none => if b = L then none else some (b, x)
    | _, _ => none, fun p hp => ?_, fun b x e n n0 => ?_, ?_⟩
  · obtain ⟨b, _, hb⟩ := List.mem_filterMap.mp hp
    split at hb
    · rename_i x h1 h2
      split at hb
      · cases hb
      · rename_i hn
        cases hb
        exact ⟨h1, hn, h2⟩
    · cases hb
  · refine List.mem_filterMap.mpr ⟨b, List.mem_range.mpr (Heap.lt_size e), ?_⟩
    rw [e, n0]
    exact if_neg n
  · rw [List.pairwise_filterMap]
    refine List.Pairwise.imp ?_ (List.nodup_range (n := h.objs.size))
    intro a b ab p hp q hq
    have key : ∀ {c : Addr} {r : Addr × Obj}, (match h.get? c, h₀.get? c with
      | some x, none => if c = L then none else some (c, x)
      | _, _ => none) = some r → r.1 = c := by
      intro c r e
      split at e
      · split at e
        · cases e
        · cases e; rfl
      · cases e
    rw [key hp, key hq]
    exact ab
theorem ledger_at {h₀ h : Heap} {L d : Addr} {o : Obj} (e : h.get? d = some o) (n : d ≠ L) (n0 : h₀.get? d = none) : ∃ pre post, News h₀ L h (pre ++ (d, o) :: post) ∧ (∀ p ∈ pre, p.1 ≠ d) ∧ (∀ p ∈ post, p.1 ≠ d) ∧
    ∀ b x, h.get? b = some x → b ≠ L → h₀.get? b = none → b ≠ d → (b, x) ∈ pre ++ post := by
  obtain ⟨news, N, all, pw⟩ := ledger h₀ h L
  obtain ⟨pre, post, rfl⟩ := List.append_of_mem (all d o e n n0)
  rw [List.pairwise_append, List.pairwise_cons] at pw
  obtain ⟨_, ⟨p1, _⟩, p2⟩ := pw
  refine ⟨pre, post, N, fun p hp q => p2 p hp (d, o) (.head _) q, fun p hp q => p1 p hp q.symm, fun b x e n n0 nd => ?_⟩
  have := all b x e n n0
  rcases List.mem_append.mp this with q | q
  · exact List.mem_append_left _ q
  · rcases List.mem_cons.mp q with q | q
    · cases q; exact absurd rfl nd
    · exact List.mem_append_right _ q
end
variable {prog : Program} {g : G}
section
structure FC where
  qual : Str
  sc : Scope
  L : Addr
  fr : Addr
  f : Option Addr
  cd : Value
  cl : List (Str × Addr)
noncomputable def FC.env (c : FC) : Env := { scope := c.sc, locals := c.L, globals := mainGlobals, cells := c.cl, qual := c.qual, func := c.f, code := c.cd, frame := some c.fr, builtins := builtinsNs }
noncomputable abbrev Loc := List (String × V)
theorem m0 {a : String × V} {l : Loc} : a ∈ a :: l := .head _
theorem m1 {a b : String × V} {l : Loc} : b ∈ a :: b :: l := .tail _ (.head _)
theorem m2 {a b c : String × V} {l : Loc} : c ∈ a :: b :: c :: l := .tail _ (.tail _ (.head _))
theorem m3 {a b c d : String × V} {l : Loc} : d ∈ a :: b :: c :: d :: l := .tail _ (.tail _ (.tail _ (.head _)))
theorem m4 {a b c d e : String × V} {l : Loc} : e ∈ a :: b :: c :: d :: e :: l := .tail _ (.tail _ (.tail _ (.tail _ (.head _))))
theorem m5 {a b c d e f : String × V} {l : Loc} : f ∈ a :: b :: c :: d :: e :: f :: l := .tail _ (.tail _ (.tail _ (.tail _ (.tail _ (.head _)))))
theorem m6 {a b c d e f g : String × V} {l : Loc} : g ∈ a :: b :: c :: d :: e :: f :: g :: l := .tail _ (.tail _ (.tail _ (.tail _ (.tail _ (.tail _ (.head _))))))
theorem m7 {a b c d e f g h : String × V} {l : Loc} : h ∈ a :: b :: c :: d :: e :: f :: g :: h :: l := .tail _ (.tail _ (.tail _ (.tail _ (.tail _ (.tail _ (.tail _ (.head _)))))))
theorem m8 {a b c d e f g h i : String × V} {l : Loc} : i ∈ a :: b :: c :: d :: e :: f :: g :: h :: i :: l := .tail _ (.tail _ (.tail _ (.tail _ (.tail _ (.tail _ (.tail _ (.tail _ (.head _))))))))
theorem m9 {a b c d e f g h i j : String × V} {l : Loc} : j ∈ a :: b :: c :: d :: e :: f :: g :: h :: i :: j :: l := .tail _ (.tail _ (.tail _ (.tail _ (.tail _ (.tail _ (.tail _ (.tail _ (.tail _ (.head _)))))))))
structure Ok (k : Nat) (A : Around) (envs : List Env) : Prop where
  depth : A.depth + 3 * k ≤ 990
  units : A.units + 40 * k ≤ 9800
  handled : A.handled = none
  frames : A.frames = some envs
inductive OutE (g : G) (b : Heap) (σ : Store) (h : Heap) (env : Env) : Prop
  | mk (h1 : env.scope.kind = .function) (L : Addr) (m : Str → Option Value) (h2 : env.frame = some L) (h3 : σ L = none) (h4 : h.Ns L m) (h5 : g.h₀.objs.size ≤ L) (h6 : b.get? L = none)
noncomputable def Outs (g : G) (b : Heap) (σ : Store) (h : Heap) (envs : List Env) : Prop :=
  ∀ env ∈ envs, OutE g b σ h env
structure Bs (g : G) (b : Heap) (σ : Store) (s : Shared) : Prop where
  sub : ∀ x o, b.get? x = some o → s.heap.get? x = some o
  base : ∀ x o, g.h₀.get? x = some o → b.get? x = some o
  mutb : ∀ x, σ x ≠ none → b.get? x = none
  nd : ∀ x o, b.get? x = some o → g.h₀.get? x = some o ∨ ∀ es n, o.data ≠ .dict es n
structure Cx (g : G) (k : Nat) (A : Around) (envs : List Env) (b : Heap) (σ : Store) (s : Shared) : Prop where
  ok : Ok k A envs
  inv : Inv g σ s
  outs : Outs g b σ s.heap envs
  bs : Bs g b σ s
  apart : ∀ e ∈ envs.tail, ∀ env, envs.head? = some env → e.frame ≠ env.frame
  ne : ∃ e r, envs = e :: r
theorem Bs.step {b : Heap} {σ σ' : Store} {s s' : Shared} (x : Bs g b σ s) (st : Stp σ s σ' s') (I : Inv g σ' s') : Bs g b σ' s' := by
  refine ⟨fun a o e => ?_, x.base, fun a n => ?_, x.nd⟩
  · rcases x.nd a o e with q | q
    · exact I.base a o q
    · refine st.keep a o (x.sub a o e) ?_ q
      cases z : σ a with
      | none => rfl
      | some y => rw [x.mutb a (by rw [z]; exact fun w => by cases w)] at e; cases e
  · cases z : b.get? a with
    | none => rfl
    | some o =>
      have l := Heap.lt_size (x.sub a o z)
      cases w : σ a with
      | none => exact absurd (st.new a l w) n
      | some y => rw [x.mutb a (by rw [w]; exact fun w => by cases w)] at z; cases z
theorem Outs.step {b : Heap} {σ σ' : Store} {s s' : Shared} {envs : List Env} (x : Stp σ s σ' s') (h : Outs g b σ s.heap envs) : Outs g b σ' s'.heap envs := fun env he => by
  obtain ⟨k, L, m, f, n, hn, l, hb⟩ := h env he
  exact ⟨k, L, m, f, x.new L (ns_lt hn) n, x.ns L m hn n, l, hb⟩
theorem Cx.step {k : Nat} {A : Around} {envs : List Env} {b : Heap} {σ σ' : Store} {s s' : Shared} (x : Cx g k A envs b σ s) (st : Stp σ s σ' s') (I : Inv g σ' s') : Cx g k A envs b σ' s' :=
  ⟨x.ok, I, x.outs.step st, x.bs.step st I, x.apart, x.ne⟩
noncomputable def Tell (c : FC) (σ : Store) (h : Heap) (m : Str → Option Value) (x : Str) (u : Value) : Prop :=
  (c.sc.names.lookup x = some .local ∧ m x = some u) ∨ ((c.sc.names.lookup x = some .cell ∨ (c.sc.names.lookup x = some .free ∧ (x == ("__classdict__" : Str)) = false)) ∧ ∃ a, c.cl.lookup x = some a ∧ σ a = none ∧ h.IsCell a (some u))
inductive TelE (c : FC) (σ : Store) (h : Heap) (m : Str → Option Value) (x : String) (v : V) : Prop
  | mk (u : Value) (h1 : Tell c σ h m (Str.ofString x) u) (h2 : VR σ h v u)
inductive NsE (c : FC) (loc : Loc) (σ : Store) (h : Heap) : Prop
  | mk (m : Str → Option Value) (h1 : h.Ns c.L m) (h2 : ∀ x v, (x, v) ∈ loc → TelE c σ h m x v)
structure Fm (g : G) (c : FC) (envs : List Env) (loc : Loc) (σ : Store) (h : Heap) : Prop where
  kind : c.sc.kind = .function
  low : g.h₀.objs.size ≤ c.L
  fr : σ c.L = none
  hd : ∃ e r, envs = e :: r ∧ e.frame = some c.fr
  cl : ∀ p ∈ c.cl, σ p.2 = none ∧ g.h₀.objs.size ≤ p.2 ∧ ∃ v, h.IsCell p.2 v
  ns : NsE c loc σ h
theorem cell_step {σ σ' : Store} {s s' : Shared} (x : Stp σ s σ' s') {a : Addr} {v : Option Value} (n : σ a = none) (e : s.heap.IsCell a v) : σ' a = none ∧ s'.heap.IsCell a v := by
  obtain ⟨o, ho, hd⟩ := e
  exact ⟨x.new a (Heap.lt_size ho) n, o, x.keep a o ho n (fun es m q => by rw [hd] at q; cases q), hd⟩
theorem Tell.step {c : FC} {σ σ' : Store} {s s' : Shared} {m : Str → Option Value} {x : Str} {u : Value} (st : Stp σ s σ' s') (h : Tell c σ s.heap m x u) : Tell c σ' s'.heap m x u := by
  rcases h with h | ⟨h, a, h1, h2, h3⟩
  · exact .inl h
  · obtain ⟨q, r⟩ := cell_step st h2 h3
    exact .inr ⟨h, a, h1, q, r⟩
theorem Fm.step {c : FC} {envs : List Env} {loc : Loc} {σ σ' : Store} {s s' : Shared} (x : Stp σ s σ' s') (h : Fm g c envs loc σ s.heap) : Fm g c envs loc σ' s'.heap := by
  obtain ⟨m, hn, hl⟩ := h.ns
  refine ⟨h.kind, h.low, x.new c.L (ns_lt hn) h.fr, h.hd, fun p hp => ?_, m, x.ns c.L m hn h.fr, fun y v hm => ?_⟩
  · obtain ⟨a, b, v, e⟩ := h.cl p hp
    obtain ⟨q, r⟩ := cell_step x a e
    exact ⟨q, b, v, r⟩
  · obtain ⟨u, b, r⟩ := hl y v hm
    exact ⟨u, b.step x, VR.step x r⟩
theorem Fm.sub {c : FC} {envs : List Env} {loc loc' : Loc} {σ : Store} {h : Heap} (x : Fm g c envs loc σ h) (e : ∀ p ∈ loc', p ∈ loc) : Fm g c envs loc' σ h := by
  obtain ⟨m, hn, hl⟩ := x.ns
  exact ⟨x.kind, x.low, x.fr, x.hd, x.cl, m, hn, fun y v hm => hl y v (e _ hm)⟩
noncomputable def Up (b : Heap) (envs : List Env) (a C : Addr) (h : Heap) : Prop :=
  b.get? a = none ∧ ∃ a0, (∃ oe vs, h.get? a = some oe ∧ oe.cls = .ref C ∧ oe.data = .fields vs ∧ vs[0]? = some a0 ∧ vs[1]? = some .none) ∨ h.TracedW b a (.ref C) a0 ∨
    ∃ env r L, envs = env :: r ∧ env.frame = some L ∧ h.TracedAtW b a (.ref C) a0 (rawInt L)
noncomputable abbrev s0 : Store := fun _ => none
structure Flown (g : G) (b : Heap) (envs : List Env) (σ : Store) (s : Shared) (s' : Shared) : Prop where
  inv : Inv g s0 s'
  sub : ∀ x o, b.get? x = some o → s'.heap.get? x = some o
  ns : ∀ l m, σ l = none → (∀ e, envs.head? = some e → e.frame ≠ some l) → s.heap.Ns l m → s'.heap.Ns l m
  frames : s'.heap.FunFrames b envs
  os : s'.os = s.os
  there : ∀ l m, σ l = none → s.heap.Ns l m → ∃ m', s'.heap.Ns l m'
inductive PX (g : G) (X : Addr → Prop) (b : Heap) (envs : List Env) (σ : Store) (s : Shared) (e : Value) (s' : Shared) : Prop
  | mk (a C : Addr) (h1 : e = .ref a) (h2 : X C) (h3 : Flown g b envs σ s s') (h4 : Up b envs a C s'.heap)
inductive PV (g : G) (Q : V → Store → Prop) (σ : Store) (s : Shared) (u : Value) (s' : Shared) : Prop
  | mk (v : V) (σ' : Store) (st : Stp σ s σ' s') (I : Inv g σ' s') (r : VR σ' s'.heap v u) (q : Q v σ')
inductive PB (g : G) (Q : Bool → Store → Prop) (σ : Store) (s : Shared) (u : Bool) (s' : Shared) : Prop
  | mk (σ' : Store) (st : Stp σ s σ' s') (I : Inv g σ' s') (q : Q u σ')
theorem PX.pre {X : Addr → Prop} {b : Heap} {envs : List Env} {σ σ₁ : Store} {s s₁ : Shared} (x : Stp σ s σ₁ s₁) {e : Value} {s' : Shared} (h : PX g X b envs σ₁ s₁ e s') : PX g X b envs σ s e s' := by
  obtain ⟨a, C, h1, h2, h3, h4⟩ := h
  exact ⟨a, C, h1, h2, ⟨h3.inv, h3.sub, fun l m n q hn => h3.ns l m (x.new l (ns_lt hn) n) q (x.ns l m hn n), h3.frames, h3.os.trans x.os, fun l m n hn => h3.there l m (x.new l (ns_lt hn) n) (x.ns l m hn n)⟩, h4⟩
theorem PV.pre {Q : V → Store → Prop} {σ σ₁ : Store} {s s₁ : Shared} (x : Stp σ s σ₁ s₁) {e : Value} {s' : Shared} (h : PV g Q σ₁ s₁ e s') : PV g Q σ s e s' := by
  obtain ⟨v, σ', h1, I, r, q⟩ := h
  exact ⟨v, σ', x.trans h1, I, r, q⟩
theorem PB.pre {Q : Bool → Store → Prop} {σ σ₁ : Store} {s s₁ : Shared} (x : Stp σ s σ₁ s₁) {e : Bool} {s' : Shared} (h : PB g Q σ₁ s₁ e s') : PB g Q σ s e s' := by
  obtain ⟨σ', h1, I, r⟩ := h
  exact ⟨σ', x.trans h1, I, r⟩
variable (prog g)
noncomputable def TT (k : Nat) (c : FC) (loc : Loc) (t : Sem Value) (Q : V → Store → Prop) (X : Addr → Prop) (σ : Store) : Prop :=
  ∀ A envs b s, Cx g k A envs b σ s → Fm g c envs loc σ s.heap → wpAny (model prog g.w) A t (PV g Q σ s) (PX g X b envs σ s) s
noncomputable def TE (k : Nat) (c : FC) (loc : Loc) (e : Expr) (Q : V → Store → Prop) (X : Addr → Prop) (σ : Store) : Prop := TT prog g k c loc (eval e c.env) Q X σ
noncomputable def TB (k : Nat) (c : FC) (loc : Loc) (e : Expr) (Q : Bool → Store → Prop) (X : Addr → Prop) (σ : Store) : Prop :=
  ∀ A envs b s, Cx g k A envs b σ s → Fm g c envs loc σ s.heap → wpAny (model prog g.w) A (isTrue e c.env (eval e c.env)) (PB g Q σ s) (PX g X b envs σ s) s
noncomputable def OV (k : Nat) (vs : List V) (t : List Value → Sem Value) (Q : V → Store → Prop) (X : Addr → Prop) (σ : Store) : Prop :=
  ∀ A envs b s us, Cx g k A envs b σ s → VRs σ s.heap vs us → wpAny (model prog g.w) A (t us) (PV g Q σ s) (PX g X b envs σ s) s
noncomputable def OB (k : Nat) (vs : List V) (t : List Value → Sem Bool) (Q : Bool → Store → Prop) (X : Addr → Prop) (σ : Store) : Prop :=
  ∀ A envs b s us, Cx g k A envs b σ s → VRs σ s.heap vs us → wpAny (model prog g.w) A (t us) (PB g Q σ s) (PX g X b envs σ s) s
noncomputable def CV (k : Nat) (f : V) (vs : List V) (Q : V → Store → Prop) (X : Addr → Prop) (σ : Store) : Prop :=
  ∀ A envs b s u us, Cx g k A envs b σ s → VR σ s.heap f u → VRs σ s.heap vs us → wpAny (model prog g.w) A (call u us []) (PV g Q σ s) (PX g X b envs σ s) s
noncomputable def TEs (k : Nat) (c : FC) (loc : Loc) : List Expr → (List V → Store → Prop) → (Addr → Prop) → Store → Prop
  | [], Q, _, σ => Q [] σ
  | e :: es, Q, X, σ => TE prog g k c loc e (fun v σ' => TEs k c loc es (fun vs σ'' => Q (v :: vs) σ'') X σ') X σ
variable {prog g}
section
variable (prog g) (k : Nat) (c : FC) (loc : Loc)
noncomputable abbrev K1 (t : List Value → Sem Value) (Q : V → Store → Prop) (X : Addr → Prop) : V → Store → Prop := fun v σ => OV prog g k [v] t Q X σ
noncomputable abbrev K1B (t : List Value → Sem Bool) (Q : Bool → Store → Prop) (X : Addr → Prop) : V → Store → Prop := fun v σ => OB prog g k [v] t Q X σ
noncomputable abbrev K2 (t : List Value → Sem Value) (Q : V → Store → Prop) (X : Addr → Prop) (a : V) : V → Store → Prop := fun b σ => OV prog g k [a, b] t Q X σ
noncomputable abbrev KE (r : Expr) (t : List Value → Sem Value) (Q : V → Store → Prop) (X : Addr → Prop) : V → Store → Prop := fun a σ => TE prog g k c loc r (K2 prog g k t Q X a) X σ
noncomputable abbrev KS (Q : List V → Store → Prop) (v : V) : List V → Store → Prop := fun vs σ => Q (v :: vs) σ
noncomputable abbrev KEs (es : List Expr) (Q : List V → Store → Prop) (X : Addr → Prop) : V → Store → Prop := fun v σ => TEs prog g k c loc es (KS Q v) X σ
noncomputable abbrev KC (Q : V → Store → Prop) (X : Addr → Prop) (f : V) (fs : List V) : List V → Store → Prop := fun vs σ => CV prog g k f (fs ++ vs) Q X σ
noncomputable abbrev KF (Q : V → Store → Prop) (X : Addr → Prop) (f : V) : List V → Store → Prop := fun vs σ => CV prog g k f vs Q X σ
noncomputable abbrev KO (Q : V → Store → Prop) (X : Addr → Prop) (f a : Addr) : List V → Store → Prop := fun vs σ => CV prog g k (.ref f) (.ref a :: vs) Q X σ
noncomputable abbrev KI (b o : Expr) (Q : V → Store → Prop) (X : Addr → Prop) : Bool → Store → Prop := fun r σ => if r then TE prog g k c loc b Q X σ else TE prog g k c loc o Q X σ
noncomputable abbrev KA (y : Expr) (Q : Bool → Store → Prop) (X : Addr → Prop) : Bool → Store → Prop := fun r σ => if r then TB prog g k c loc y Q X σ else Q false σ
noncomputable abbrev KR' (y : Expr) (Q : Bool → Store → Prop) (X : Addr → Prop) : Bool → Store → Prop := fun r σ => if r then Q true σ else TB prog g k c loc y Q X σ
noncomputable abbrev KN (Q : Bool → Store → Prop) : Bool → Store → Prop := fun r σ => Q (!r) σ
noncomputable abbrev KT (Q : V → Store → Prop) : List V → Store → Prop := fun vs σ => vs.length ≤ 1000 ∧ Q (.tup vs) σ
noncomputable abbrev KL (Q : V → Store → Prop) : List V → Store → Prop := fun vs σ => vs.length ≤ 1000 ∧ Q (.lst vs) σ
noncomputable abbrev KU (Q : V → Store → Prop) : List V → Store → Prop := fun vs σ => vs.length ≤ 1000 ∧ ∀ a, σ a = none → Q (.ref a) (upd σ a (.list vs))
end
section
variable {k : Nat} {c : FC} {loc : Loc} {Q : V → Store → Prop} {X : Addr → Prop} {σ : Store}
theorem VRs0 {σ : Store} {h : Heap} : VRs σ h [] [] := by rw [VRs]
theorem VRs1 {σ : Store} {h : Heap} {v : V} {u : Value} (x : VR σ h v u) : VRs σ h [v] [u] := by
  rw [VRs]; exact ⟨u, [], rfl, x, by rw [VRs]⟩
theorem VRs2 {σ : Store} {h : Heap} {v v' : V} {u u' : Value} (x : VR σ h v u) (y : VR σ h v' u') : VRs σ h [v, v'] [u, u'] := by
  rw [VRs]; exact ⟨u, _, rfl, x, VRs1 y⟩
theorem tt_now {t : Sem Value} {v : V} (h : Q v σ) (ht : ∀ A (E : Value → Shared → Prop) (P : Value → Shared → Prop) s, Inv g σ s → (∀ u tk, VR σ s.heap v u → P u { s with toks := tk }) → wpAny (model prog g.w) A t P E s) : TT prog g k c loc t Q X σ := by
  intro A envs b s cx F
  refine ht A _ _ s cx.inv fun u tk r => ?_
  obtain ⟨st, I'⟩ := cx.inv.toks (s' := { s with toks := tk }) rfl rfl rfl
  exact ⟨v, σ, st, I', r, h⟩
theorem e_none {n : Nat} {p : Pos} (h : Q .none σ) : TE prog g k c loc (.Constant .none n p) Q X σ :=
  tt_now h fun A E P s I q => wpAny_pure (q .none s.toks (by rw [VR]))
theorem e_bool {b : Bool} {n : Nat} {p : Pos} (h : Q (.bool b) σ) : TE prog g k c loc (.Constant (.bool b) n p) Q X σ :=
  tt_now h fun A E P s I q => wpAny_pure (q (.bool b) s.toks (by rw [VR]))
theorem e_int {i : Int} {n : Nat} {p : Pos} (h : Q (.int i) σ) : TE prog g k c loc (.Constant (.int i) n p) Q X σ :=
  tt_now h fun A E P s I q => wpAny_Constant_int (q (.int i s.toks) _ (by rw [VR]; exact ⟨_, rfl⟩))
theorem e_str {x : Str} {n : Nat} {p : Pos} (h : Q (.str x) σ) : TE prog g k c loc (.Constant (.str x) n p) Q X σ :=
  tt_now h fun A E P s I q => Constant_str (q (.str x s.toks) _ (by rw [VR]; exact ⟨_, rfl⟩))
theorem e_bytes {x : List UInt8} {n : Nat} {p : Pos} (h : Q (.bytes x.toArray) σ) : TE prog g k c loc (.Constant (.bytes x) n p) Q X σ :=
  tt_now h fun A E P s I q => (show wpAny _ A (mkTextBytes x.toArray) P E s from fun _ _ _ => q (.bytes x.toArray s.toks) _ (by rw [VR]; exact ⟨_, rfl⟩))
theorem e_loc {x : String} {p : Pos} {v : V} (hm : (x, v) ∈ loc) (h : Q v σ) (hd : (Str.ofString x == ("__debug__" : Str)) = false := by decide) : TE prog g k c loc (.Name (Str.ofString x) p) Q X σ := by
  intro A envs b s cx F
  obtain ⟨m, hn, hl⟩ := F.ns
  obtain ⟨u, tl, r⟩ := hl x v hm
  have q : PV g Q σ s u s := ⟨v, σ, .refl .., cx.inv, r, h⟩
  rcases tl with ⟨lk, hu⟩ | ⟨lk | ⟨lk, cd⟩, a, h1, _, h3⟩
  · exact wpAny_Name (wpAny_loadName_local F.kind lk hn hu q) hd
  · exact wpAny_Name (wpAny_loadName_cell F.kind lk h1 h3 q) hd
  · exact wpAny_Name (wpAny_loadName_free F.kind lk h1 h3 q cd) hd
noncomputable def Nm (g : G) (x : String) (v : V) : Prop := ∃ u, (g.mg (Str.ofString x) = some u ∨ (g.mg (Str.ofString x) = none ∧ g.mb (Str.ofString x) = some u)) ∧ ∀ (σ : Store) (s : Shared), Inv g σ s → VR σ s.heap v u
structure GOk (g : G) : Prop where
  mg : g.h₀.Ns mainGlobals g.mg
  mb : g.h₀.Ns builtinsNs g.mb
  K : g.K.In g.h₀
  lim : g.h₀.NoLimit
  ne : ∃ o, g.h₀.get? (g.h₀.objs.size - 1) = some o
  digits : ∃ mc, g.h₀.Ns cStatics mc ∧ mc "sys.int_max_str_digits" = none
theorem e_glob (G : GOk g) {x : String} {p : Pos} {v : V} (hx : Nm g x v) (hk : c.sc.names.lookup (Str.ofString x) = some .globalImplicit) (h : Q v σ) (hd : (Str.ofString x == ("__debug__" : Str)) = false := by decide) :
    TE prog g k c loc (.Name (Str.ofString x) p) Q X σ := by
  intro A envs b s cx F
  have I := cx.inv
  obtain ⟨u, hu, hr⟩ := hx
  have q : PV g Q σ s u s := ⟨v, σ, .refl .., I, hr σ s I, h⟩
  rcases hu with hu | ⟨hn, hu⟩
  · exact Name_function_global F.kind hk (loadGlobal_global (env := c.env) (G.mg.keeps I.base) hu q) hd
  · exact Name_function_global F.kind hk (loadGlobal_builtin (env := c.env) (G.mg.keeps I.base) hn (G.mb.keeps I.base) hu q) hd
theorem wp_then {A : Around} {envs : List Env} {b : Heap} {s : Shared} {t : Sem Value} {Q₁ : V → Store → Prop} {Q' : Value → Shared → Prop}
    (h : TT prog g k c loc t Q₁ X σ) (cx : Cx g k A envs b σ s) (F : Fm g c envs loc σ s.heap)
    (q : ∀ u v σ₁ s₁, Stp σ s σ₁ s₁ → Cx g k A envs b σ₁ s₁ → Fm g c envs loc σ₁ s₁.heap → VR σ₁ s₁.heap v u → Q₁ v σ₁ → Q' u s₁) :
    wpAny (model prog g.w) A t Q' (PX g X b envs σ s) s :=
  wpAny_mono (h A envs b s cx F) (fun u s₁ ⟨v, σ₁, st, I₁, r, hq⟩ => q u v σ₁ s₁ st (cx.step st I₁) (F.step st) r hq) fun _ _ x => x
theorem wp_pre {α : Type} {A : Around} {envs : List Env} {b : Heap} {s s₁ : Shared} {t : Sem α} {σ₁ : Store} {P : α → Shared → Prop} (st : Stp σ s σ₁ s₁) (cx : Cx g k A envs b σ s)
    (h : wpAny (model prog g.w) A t P (PX g X b envs σ₁ s₁) s₁) : wpAny (model prog g.w) A t P (PX g X b envs σ s) s₁ :=
  wpAny_mono h (fun _ _ x => x) fun _ _ x => x.pre st
theorem wp_op {A : Around} {envs : List Env} {b : Heap} {s s₁ : Shared} {σ₁ : Store} {vs : List V} {us : List Value} {t : List Value → Sem Value}
    (h : OV prog g k vs t Q X σ₁) (cx : Cx g k A envs b σ s) (cx₁ : Cx g k A envs b σ₁ s₁) (r : VRs σ₁ s₁.heap vs us) (st : Stp σ s σ₁ s₁) :
    wpAny (model prog g.w) A (t us) (PV g Q σ s) (PX g X b envs σ s) s₁ :=
  wpAny_mono (h A envs b s₁ us cx₁ r) (fun _ _ x => x.pre st) fun _ _ x => x.pre st
theorem wp_opB {A : Around} {envs : List Env} {b : Heap} {s s₁ : Shared} {σ₁ : Store} {vs : List V} {us : List Value} {t : List Value → Sem Bool} {Q : Bool → Store → Prop}
    (h : OB prog g k vs t Q X σ₁) (cx : Cx g k A envs b σ s) (cx₁ : Cx g k A envs b σ₁ s₁) (r : VRs σ₁ s₁.heap vs us) (st : Stp σ s σ₁ s₁) :
    wpAny (model prog g.w) A (t us) (PB g Q σ s) (PX g X b envs σ s) s₁ :=
  wpAny_mono (h A envs b s₁ us cx₁ r) (fun _ _ x => x.pre st) fun _ _ x => x.pre st
noncomputable abbrev getA (x : Str) : List Value → Sem Value := fun us => match us with | [u] => getAttr u x true | _ => unsupported ""
noncomputable abbrev unA (op : UnaryOp) : List Value → Sem Value := fun us => match us with | [u] => unaryOp op u | _ => unsupported ""
noncomputable abbrev binA (op : Operator) : List Value → Sem Value := fun us => match us with | [x, y] => binaryOp op x y | _ => unsupported ""
noncomputable abbrev cmpA (op : CmpOp) : List Value → Sem Value := fun us => match us with | [x, y] => compareOp op x y | _ => unsupported ""
noncomputable abbrev truA : List Value → Sem Bool := fun us => match us with | [u] => truthy u | _ => unsupported ""
theorem e_bin {l r : Expr} {op : Operator} {p : Pos} (h : TE prog g k c loc l (KE prog g k c loc r (binA op) Q X) X σ) :
    TE prog g k c loc (.BinOp l op r p) Q X σ := by
  intro A envs b s cx F
  exact wpAny_BinOp (wp_then h cx F fun u v σ₁ s₁ st cx₁ F₁ r₁ h₁ => wp_pre st cx (wp_then h₁ cx₁ F₁ fun u₂ v₂ σ₂ s₂ st₂ cx₂ F₂ r₂ h₂ => wp_op h₂ cx cx₂ (VRs2 (VR.step st₂ r₁) r₂) (st.trans st₂)))
theorem e_cmp {l r : Expr} {op : CmpOp} {p : Pos} (h : TE prog g k c loc l (KE prog g k c loc r (cmpA op) Q X) X σ)
    (hm : behindInMarks op r = false := by with_unfolding_all rfl) : TE prog g k c loc (.Compare l [op] [r] p) Q X σ := by
  intro A envs b s cx F
  exact wpAny_Compare1 (wp_then h cx F fun u v σ₁ s₁ st cx₁ F₁ r₁ h₁ => wp_pre st cx (wp_then h₁ cx₁ F₁ fun u₂ v₂ σ₂ s₂ st₂ cx₂ F₂ r₂ h₂ => wp_op h₂ cx cx₂ (VRs2 (VR.step st₂ r₁) r₂) (st.trans st₂))) hm
end
end
section
section
variable {k : Nat} {c : FC} {loc : Loc} {Q : V → Store → Prop} {X : Addr → Prop} {σ : Store}
theorem e_attr {v : Expr} {x : Str} {p : Pos} (h : TE prog g k c loc v (K1 prog g k (getA x) Q X) X σ)
    (hb : ∀ env w, attributeBase v x env w = w := by intro _ _; rfl) : TE prog g k c loc (.Attribute v x p) Q X σ := by
  intro A envs b s cx F
  show wpAny _ _ (eval _ _) _ _ _
  rw [arm_eval_Attribute, hb]
  refine wpAny_bind (wp_then h cx F fun u w σ₁ s₁ st cx₁ F₁ r₁ h₁ => wpAny_bind (wpAny_standAt (wpAny_bind (wpAny_holding ?_))))
  exact wpAny_mono (wp_op h₁ cx cx₁ (VRs1 r₁) st) (fun _ _ x => wpAny_bind (wpAny_letTemporaryGo (wpAny_pure x))) fun _ _ x => x
theorem e_un {x : Expr} {op : UnaryOp} {p : Pos} (h : TE prog g k c loc x (K1 prog g k (unA op) Q X) X σ) : TE prog g k c loc (.UnaryOp op x p) Q X σ := by
  intro A envs b s cx F
  exact wpAny_UnaryOp (wp_then h cx F fun u v σ₁ s₁ st cx₁ F₁ r₁ h₁ => wp_op h₁ cx cx₁ (VRs1 r₁) st)
theorem wpB_then {Q₁ : Bool → Store → Prop} {A : Around} {envs : List Env} {b : Heap} {s : Shared} {Q' : Bool → Shared → Prop} {e : Expr}
    (h : TB prog g k c loc e Q₁ X σ) (cx : Cx g k A envs b σ s) (F : Fm g c envs loc σ s.heap)
    (q : ∀ t σ₁ s₁, Stp σ s σ₁ s₁ → Cx g k A envs b σ₁ s₁ → Fm g c envs loc σ₁ s₁.heap → Q₁ t σ₁ → Q' t s₁) :
    wpAny (model prog g.w) A (isTrue e c.env (eval e c.env)) Q' (PX g X b envs σ s) s :=
  wpAny_mono (h A envs b s cx F) (fun t s₁ ⟨σ₁, st, I₁, hq⟩ => q t σ₁ s₁ st (cx.step st I₁) (F.step st) hq) fun _ _ x => x
theorem TE.go {A : Around} {envs : List Env} {b : Heap} {s s₁ : Shared} {σ₁ : Store} {e : Expr} (h : TE prog g k c loc e Q X σ₁) (st : Stp σ s σ₁ s₁) (cx : Cx g k A envs b σ s) (cx₁ : Cx g k A envs b σ₁ s₁) (F₁ : Fm g c envs loc σ₁ s₁.heap) :
    wpAny (model prog g.w) A (eval e c.env) (PV g Q σ s) (PX g X b envs σ s) s₁ :=
  wpAny_mono (h A envs b s₁ cx₁ F₁) (fun _ _ x => x.pre st) fun _ _ x => x.pre st
theorem TB.go {A : Around} {envs : List Env} {b : Heap} {s s₁ : Shared} {σ₁ : Store} {e : Expr} {QB : Bool → Store → Prop} (h : TB prog g k c loc e QB X σ₁) (st : Stp σ s σ₁ s₁) (cx : Cx g k A envs b σ s) (cx₁ : Cx g k A envs b σ₁ s₁) (F₁ : Fm g c envs loc σ₁ s₁.heap) :
    wpAny (model prog g.w) A (isTrue e c.env (eval e c.env)) (PB g QB σ s) (PX g X b envs σ s) s₁ :=
  wpAny_mono (h A envs b s₁ cx₁ F₁) (fun _ _ x => x.pre st) fun _ _ x => x.pre st
theorem e_ite {t b o : Expr} {p : Pos} (h : TB prog g k c loc t (KI prog g k c loc b o Q X) X σ) : TE prog g k c loc (.IfExp t b o p) Q X σ := by
  intro A envs b' s cx F
  refine wpAny_IfExp (wpB_then h cx F fun r σ₁ s₁ st cx₁ F₁ h₁ => ?_)
  cases r with
  | true => exact TE.go h₁ st cx cx₁ F₁
  | false => exact TE.go h₁ st cx cx₁ F₁
variable {QB : Bool → Store → Prop}
theorem t_not {x : Expr} {p : Pos} (h : TB prog g k c loc x (KN QB) X σ) : TB prog g k c loc (.UnaryOp .Not x p) QB X σ := by
  intro A envs b s cx F
  exact wpAny_isTrue_Not (wpB_then h cx F fun b σ₁ s₁ st cx₁ F₁ h₁ => ⟨σ₁, st, cx₁.inv, h₁⟩)
theorem t_of {e : Expr} (h : TE prog g k c loc e (K1B prog g k truA QB X) X σ)
    (he : ∀ env w, isTrue e env w = (do let v ← w; standAt e.pos; holding [v] (truthy v)) := by intro _ _; rfl) : TB prog g k c loc e QB X σ := by
  intro A envs b s cx F
  rw [he]
  exact wpAny_bind (wp_then h cx F fun u v σ₁ s₁ st cx₁ F₁ r₁ h₁ => wpAny_bind (wpAny_standAt (wpAny_holding (wp_opB h₁ cx cx₁ (VRs1 r₁) st))))
noncomputable abbrev BoolQ (QB : Bool → Store → Prop) : V → Store → Prop := fun v σ => match v with | .bool b => QB b σ | _ => False
theorem BoolQ.inv {v : V} {σ : Store} (h : BoolQ QB v σ) : ∃ b, v = .bool b ∧ QB b σ := by
  cases v with
  | bool b => exact ⟨b, rfl, h⟩
  | _ => cases h
theorem truthy_boolQ {A : Around} {E : Value → Shared → Prop} {s s₀ : Shared} {σ₀ : Store} {u : Value} (h : PV g (BoolQ QB) σ₀ s₀ u s) : wpAny (model prog g.w) A (truthy u) (PB g QB σ₀ s₀) E s := by
  obtain ⟨v, σ', st, I, r, q⟩ := h
  obtain ⟨b, rfl, q⟩ := q.inv
  rw [VR] at r
  subst r
  exact wpAny_truthy_bool ⟨σ', st, I, q⟩
theorem t_cmp {l r : Expr} {op : CmpOp} {p : Pos} (h : TE prog g k c loc l (KE prog g k c loc r (cmpA op) (BoolQ QB) X) X σ)
    (hm : behindInMarks op r = false := by with_unfolding_all rfl) : TB prog g k c loc (.Compare l [op] [r] p) QB X σ := by
  intro A envs b s cx F
  refine wpAny_isTrue_Compare1 (wp_then h cx F fun u v σ₁ s₁ st cx₁ F₁ r₁ h₁ => wp_pre st cx (wp_then h₁ cx₁ F₁ fun u₂ v₂ σ₂ s₂ st₂ cx₂ F₂ r₂ h₂ => ?_)) hm
  exact wpAny_mono (wp_op h₂ cx cx₂ (VRs2 (VR.step st₂ r₁) r₂) (st.trans st₂)) (fun _ _ x => truthy_boolQ x) fun _ _ x => x
theorem t_chain {l m r : Expr} {op op' : CmpOp} {p : Pos}
    (h : TE prog g k c loc l (fun a σ₁ => TE prog g k c loc m (fun b σ₂ => OV prog g k [a, b] (cmpA op) (BoolQ fun t σ₃ => if t then TE prog g k c loc r (fun d σ₄ => OV prog g k [b, d] (cmpA op') (BoolQ QB) X σ₄) X σ₃ else QB false σ₃) X σ₂) X σ₁) X σ)
    (hm : lastMarks [op, op'] [m, r] = false := by with_unfolding_all rfl) : TB prog g k c loc (.Compare l [op, op'] [m, r] p) QB X σ := by
  intro A envs b s cx F
  rw [arm_isTrue_Compare, markedEach_of_false _ _ _ hm]
  refine wpAny_bind (wp_then h cx F fun u v σ₁ s₁ st cx₁ F₁ r₁ h₁ => ?_)
  show wpAny _ A (do
    let rv ← holding [u] (eval m c.env)
    standAt p
    let cc ← holding [u, rv] (compareOp op u rv)
    release [u, rv] [cc]
    if ← holding [cc, rv] (truthy cc) then testChain p rv [op'] [eval r c.env] else pure false) _ _ _
  refine wpAny_bind (wpAny_holding (wp_pre st cx (wp_then h₁ cx₁ F₁ fun u₂ v₂ σ₂ s₂ st₂ cx₂ F₂ r₂ h₂ => ?_)))
  refine wpAny_bind (wpAny_standAt (wpAny_bind (wpAny_holding ?_)))
  have st12 := st.trans st₂
  refine wpAny_mono (h₂ A envs b s₂ [u, u₂] cx₂ (VRs2 (VR.step st₂ r₁) r₂)) (fun cc s₃ ⟨w, σ₃, st₃, I₃, r₃, q⟩ => ?_) fun _ _ x => x.pre st12
  obtain ⟨t, rfl, q⟩ := q.inv
  rw [VR] at r₃
  subst r₃
  refine wpAny_bind (wpAny_release' (wpAny_bind (wpAny_holding (wpAny_truthy_bool ?_))))
  have st13 := st12.trans st₃
  cases t with
  | false => exact wpAny_pure ⟨σ₃, st13, I₃, q⟩
  | true =>
    have F₃ := F₂.step st₃
    have cx₃ := cx₂.step st₃ I₃
    show wpAny _ A (do
      let rv ← holding [u₂] (eval r c.env)
      standAt p
      let cc ← operate [u₂, rv] (compareOp op' u₂ rv)
      holding [cc] (truthy cc)) _ _ _
    refine wpAny_bind (wpAny_holding (wp_pre st13 cx (wp_then (show TE prog g k c loc r _ X σ₃ from q) cx₃ F₃ fun u₄ v₄ σ₄ s₄ st₄ cx₄ F₄ r₄ h₄ => ?_)))
    refine wpAny_bind (wpAny_standAt (wpAny_bind (wpAny_operate' ?_)))
    exact wpAny_mono (wp_op h₄ cx cx₄ (VRs2 (VR.step st₄ (VR.step st₃ r₂)) r₄) (st13.trans st₄)) (fun _ _ x => wpAny_holding (truthy_boolQ x)) fun _ _ x => x
theorem t_and {x y : Expr} {p : Pos} (h : TB prog g k c loc x (KA prog g k c loc y QB X) X σ) : TB prog g k c loc (.BoolOp .And [x, y] p) QB X σ := by
  intro A envs b s cx F
  rw [arm_isTrue_BoolOp, arm_allTrue_cons]
  refine wpAny_bind (wpB_then h cx F fun t σ₁ s₁ st cx₁ F₁ h₁ => ?_)
  cases t with
  | false => exact wpAny_pure ⟨σ₁, st, cx₁.inv, h₁⟩
  | true =>
    show wpAny _ A (allTrue .And [y] c.env) _ _ _
    rw [arm_allTrue_cons]
    refine wpAny_bind (wp_pre st cx (wpB_then (show TB prog g k c loc y QB X σ₁ from h₁) cx₁ F₁ fun t σ₂ s₂ st₂ cx₂ F₂ h₂ => ?_))
    cases t <;> exact wpAny_pure ⟨σ₂, st.trans st₂, cx₂.inv, h₂⟩
theorem t_or {x y : Expr} {p : Pos} (h : TB prog g k c loc x (KR' prog g k c loc y QB X) X σ) : TB prog g k c loc (.BoolOp .Or [x, y] p) QB X σ := by
  intro A envs b s cx F
  rw [arm_isTrue_BoolOp, arm_allTrue_cons]
  refine wpAny_bind (wpB_then h cx F fun t σ₁ s₁ st cx₁ F₁ h₁ => ?_)
  cases t with
  | true => exact wpAny_pure ⟨σ₁, st, cx₁.inv, h₁⟩
  | false =>
    show wpAny _ A (allTrue .Or [y] c.env) _ _ _
    rw [arm_allTrue_cons]
    refine wpAny_bind (wp_pre st cx (wpB_then (show TB prog g k c loc y QB X σ₁ from h₁) cx₁ F₁ fun t σ₂ s₂ st₂ cx₂ F₂ h₂ => ?_))
    cases t <;> exact wpAny_pure ⟨σ₂, st.trans st₂, cx₂.inv, h₂⟩
theorem t_and3 {x y z : Expr} {p : Pos} (h : TB prog g k c loc x (KA prog g k c loc (.BoolOp .And [y, z] p) QB X) X σ) : TB prog g k c loc (.BoolOp .And [x, y, z] p) QB X σ := by
  intro A envs b s cx F
  rw [arm_isTrue_BoolOp, arm_allTrue_cons]
  refine wpAny_bind (wpB_then h cx F fun t σ₁ s₁ st cx₁ F₁ h₁ => ?_)
  cases t with
  | false => exact wpAny_pure ⟨σ₁, st, cx₁.inv, h₁⟩
  | true =>
    show wpAny _ A (allTrue .And [y, z] c.env) _ _ _
    exact TB.go (show TB prog g k c loc (.BoolOp .And [y, z] p) QB X σ₁ from h₁) st cx cx₁ F₁
theorem e_and {x y : Expr} {p : Pos} (h : TE prog g k c loc x (fun v σ₁ => OB prog g k [v] truA (fun t σ₂ => if t then TE prog g k c loc y Q X σ₂ else Q v σ₂) X σ₁) X σ) : TE prog g k c loc (.BoolOp .And [x, y] p) Q X σ := by
  intro A envs b s cx F
  refine wpAny_And2 (wp_then h cx F fun u v σ₁ s₁ st cx₁ F₁ r₁ h₁ => ?_)
  refine wp_pre st cx (wpAny_mono (h₁ A envs b s₁ [u] cx₁ (VRs1 r₁)) (fun t s₂ ⟨σ₂, st₂, I₂, h₂⟩ => ?_) fun _ _ x => x)
  cases t with
  | false => exact ⟨v, σ₂, st.trans st₂, I₂, VR.step st₂ r₁, h₂⟩
  | true => exact TE.go (show TE prog g k c loc y Q X σ₂ from h₂) (st.trans st₂) cx (cx₁.step st₂ I₂) (F₁.step st₂)
theorem e_or {x y : Expr} {p : Pos} (h : TE prog g k c loc x (fun v σ₁ => OB prog g k [v] truA (fun t σ₂ => if t then Q v σ₂ else TE prog g k c loc y Q X σ₂) X σ₁) X σ) : TE prog g k c loc (.BoolOp .Or [x, y] p) Q X σ := by
  intro A envs b s cx F
  refine wpAny_Or2 (wp_then h cx F fun u v σ₁ s₁ st cx₁ F₁ r₁ h₁ => ?_)
  refine wp_pre st cx (wpAny_mono (h₁ A envs b s₁ [u] cx₁ (VRs1 r₁)) (fun t s₂ ⟨σ₂, st₂, I₂, h₂⟩ => ?_) fun _ _ x => x)
  cases t with
  | true => exact ⟨v, σ₂, st.trans st₂, I₂, VR.step st₂ r₁, h₂⟩
  | false => exact TE.go (show TE prog g k c loc y Q X σ₂ from h₂) (st.trans st₂) cx (cx₁.step st₂ I₂) (F₁.step st₂)
theorem starEach_plain {env : Env} : ∀ {es : List Expr}, es.all (fun e => !isStarred e) = true → starEach es env = es.map fun e => (false, eval e env) := by
  intro es
  induction es with
  | nil =>
    intro _
    exact rfl
  | cons e es ih =>
    intro h
    rw [List.all_cons, Bool.and_eq_true_iff] at h
    have ih := ih h.2
    cases e with
    | Starred v p => exact absurd (show false = true from h.1) Bool.false_ne_true
    | _ => (show _ :: starEach es env = _); rw [ih]; rfl
theorem backTo_plain {pos : Pos} {env : Env} {es : List Expr} (h : es.all (fun e => !isStarred e) = true) : backTo pos (starEach es env) = es.map fun e => (false, eval e env) := by
  rw [starEach_plain h]
  unfold backTo
  rw [List.map_map]
  rfl
inductive PA (g : G) (QL : List V → Store → Prop) (σ : Store) (s : Shared) (us : List Value) (s' : Shared) : Prop
  | mk (vs : List V) (σ' : Store) (st : Stp σ s σ' s') (I : Inv g σ' s') (r : VRs σ' s'.heap vs us) (q : QL vs σ')
theorem wp_args {A : Around} {envs : List Env} {b : Heap} : ∀ {es : List Expr} {QL : List V → Store → Prop} {σ : Store} {s : Shared}, TEs prog g k c loc es QL X σ → Cx g k A envs b σ s → Fm g c envs loc σ s.heap →
    wpAny (model prog g.w) A (spliced (es.map fun e => (false, eval e c.env))) (PA g QL σ s) (PX g X b envs σ s) s
  | [], QL, σ, s, h, cx, F => spliced_nil ⟨[], σ, .refl .., cx.inv, by rw [VRs], h⟩
  | e :: es, QL, σ, s, h, cx, F => by
    refine spliced_cons (wp_then (show TE prog g k c loc e _ X σ from h) cx F fun u v σ₁ s₁ st cx₁ F₁ r₁ h₁ => ?_)
    refine wp_pre st cx (wpAny_mono (wp_args (es := es) h₁ cx₁ F₁) (fun us s₂ h₂ => ?_) fun _ _ x => x)
    obtain ⟨vs, σ₂, st₂, I₂, r₂, q⟩ := h₂
    exact ⟨v :: vs, σ₂, st.trans st₂, I₂, by rw [VRs]; exact ⟨u, us, rfl, VR.step st₂ r₁, r₂⟩, q⟩
theorem evalArgs_any {M : Model} {A : Around} {E : Value → Shared → Prop} {s : Shared} {f : Value} {es : List Expr} {env : Env} {P : Args → Shared → Prop} (h : wpAny M A (spliced (es.map fun e => (false, eval e env))) (fun us s' => P ⟨us, []⟩ s') E s) :
    wpAny M A (evalArgs f true (es.map fun e => (false, eval e env)) []) P E s := by
  cases es with
  | nil =>
    unfold evalArgs
    show wpAny M A (spliced [] >>= _) _ E s
    refine wpAny_bind (wpAny_mono h (fun us s' h' => ?_) fun _ _ x => x)
    refine wpAny_bind (wpAny_pure (wpAny_holding ?_))
    exact wpAny_bind (wpAny_pure (wpAny_bind (wpAny_pure (wpAny_pure h'))))
  | cons e es => exact evalArgs_plain h
theorem VRs.arr {σ : Store} {h : Heap} {vs : List V} {us : List Value} (x : VRs σ h vs us) : VRs σ h vs us.toArray.toList := by
  rw [List.toList_toArray]; exact x
theorem frz_push {s : Shared} {o : Obj} (I : Inv g σ s) : Stp σ s σ { s with heap := s.heap.push o } ∧ Inv g σ { s with heap := s.heap.push o } :=
  I.grow (by show _ ≤ (s.heap.push o).objs.size; rw [Heap.size_push]; exact Nat.le_succ _) (fun b x e => Heap.get?_push_of_some _ e) rfl rfl
theorem frz_tup {s : Shared} {vs : List V} {us : List Value} (I : Inv g σ s) (r : VRs σ s.heap vs us) :
    VR σ (s.heap.push { cls := .type "tuple", data := .seq us.toArray }) (.tup vs) (.ref s.heap.objs.size) := by
  have st := (frz_push (o := { cls := .type "tuple", data := .seq us.toArray }) I).1
  rw [VR]
  exact ⟨_, us.toArray, rfl, I.fresh (Nat.le_refl _), ⟨_, Heap.get?_push_size _ rfl, rfl, 0, rfl⟩, VRs.arr (VRs.step st r)⟩
theorem frz_lst {s : Shared} {vs : List V} {us : List Value} (I : Inv g σ s) (r : VRs σ s.heap vs us) :
    VR σ (s.heap.push { cls := .type "list", data := .seq us.toArray }) (.lst vs) (.ref s.heap.objs.size) := by
  have st := (frz_push (o := { cls := .type "list", data := .seq us.toArray }) I).1
  rw [VR]
  exact ⟨_, us.toArray, rfl, I.fresh (Nat.le_refl _), ⟨0, Heap.get?_push_size _ rfl⟩, VRs.arr (VRs.step st r)⟩
theorem mut_push {s : Shared} {o : Obj} {x : O} (G₀ : GOk g) (I : Inv g σ s) (hs : ∀ C d fs, x ≠ .inst C d fs) (hs' : ∀ y, x ≠ .shadow y)
    (ho : Stp σ s (upd σ s.heap.objs.size x) { s with heap := s.heap.push o } → OR g.w (upd σ s.heap.objs.size x) (s.heap.push o) s.heap.objs.size x) :
    Stp σ s (upd σ s.heap.objs.size x) { s with heap := s.heap.push o } ∧ Inv g (upd σ s.heap.objs.size x) { s with heap := s.heap.push o } := by
  have le := I.baseLe fun _ => G₀.ne
  refine I.change (fun b => b = s.heap.objs.size) none (by show _ ≤ (s.heap.push o).objs.size; rw [Heap.size_push]; exact Nat.le_succ _) (fun b y e _ _ => Heap.get?_push_of_some _ e) (fun _ q => by cases q) (fun b q => .inr (by rw [q]; exact Nat.le_refl _))
    (fun b q => by rw [q]; exact le) (fun b n => upd_ne n) (fun a C d fs n e q => ?_) rfl rfl (fun st a y q e => ?_) (fun d y n e => ?_)
  · obtain ⟨h1, _⟩ := I.obj a _ e
    rw [q, I.fresh (Nat.le_refl _)] at h1
    cases h1
  · subst q
    rw [upd_self] at e
    cases e
    exact ho st
  · obtain ⟨C, fs, q⟩ := I.obj d _ e
    refine ⟨C, fs, ?_⟩
    rw [upd_ne (fun z => by rw [z, I.fresh (Nat.le_refl _)] at q; cases q)]
    exact q
theorem mut_list {s : Shared} {vs : List V} {us : List Value} (G₀ : GOk g) (I : Inv g σ s) (r : VRs σ s.heap vs us) :
    Stp σ s (upd σ s.heap.objs.size (.list vs)) { s with heap := s.heap.push { cls := .type "list", data := .seq us.toArray } } ∧ Inv g (upd σ s.heap.objs.size (.list vs)) { s with heap := s.heap.push { cls := .type "list", data := .seq us.toArray } } :=
  mut_push G₀ I (fun _ _ _ => by intro z; cases z) (fun _ => by intro z; cases z) fun st => ⟨us.toArray, 0, Heap.get?_push_size _ rfl, VRs.arr (VRs.step st r)⟩
theorem sizes {n m : Nat} (h : n = m) (l : m ≤ 1000) : n ≤ sizeLine := by rw [sizeLine_eq]; lia
theorem e_tuple {es : List Expr} {n : Nat} {p : Pos} (hs : es.all (fun e => !isStarred e) = true) (h : TEs prog g k c loc es (KT Q) X σ) : TE prog g k c loc (.Tuple es n p) Q X σ := by
  intro A envs b s cx F
  show wpAny _ A (eval _ _) _ _ _
  rw [arm_eval_Tuple, backTo_plain hs]
  refine wpAny_bind (wpAny_standAt (wpAny_bind (wpAny_mono (wp_args h cx F) (fun us s₁ h₁ => ?_) fun _ _ x => x)))
  obtain ⟨vs, σ₁, st, I₁, r₁, ql, q⟩ := h₁
  exact wpAny_newTuple ⟨.tup vs, σ₁, st.trans (frz_push I₁).1, (frz_push I₁).2, frz_tup I₁ r₁, q⟩ (sizes r₁.length ql)
theorem e_lst {es : List Expr} {p : Pos} (hs : es.all (fun e => !isStarred e) = true) (h : TEs prog g k c loc es (KL Q) X σ) : TE prog g k c loc (.List es p) Q X σ := by
  intro A envs b s cx F
  show wpAny _ A (eval _ _) _ _ _
  rw [arm_eval_List, backTo_plain hs]
  refine wpAny_bind (wpAny_standAt (wpAny_bind (wpAny_mono (wp_args h cx F) (fun us s₁ h₁ => ?_) fun _ _ x => x)))
  obtain ⟨vs, σ₁, st, I₁, r₁, ql, q⟩ := h₁
  exact wpAny_newList ⟨.lst vs, σ₁, st.trans (frz_push I₁).1, (frz_push I₁).2, frz_lst I₁ r₁, q⟩ (sizes r₁.length ql)
theorem e_list (G₀ : GOk g) {es : List Expr} {p : Pos} (hs : es.all (fun e => !isStarred e) = true) (h : TEs prog g k c loc es (KU Q) X σ) : TE prog g k c loc (.List es p) Q X σ := by
  intro A envs b s cx F
  show wpAny _ A (eval _ _) _ _ _
  rw [arm_eval_List, backTo_plain hs]
  refine wpAny_bind (wpAny_standAt (wpAny_bind (wpAny_mono (wp_args h cx F) (fun us s₁ h₁ => ?_) fun _ _ x => x)))
  obtain ⟨vs, σ₁, st, I₁, r₁, ql, q⟩ := h₁
  have m := mut_list G₀ I₁ r₁
  exact wpAny_newList ⟨.ref _, _, st.trans m.1, m.2, by rw [VR], q _ (I₁.fresh (Nat.le_refl _))⟩ (sizes r₁.length ql)
noncomputable def Kp (g : G) (f : V) : Prop := ∀ {M : Model} {A : Around} {E : Value → Shared → Prop} {P : Keeper → Shared → Prop} {σ : Store} {s : Shared} {u : Value}, Inv g σ s → VR σ s.heap f u → (∀ r tk, P r { s with toks := tk }) → wpAny M A (keeperOf u) P E s
theorem Kp.bi {n : String} : Kp g (.bi n) := by
  intro M A E P σ s u I r h
  rw [VR] at r
  subst r
  exact wpAny_pure (h .machine s.toks)
theorem Kp.typ {n : String} : Kp g (.typ n) := by
  intro M A E P σ s u I r h
  rw [VR] at r
  subst r
  exact wpAny_pure (h .machine s.toks)
theorem VRs.app {σ : Store} {h : Heap} : ∀ {as bs : List V} {xs ys : List Value}, VRs σ h as xs → VRs σ h bs ys → VRs σ h (as ++ bs) (xs ++ ys)
  | [], _, _, _, a, b => by rw [VRs] at a; subst a; exact b
  | v :: as, bs, _, ys, a, b => by
    rw [VRs] at a
    obtain ⟨x, xs, rfl, a1, a2⟩ := a
    rw [List.cons_append, List.cons_append, VRs]
    exact ⟨x, _, rfl, a1, VRs.app a2 b⟩
theorem callWith_any {pos : Pos} {A : Around} {envs : List Env} {b : Heap} {s : Shared} {f : V} {u : Value} {fs : List V} {first : List Value} {es : List Expr} (hk : Kp g f)
    (cx : Cx g k A envs b σ s) (F : Fm g c envs loc σ s.heap) (rf : VR σ s.heap f u) (rs : VRs σ s.heap fs first)
    (h : TEs prog g k c loc es (fun vs σ₁ => CV prog g k f (fs ++ vs) Q X σ₁) X σ) : wpAny (model prog g.w) A (callWith pos u first (es.map fun e => (false, eval e c.env)) []) (PV g Q σ s) (PX g X b envs σ s) s := by
  unfold callWith
  refine wpAny_bind (wpAny_holding (evalArgs_any (wpAny_mono (wp_args h cx F) (fun us s₁ h₁ => wpAny_bind (wpAny_standAt ?_)) fun _ _ x => x)))
  obtain ⟨vs, σ₁, st, I₁, r₁, q⟩ := h₁
  have any0 : (es.map fun e => (false, eval e c.env)).any (·.1) = false := by
    rw [List.any_map]; exact List.any_eq_false.mpr fun _ _ => by simp
  rw [any0]
  have tail : ∀ {s₂ : Shared} {t : Sem Value}, wpAny (model prog g.w) A t (PV g Q σ s) (PX g X b envs σ s) s₂ → wpAny (model prog g.w) A (t >>= fun r => holding [r] point >>= fun _ => pure r) (PV g Q σ s) (PX g X b envs σ s) s₂ :=
    fun ht => wpAny_bind (wpAny_mono ht (fun r s₂ hr => wpAny_bind (wpAny_holding (wpAny_point (wpAny_pure hr)))) fun _ _ x => x)
  refine wpAny_bind (hk I₁ (VR.step st rf) fun r tk => ?_)
  obtain ⟨st₂, I₂⟩ := I₁.toks (s' := { s₁ with toks := tk }) rfl rfl rfl
  have st12 := st.trans st₂
  have base : wpAny (model prog g.w) A (call u (first ++ us) []) (PV g Q σ s) (PX g X b envs σ s) { s₁ with toks := tk } :=
    wpAny_mono (q A envs b { s₁ with toks := tk } u (first ++ us) (cx.step st12 I₂) (VR.step st12 rf) (VRs.app (VRs.step st12 rs) r₁)) (fun _ _ x => x.pre st12) fun _ _ x => x.pre st12
  have mk : ∀ {p : Prop} [Decidable p] {m : Sem Value}, wpAny (model prog g.w) A m (PV g Q σ s) (PX g X b envs σ s) { s₁ with toks := tk } → wpAny (model prog g.w) A (if p then call u (first ++ us) [] >>= fun r => holding [r] point >>= fun _ => pure r else m >>= fun r => holding [r] point >>= fun _ => pure r) (PV g Q σ s) (PX g X b envs σ s) { s₁ with toks := tk } := fun {p} _ {m} h => by
    by_cases q : p
    · rw [if_pos q]; exact tail base
    · rw [if_neg q]; exact tail h
  cases r
  · exact mk (wpAny_keep base)
  · exact mk (wpAny_keep base)
  · exact tail base
  · exact tail (wpAny_operate' base)
noncomputable abbrev KG (prog : Program) (g : G) (k : Nat) (c : FC) (loc : Loc) (es : List Expr) (Q : V → Store → Prop) (X : Addr → Prop) : V → Store → Prop := fun f σ => Kp g f ∧ TEs prog g k c loc es (KF prog g k Q X f) X σ
theorem e_call {x : Str} {q p : Pos} {es : List Expr} (hs : es.all (fun e => !isStarred e) = true) (h : TE prog g k c loc (.Name x q) (KG prog g k c loc es Q X) X σ) :
    TE prog g k c loc (.Call (.Name x q) es [] p) Q X σ := by
  intro A envs b s cx F
  show wpAny _ A (eval _ _) _ _ _
  rw [arm_eval_Call_Name', backTo_plain hs]
  refine wpAny_bind (wp_then h cx F fun u v σ₁ s₁ st cx₁ F₁ r₁ h₁ => wp_pre st cx ?_)
  exact wpAny_mono (callWith_any (pos := p) (fs := []) (first := []) h₁.1 cx₁ F₁ r₁ (by rw [VRs]) (by simpa only [List.nil_append] using h₁.2)) (fun _ _ x => x.pre st) fun _ _ x => x
inductive PM (g : G) (P : V → List V → Store → Prop) (σ : Store) (s : Shared) (fx : Value × List Value) (s' : Shared) : Prop
  | mk (f : V) (fs : List V) (σ' : Store) (st : Stp σ s σ' s') (I : Inv g σ' s') (r : VR σ' s'.heap f fx.1) (rs : VRs σ' s'.heap fs fx.2) (q : P f fs σ')
noncomputable def GM (prog : Program) (g : G) (k : Nat) (o : V) (x : Str) (P : V → List V → Store → Prop) (X : Addr → Prop) (σ : Store) : Prop :=
  ∀ A envs b s u (pl : Sem Bool), Cx g k A envs b σ s → VR σ s.heap o u →
    wpAny (model prog g.w) A (getMethod u x pl) (PM g P σ s) (PX g X b envs σ s) s
noncomputable abbrev KM1 (prog : Program) (g : G) (k : Nat) (c : FC) (loc : Loc) (es : List Expr) (Q : V → Store → Prop) (X : Addr → Prop) : V → List V → Store → Prop := fun f fs σ => Kp g f ∧ TEs prog g k c loc es (KC prog g k Q X f fs) X σ
noncomputable abbrev KM (prog : Program) (g : G) (k : Nat) (c : FC) (loc : Loc) (x : Str) (es : List Expr) (Q : V → Store → Prop) (X : Addr → Prop) : V → Store → Prop := fun v σ => GM prog g k v x (KM1 prog g k c loc es Q X) X σ
theorem e_meth {o : Expr} {x : Str} {ap p : Pos} {es : List Expr} (hs : es.all (fun e => !isStarred e) = true) (hl : es.length < 30) (hp : (ap.endLine == p.line) = true)
    (h : TE prog g k c loc o (KM prog g k c loc x es Q X) X σ)
    (hb : ∀ env w, attributeBase o x env w = w := by intro _ _; rfl) : TE prog g k c loc (.Call (.Attribute o x ap) es [] p) Q X σ := by
  intro A envs b s cx F
  show wpAny _ A (eval _ _) _ _ _
  rw [arm_eval_Call, hb, backTo_plain hs]
  refine wpAny_bind (wp_then h cx F fun u v σ₁ s₁ st cx₁ F₁ r₁ h₁ => wpAny_bind (wpAny_standAt ?_))
  have few : methodCallForm (es.length + ([] : List Keyword).length) (es.map fun e => (false, eval e c.env)) (backToKw p (keywordEach [] c.env)) = true := by
    have e1 : (es.map fun e => (false, eval e c.env)).all (fun z => !z.1) = true := by rw [List.all_map]; exact List.all_eq_true.mpr fun _ _ => rfl
    show ((es.map fun e => (false, eval e c.env)).all (fun z => !z.1) && true && decide (es.length + 0 + 0 < 30)) = true
    rw [e1]
    simp [hl]
  unfold methodCall
  rw [few]
  refine wpAny_bind (wpAny_holding ?_)
  show wpAny _ A (getMethod u x _) _ _ _
  refine wp_pre st cx (wpAny_mono (h₁ A envs b s₁ u _ cx₁ r₁) (fun fx s₂ h₂ => ?_) fun _ _ x => x)
  obtain ⟨f, fs, σ₂, st₂, I₂, rf, rfs, hk, h₂⟩ := h₂
  obtain ⟨fu, first⟩ := fx
  have pp : methodCallPos true o c.env ap p = pure p := by unfold methodCallPos; simp [hp]
  show wpAny _ A (methodCallPos true o c.env ap p >>= fun cp => callWith cp fu first (es.map fun e => (false, eval e c.env)) []) _ _ _
  rw [pp]
  refine wpAny_bind (wpAny_pure ?_)
  have cx₂ := cx₁.step st₂ I₂
  exact wpAny_mono (callWith_any (pos := p) hk cx₂ (F₁.step st₂) rf rfs h₂) (fun _ _ x => x.pre (st.trans st₂)) fun _ _ x => x.pre (st.trans st₂)
end
end
section
theorem ofString_inj {x y : String} (h : Str.ofString x = Str.ofString y) : x = y := by
  rw [Str.ofString_eq_toList, Str.ofString_eq_toList] at h
  injection h with h
  have h' : x.toList.map Char.toNat = y.toList.map Char.toNat := by simpa using h
  have inj : Function.Injective Char.toNat := fun a b e => Char.ext (UInt32.toNat_inj.mp e)
  exact String.toList_inj.mp ((List.map_inj_right (fun a b e => inj e)).mp h')
structure StpF (c : FC) (σ : Store) (s : Shared) (σ' : Store) (s' : Shared) : Prop where
  size : s.heap.objs.size ≤ s'.heap.objs.size
  keep : ∀ x o, s.heap.get? x = some o → σ x = none → (∀ es n, o.data ≠ .dict es n) → x ∉ c.cl.map (·.2) → s'.heap.get? x = some o
  ns : ∀ l m, s.heap.Ns l m → σ l = none → l ≠ c.L → s'.heap.Ns l m
  there : ∀ m, s.heap.Ns c.L m → ∃ m', s'.heap.Ns c.L m'
  new : ∀ x, x < s.heap.objs.size → σ x = none → σ' x = none
  gens : s'.gens = s.gens
  os : s'.os = s.os
theorem Stp.toF {c : FC} {σ σ' : Store} {s s' : Shared} (x : Stp σ s σ' s') (n : σ c.L = none) : StpF c σ s σ' s' :=
  ⟨x.size, fun a o e n d _ => x.keep a o e n d, fun l m h n _ => x.ns l m h n, fun m h => ⟨m, x.ns _ m h n⟩, x.new, x.gens, x.os⟩
theorem StpF.trans {c : FC} {σ₁ σ₂ σ₃ : Store} {s₁ s₂ s₃ : Shared} (x : StpF c σ₁ s₁ σ₂ s₂) (y : StpF c σ₂ s₂ σ₃ s₃) : StpF c σ₁ s₁ σ₃ s₃ := by
  refine ⟨Nat.le_trans x.size y.size, fun a o e n d nc => ?_, fun l m h n nl => ?_, fun m h => ?_, fun a l n => ?_, y.gens.trans x.gens, y.os.trans x.os⟩
  · exact y.keep a o (x.keep a o e n d nc) (x.new a (Heap.lt_size e) n) d nc
  · exact y.ns l m (x.ns l m h n nl) (x.new l (ns_lt h) n) nl
  · obtain ⟨m', h'⟩ := x.there m h
    exact y.there m' h'
  · exact y.new a (Nat.lt_of_lt_of_le l x.size) (x.new a l n)
structure Own (c : FC) (b : Heap) (envs : List Env) : Prop where
  own : c.L = c.fr
  top : ∃ outer, envs = c.env :: outer
  cb : ∀ p ∈ c.cl, b.get? p.2 = none
theorem Own.ne {c : FC} {b : Heap} {envs : List Env} {k : Nat} {A : Around} {σ : Store} {s : Shared} (W : Own c b envs) (cx : Cx g k A envs b σ s) : ∀ e ∈ envs.tail, e.frame ≠ some c.L := by
  obtain ⟨outer, rfl⟩ := W.top
  intro e he
  rw [W.own]
  exact cx.apart e he c.env rfl
theorem Cx.stepF {c : FC} {k : Nat} {A : Around} {envs : List Env} {b : Heap} {σ σ' : Store} {s s' : Shared} (W : Own c b envs) (x : Cx g k A envs b σ s) (st : StpF c σ s σ' s') (I : Inv g σ' s') : Cx g k A envs b σ' s' := by
  refine ⟨x.ok, I, fun env he => ?_, ⟨fun a o e => ?_, x.bs.base, fun a n => ?_, x.bs.nd⟩, x.apart, x.ne⟩
  · obtain ⟨k, L, m, f, n, hn, l, hb⟩ := x.outs env he
    by_cases q : L = c.L
    · subst q
      obtain ⟨m', hn'⟩ := st.there m hn
      exact ⟨k, c.L, m', f, st.new _ (ns_lt hn) n, hn', l, hb⟩
    · exact ⟨k, L, m, f, st.new _ (ns_lt hn) n, st.ns L m hn n q, l, hb⟩
  · rcases x.bs.nd a o e with q | q
    · exact I.base a o q
    · refine st.keep a o (x.bs.sub a o e) ?_ q fun hm => ?_
      · cases z : σ a with
        | none => rfl
        | some y => rw [x.bs.mutb a (by rw [z]; exact fun w => by cases w)] at e; cases e
      · obtain ⟨p, hp, rfl⟩ := List.mem_map.mp hm
        rw [W.cb p hp] at e; cases e
  · cases z : b.get? a with
    | none => rfl
    | some o =>
      have l := Heap.lt_size (x.bs.sub a o z)
      cases w : σ a with
      | none => exact absurd (st.new a l w) n
      | some y => rw [x.bs.mutb a (by rw [w]; exact fun w => by cases w)] at z; cases z
theorem PX.preF {c : FC} {X : Addr → Prop} {b : Heap} {envs : List Env} {σ σ₁ : Store} {s s₁ : Shared} (W : Own c b envs) (x : StpF c σ s σ₁ s₁) {e : Value} {s' : Shared} (h : PX g X b envs σ₁ s₁ e s') : PX g X b envs σ s e s' := by
  obtain ⟨a, C, h1, h2, h3, h4⟩ := h
  refine ⟨a, C, h1, h2, ⟨h3.inv, h3.sub, fun l m n q hn => h3.ns l m (x.new l (ns_lt hn) n) q (x.ns l m hn n fun z => ?_), h3.frames, h3.os.trans x.os, fun l m n hn => ?_⟩, h4⟩
  · obtain ⟨outer, rfl⟩ := W.top
    exact q c.env rfl (by rw [z, W.own]; rfl)
  · by_cases z : l = c.L
    · subst z
      obtain ⟨m', h'⟩ := x.there m hn
      exact h3.there _ m' (x.new _ (ns_lt hn) n) h'
    · exact h3.there l m (x.new l (ns_lt hn) n) (x.ns l m hn n z)
theorem wp_preF {α : Type} {c : FC} {X : Addr → Prop} {A : Around} {envs : List Env} {b : Heap} {s s₁ : Shared} {t : Sem α} {σ σ₁ : Store} {P : α → Shared → Prop} (W : Own c b envs) (st : StpF c σ s σ₁ s₁)
    (h : wpAny (model prog g.w) A t P (PX g X b envs σ₁ s₁) s₁) : wpAny (model prog g.w) A t P (PX g X b envs σ s) s₁ :=
  wpAny_mono h (fun _ _ x => x) fun _ _ x => x.preF W st
structure Post where
  nx : Loc → Store → Prop
  rt : V → Store → Prop
  ct : Loc → Store → Prop
inductive PF (g : G) (c : FC) (envs : List Env) (P : Post) (σ : Store) (s : Shared) (f : Flow) (s' : Shared) : Prop
  | mk (σ' : Store) (loc' : Loc) (st : StpF c σ s σ' s') (I : Inv g σ' s') (F : Fm g c envs loc' σ' s'.heap) (q : match f with
    | .next => P.nx loc' σ'
    | .cont => P.ct loc' σ'
    | .ret u => ∃ v, VR σ' s'.heap v u ∧ P.rt v σ'
    | .brk => False)
theorem PF.preF {c : FC} {envs : List Env} {P : Post} {σ σ₁ : Store} {s s₁ : Shared} (x : StpF c σ s σ₁ s₁) {f : Flow} {s' : Shared} (h : PF g c envs P σ₁ s₁ f s') : PF g c envs P σ s f s' := by
  obtain ⟨σ', l, h1, I, F, r⟩ := h
  exact ⟨σ', l, x.trans h1, I, F, r⟩
variable (prog g)
noncomputable def TS (k : Nat) (c : FC) (loc : Loc) (st : Stmt) (P : Post) (X : Addr → Prop) (σ : Store) : Prop :=
  ∀ A envs b s, Own c b envs → Cx g k A envs b σ s → Fm g c envs loc σ s.heap → wpAny (model prog g.w) A (exec st c.env) (PF g c envs P σ s) (PX g X b envs σ s) s
noncomputable def TSs (k : Nat) (c : FC) (loc : Loc) (st : List Stmt) (P : Post) (X : Addr → Prop) (σ : Store) : Prop :=
  ∀ A envs b s, Own c b envs → Cx g k A envs b σ s → Fm g c envs loc σ s.heap → wpAny (model prog g.w) A (execs st c.env) (PF g c envs P σ s) (PX g X b envs σ s) s
variable {prog g}
section
variable {k : Nat} {c : FC} {loc : Loc} {P : Post} {X : Addr → Prop} {σ : Store}
theorem ss_nil (h : P.nx loc σ) : TSs prog g k c loc [] P X σ := by
  intro A envs b s W cx F
  exact wpAny_execs_nil ⟨σ, loc, (Stp.refl σ s).toF F.fr, cx.inv, F, h⟩
theorem ss_cons {st : Stmt} {rest : List Stmt} (h : TS prog g k c loc st { P with nx := fun loc' σ' => TSs prog g k c loc' rest P X σ' } X σ) : TSs prog g k c loc (st :: rest) P X σ := by
  intro A envs b s W cx F
  refine wpAny_execs_cons (wpAny_mono (h A envs b s W cx F) (fun f s₁ hf => ?_) fun _ _ x => x)
  obtain ⟨σ₁, l₁, st₁, I₁, F₁, q⟩ := hf
  cases f with
  | next => exact wp_preF W st₁ (wpAny_mono (q A envs b s₁ W (cx.stepF W st₁ I₁) F₁) (fun _ _ x => x.preF st₁) fun _ _ x => x)
  | cont => exact ⟨σ₁, l₁, st₁, I₁, F₁, q⟩
  | ret u => exact ⟨σ₁, l₁, st₁, I₁, F₁, q⟩
  | brk => exact q.elim
theorem wpE_then {Q₁ : V → Store → Prop} {A : Around} {envs : List Env} {b : Heap} {s : Shared} {Q' : Value → Shared → Prop} {e : Expr}
    (h : TE prog g k c loc e Q₁ X σ) (cx : Cx g k A envs b σ s) (F : Fm g c envs loc σ s.heap)
    (q : ∀ u v σ₁ s₁, Stp σ s σ₁ s₁ → Cx g k A envs b σ₁ s₁ → Fm g c envs loc σ₁ s₁.heap → VR σ₁ s₁.heap v u → Q₁ v σ₁ → Q' u s₁) :
    wpAny (model prog g.w) A (eval e c.env) Q' (PX g X b envs σ s) s := wp_then h cx F q
theorem c_inter (h : c.sc.kind = .function) : interactive c.env = false := by
  unfold interactive
  show (c.sc.kind == ScopeKind.module && _) = false
  rw [h]; rfl
theorem dropValue_any {pos : Pos} {v : Value} {M : Model} {A : Around} {Q : Flow → Shared → Prop} {E : Value → Shared → Prop} {s : Shared} {w : World} (h : Q .next s) : wpAny (model prog w) A (dropValue (.Constant .none 0 pos) pos v) Q E s := by
  cases v with
  | ref a => exact wpAny_bind (wpAny_standAt (wpAny_bind (wpAny_runValue (codeAny_builtin entry_let_go (show wpAny _ _ (ret .none) _ _ s from wpAny_pure (wpAny_pure h))))))
  | _ => exact wpAny_pure h
noncomputable abbrev KP (P : Post) (loc : Loc) : V → Store → Prop := fun _ σ => P.nx loc σ
theorem s_expr {e : Expr} {pos : Pos} (h : TE prog g k c loc e (KP P loc) X σ) (hs : ∀ env, swapsWith e none pos.line env = pure false) (hv : dropValue e pos = dropValue (.Constant .none 0 pos) pos) : TS prog g k c loc (.Expr e pos) P X σ := by
  intro A envs b s W cx F
  rw [exec_Expr _ _ _ (c_inter F.kind) (hs _)]
  refine wpAny_bind (wpAny_standAt (wpAny_bind (wpE_then h cx F fun u v σ₁ s₁ st cx₁ F₁ r q => by rw [hv]; exact dropValue_any (M := model prog g.w) ⟨σ₁, loc, st.toF F.fr, cx₁.inv, F₁, q⟩)))
theorem s_pass {pos : Pos} (h : P.nx loc σ) : TS prog g k c loc (.Pass pos) P X σ := by
  intro A envs b s W cx F
  exact wpAny_Pass ⟨σ, loc, (Stp.refl σ s).toF F.fr, cx.inv, F, h⟩
theorem s_ret {e : Expr} {pos : Pos} (h : TE prog g k c loc e P.rt X σ) : TS prog g k c loc (.Return (some e) pos) P X σ := by
  intro A envs b s W cx F
  refine wpAny_Return_some (wpE_then h cx F fun u v σ₁ s₁ st cx₁ F₁ r q => ?_)
  exact ⟨σ₁, loc, st.toF F.fr, cx₁.inv, F₁, v, r, q⟩
theorem TSs.go {A : Around} {envs : List Env} {b : Heap} {s s₁ : Shared} {σ₁ : Store} {st : List Stmt} {loc₁ : Loc} (h : TSs prog g k c loc₁ st P X σ₁) (W : Own c b envs) (st₁ : StpF c σ s σ₁ s₁) (cx₁ : Cx g k A envs b σ₁ s₁) (F₁ : Fm g c envs loc₁ σ₁ s₁.heap) :
    wpAny (model prog g.w) A (execs st c.env) (PF g c envs P σ s) (PX g X b envs σ s) s₁ :=
  wpAny_mono (h A envs b s₁ W cx₁ F₁) (fun _ _ x => x.preF st₁) fun _ _ x => x.preF W st₁
noncomputable abbrev KIf (prog : Program) (g : G) (k : Nat) (c : FC) (loc : Loc) (b o : List Stmt) (P : Post) (X : Addr → Prop) : Bool → Store → Prop := fun r σ => if r then TSs prog g k c loc b P X σ else TSs prog g k c loc o P X σ
theorem s_if {t : Expr} {body orelse : List Stmt} {pos : Pos} (h : TB prog g k c loc t (KIf prog g k c loc body orelse P X) X σ) : TS prog g k c loc (.If t body orelse pos) P X σ := by
  intro A envs b s W cx F
  refine wpAny_If (wpB_then h cx F fun r σ₁ s₁ st cx₁ F₁ q => ?_)
  cases r with
  | true => exact TSs.go q W (st.toF F.fr) cx₁ F₁
  | false => exact TSs.go q W (st.toF F.fr) cx₁ F₁
noncomputable def SetL (x : String) (v : V) (loc : Loc) : Loc := (x, v) :: loc.filter fun p => p.1 ≠ x
theorem wp_bind {A : Around} {envs : List Env} {s : Shared} {x : String} {v : V} {u : Value} {Q : Unit → Shared → Prop} {E : Value → Shared → Prop} (I : Inv g σ s) (F : Fm g c envs loc σ s.heap)
    (hl : c.sc.names.lookup (Str.ofString x) = some .local) (r : VR σ s.heap v u)
    (q : ∀ s', StpF c σ s σ s' → Inv g σ s' → Fm g c envs (SetL x v loc) σ s'.heap → (∀ w z, VR σ s.heap w z → VR σ s'.heap w z) → Q () s') : wpAny (model prog g.w) A (storeName c.env (Str.ofString x) u) Q E s := by
  obtain ⟨m, hn, hm⟩ := F.ns
  refine wpAny_storeName_local hl hn (fun h' (hn' : h'.Ns c.L _) (hs : Heap.SameBut c.L s.heap h') => ?_) (by show (c.sc.kind == .class || (c.sc.kind == .module && c.L != mainGlobals)) = false; rw [F.kind]; rfl)
  have off : Off c.L s.heap h' := And.intro (fun o e d => by
    obtain ⟨o', es, ep, e', d', _⟩ := hn
    rw [e] at e'; cases e'; exact d.dict _ _ d') (fun y o n e => (hs.2 y n).trans e)
  have I' : Inv g σ { s with heap := h', toks := s.toks + 1 } := I.touch F.fr off F.low rfl
  have cell : ∀ {a : Addr} {w : Option Value}, s.heap.IsCell a w → h'.IsCell a w := fun {a w} e => by
    obtain ⟨o, ho, hd⟩ := e
    refine ⟨o, (hs.2 a fun q => ?_).trans ho, hd⟩
    obtain ⟨o', es, ep, e', d', _⟩ := hn
    rw [q, e'] at ho; cases ho; rw [hd] at d'; cases d'
  refine q _ ⟨by show _ ≤ h'.objs.size; rw [hs.1]; exact Nat.le_refl _, fun y o e n d _ => (hs.2 y fun z => ?_).trans e, fun l m' hm' n nl => hm'.sameBut hs nl, fun _ _ => ⟨_, hn'⟩, fun _ _ n => n, rfl, rfl⟩ I' ⟨F.kind, F.low, F.fr, F.hd, fun p hp => ?_, _, hn', fun y w hy => ?_⟩ (fun w z rz => rz.touch off)
  · obtain ⟨o', es, ep, e', d', _⟩ := hn
    rw [z, e'] at e; cases e; exact d _ _ d'
  · obtain ⟨a1, a2, w, a3⟩ := F.cl p hp
    exact ⟨a1, a2, w, cell a3⟩
  · rcases List.mem_cons.mp hy with hy | hy
    · cases hy
      exact ⟨u, .inl ⟨hl, if_pos rfl⟩, r.touch off⟩
    · obtain ⟨hy, ne⟩ := List.mem_filter.mp hy
      have ne : y ≠ x := by simpa using ne
      obtain ⟨u', t, r'⟩ := hm y w hy
      refine ⟨u', ?_, r'.touch off⟩
      rcases t with ⟨t1, t2⟩ | ⟨t1, a, t2, t3, t4⟩
      · exact .inl ⟨t1, (if_neg fun z => ne (ofString_inj z)).trans t2⟩
      · exact .inr ⟨t1, a, t2, t3, cell t4⟩
noncomputable abbrev KW (P : Post) (x : String) (loc : Loc) : V → Store → Prop := fun v σ => P.nx (SetL x v loc) σ
theorem s_assign {x : String} {e : Expr} {pos' pos : Pos} (hl : c.sc.names.lookup (Str.ofString x) = some .local) (h : TE prog g k c loc e (KW P x loc) X σ)
    (hs : ∀ env, swapsWith e (some (.Name (Str.ofString x) pos')) pos.line env = pure false := by intro _; rfl) : TS prog g k c loc (.Assign [.Name (Str.ofString x) pos'] e pos) P X σ := by
  intro A envs b s W cx F
  refine wpAny_Assign_Name (wpE_then h cx F fun u v σ₁ s₁ st cx₁ F₁ r q => ?_) (hs _)
  exact wp_bind cx₁.inv F₁ hl r fun s₂ st₂ I₂ F₂ _ => ⟨σ₁, _, (st.toF F.fr).trans st₂, I₂, F₂, q⟩
end
end
section
noncomputable def iterNames : List String := ["list_iterator", "tuple_iterator", "range_iterator", "str_ascii_iterator", "str_iterator", "dict_keyiterator"]
inductive IsIt (I : Addr) (h : Heap) : Prop
  | mk (o : Obj) (fs : Array Value) (t : String) (h1 : h.get? I = some o) (h2 : o.data = .fields fs) (h3 : o.cls = .type t) (h4 : t ∈ iterNames)
theorem IsIt.off {I : Addr} {h : Heap} (x : IsIt I h) : ∀ o, h.get? I = some o → ¬ Frz o := by
  obtain ⟨o, fs, t, h1, h2, h3, h4⟩ := x
  intro o' e f
  rw [h1] at e; cases e
  rcases f with ⟨_, _, d⟩ | ⟨_, c⟩
  · rw [h2] at d; cases d
  · rw [h3] at c
    cases Value.type.inj c
    revert h4; decide
structure Wk (prog : Program) (g : G) (A : Around) (I : Addr) (vs : List V) (D : List Addr) (St : Nat → Store → Heap → Prop) : Prop where
  own : ∀ i σ h, St i σ h → IsIt I h ∧ σ I = none
  item : ∀ i σ (s : Shared) v (Q : Option Value → Shared → Prop) E, vs[i]? = some v → Inv g σ s → St i σ s.heap →
    (∀ u h' tk, (∀ b o, b ≠ I → s.heap.get? b = some o → h'.get? b = some o) → VR σ h' v u → St (i + 1) σ h' → Q (some u) { s with heap := h', toks := tk }) → wpAny (model prog g.w) A (pyNext (.ref I)) Q E s
  done : ∀ σ (s : Shared) (Q : Option Value → Shared → Prop) E, Inv g σ s → St vs.length σ s.heap →
    (∀ h' tk, (∀ b o, b ≠ I → s.heap.get? b = some o → h'.get? b = some o) → Q none { s with heap := h', toks := tk }) → wpAny (model prog g.w) A (pyNext (.ref I)) Q E s
  self : ∀ i σ (s : Shared) (Q : Value → Shared → Prop) E, St i σ s.heap → Q (.ref I) s → wpAny (model prog g.w) A (pyIter (.ref I)) Q E s
  keep : ∀ i σ (s : Shared) σ' (s' : Shared), St i σ s.heap → Inv g σ' s' → (∀ b o, s.heap.get? b = some o → σ b = none → ((∃ xs n, o.data = .seq xs n) ∨ ∃ fs, o.data = .fields fs) → s'.heap.get? b = some o ∧ σ' b = none) →
    (∀ d ∈ D, σ' d = σ d) → St i σ' s'.heap
noncomputable def Src (prog : Program) (g : G) (v : V) (vs : List V) (D : List Addr) (σ : Store) : Prop :=
  ∀ (A : Around) (E : Value → Shared → Prop) (Q : Value → Shared → Prop) (s : Shared) (u : Value), A.handled = none → Inv g σ s → VR σ s.heap v u →
    (∀ St s', Stp σ s σ s' → Inv g σ s' → (∀ b o, s.heap.get? b = some o → s'.heap.get? b = some o) → g.h₀.objs.size ≤ s.heap.objs.size → (∀ A' : Around, A'.handled = none → Wk prog g A' s.heap.objs.size vs D St) → St 0 σ s'.heap → Q (.ref s.heap.objs.size) s') → wpAny (model prog g.w) A (pyIter u) Q E s
theorem VRs.get {σ : Store} {h : Heap} : ∀ {vs : List V} {l : List Value} {i : Nat} {v : V}, VRs σ h vs l → vs[i]? = some v → ∃ u, l[i]? = some u ∧ VR σ h v u
  | [], _, _, _, _, e => by simp at e
  | w :: vs, _, i, v, r, e => by
    rw [VRs] at r
    obtain ⟨x, xs, rfl, a, b⟩ := r
    cases i with
    | zero => simp at e; subst e; exact ⟨x, rfl, a⟩
    | succ i => simp at e; obtain ⟨u, h1, h2⟩ := VRs.get b e; exact ⟨u, by simpa using h1, h2⟩
theorem base_le (G₀ : GOk g) {σ : Store} {s : Shared} (I : Inv g σ s) : g.h₀.objs.size ≤ s.heap.objs.size := I.baseLe fun _ => G₀.ne
theorem Src.lst (G₀ : GOk g) {vs : List V} {σ : Store} : Src prog g (.lst vs) vs [] σ := by
  intro A E Q s u hh I r q
  rw [VR] at r
  obtain ⟨ax, its, rfl, na, hl, rs⟩ := r
  have hl := hl.isList
  have fz := frz_push (o := { cls := .type "list_iterator", data := .fields #[.ref ax, .int 0 0] }) I
  have hne : ax ≠ s.heap.objs.size := fun z => by obtain ⟨o, ho, _⟩ := hl; rw [z] at ho; exact absurd (Heap.lt_size ho) (Nat.lt_irrefl _)
  refine wpAny_pyIter_list hl ?_
  refine q (fun i σ h => h.IsListIter s.heap.objs.size ax i ∧ h.IsList ax its ∧ σ ax = none ∧ σ s.heap.objs.size = none ∧ VRs σ h vs its.toList) _ fz.1 fz.2 (fun b o e => Heap.get?_push_of_some _ e) (base_le G₀ I) (fun A' hA => ?_)
    ⟨⟨_, Heap.get?_push_size _ rfl, rfl, rfl⟩, ?_, na, I.fresh (Nat.le_refl _), VRs.step fz.1 rs⟩
  · have W := Walks.list (prog := prog) (w := g.w) hA s.heap.objs.size ax hne its
    refine ⟨fun i σ h st => ?_, fun i σ s₁ v Q E hv I st q => ?_, fun σ s₁ Q E I st q => ?_, fun i σ s₁ Q E st q => W.self i s₁ Q E ⟨st.1, st.2.1⟩ q, fun i σ s₁ σ' s₂ st I' hk _ => ?_⟩
    · obtain ⟨⟨o, h1, h2, h3⟩, _, _, n, _⟩ := st
      exact ⟨⟨o, _, _, h1, h3, h2, by decide⟩, n⟩
    · obtain ⟨t1, t2, t3, t4, t5⟩ := st
      obtain ⟨u, hu, ru⟩ := VRs.get t5 hv
      have lt : i < its.size := by
        have := (List.getElem?_eq_some_iff.mp hu).1
        simpa using this
      refine W.item i s₁ Q E lt ⟨t1, t2⟩ fun x h' tk hx hs hk => ?_
      have off : Off s.heap.objs.size s₁.heap h' := ⟨IsIt.off (by obtain ⟨o, h1, h2, h3⟩ := t1; exact ⟨o, _, _, h1, h3, h2, by decide⟩), fun b o n e => hk b o (by simpa using n) e⟩
      have hx' : its.toList[i]? = some x := by simpa using hx
      rw [hu] at hx'
      cases hx'
      exact q u h' tk off.2 (ru.touch off) ⟨hs.1, hs.2, t3, t4, t5.touch off⟩
    · obtain ⟨t1, t2, t3, t4, t5⟩ := st
      have len := t5.length
      refine W.done s₁ Q E ⟨by rw [← len] at t1; simpa using t1, t2⟩ fun h' tk hk => q h' tk fun b o n e => hk b o (by simpa using n) e
    · obtain ⟨⟨o, t1, c1, d1⟩, ⟨o2, t2, c2, k2, d2⟩, t3, t4, t5⟩ := st
      obtain ⟨a1, a2⟩ := hk _ _ t1 t4 (.inr ⟨_, d1⟩)
      obtain ⟨b1, b2⟩ := hk _ _ t2 t3 (.inl ⟨_, _, d2⟩)
      refine ⟨⟨o, a1, c1, d1⟩, ⟨o2, b1, c2, k2, d2⟩, b2, a2, t5.via fun a o e n f => hk a o e n ?_⟩
      rcases f with f | ⟨⟨fs, f⟩, _⟩
      · exact .inl f
      · exact .inr ⟨fs, f⟩
  · obtain ⟨o, ho, r⟩ := hl
    exact ⟨o, Heap.get?_push_of_some _ ho, r⟩
theorem Wk.of1 {A : Around} {I : Addr} {vs : List V} {P : Nat → Value → Prop} {St : Nat → Heap → Prop} (W : Walks prog g.w A I [I] [I] vs.length P St)
    (hP : ∀ i v u, vs[i]? = some v → P i u → ∀ σ h, VR σ h v u) (own : ∀ i h, St i h → IsIt I h) : Wk prog g A I vs [] (fun i σ h => St i h ∧ σ I = none) := by
  refine ⟨fun i σ h st => ?_, fun i σ s₁ v Q E hv I st q => ?_, fun σ s₁ Q E I st q => ?_, fun i σ s₁ Q E st q => W.self i s₁ Q E st.1 q, fun i σ s₁ σ' s₂ st I' hk _ => ?_⟩
  · exact ⟨own i h st.1, st.2⟩
  · refine W.item i s₁ Q E (List.getElem?_eq_some_iff.mp hv).1 st.1 fun x h' tk hx hs hk => ?_
    exact q x h' tk (fun b o n e => hk b o (by simpa using n) e) (hP i v x hv hx _ _) ⟨hs, st.2⟩
  · exact W.done s₁ Q E st.1 fun h' tk hk => q h' tk fun b o n e => hk b o (by simpa using n) e
  · obtain ⟨o, fs, _, h1, h2, h3, _⟩ := own i s₁.heap st.1
    refine ⟨W.frame i _ _ st.1 fun b hb o e => ?_, (hk _ _ h1 st.2 (.inr ⟨_, h2⟩)).2⟩
    have : b = I := by simpa using hb
    subst this
    rw [h1] at e; cases e
    exact (hk _ _ h1 st.2 (.inr ⟨_, h2⟩)).1
theorem Src.of1 (G₀ : GOk g) {v : V} {vs : List V} {σ : Store} (h : ∀ (A : Around) (E : Value → Shared → Prop) (Q : Value → Shared → Prop) (s : Shared) (u : Value), VR σ s.heap v u →
    (∀ (o : Obj) (P : Nat → Value → Prop) (St : Nat → Heap → Prop), (∀ A' : Around, A'.handled = none → Walks prog g.w A' s.heap.objs.size [s.heap.objs.size] [s.heap.objs.size] vs.length P St) → (∀ i v u, vs[i]? = some v → P i u → ∀ σ h, VR σ h v u) →
      (∀ i h, St i h → IsIt s.heap.objs.size h) → St 0 (s.heap.push o) → Q (.ref s.heap.objs.size) { s with heap := s.heap.push o }) → wpAny (model prog g.w) A (pyIter u) Q E s) : Src prog g v vs [] σ := by
  intro A E Q s u hh I r q
  refine h A E Q s u r fun o P St W hP own st => ?_
  have fz := frz_push (o := o) I
  exact q _ _ fz.1 fz.2 (fun b o e => Heap.get?_push_of_some _ e) (base_le G₀ I) (fun A' hA => Wk.of1 (W A' hA) hP own) ⟨st, I.fresh (Nat.le_refl _)⟩
noncomputable def inRange (a b : Int) : List V := (List.range (b - a).toNat).map fun i => .int (a + (i : Nat))
theorem inRange_get {a b : Int} {i : Nat} {v : V} (h : (inRange a b)[i]? = some v) : v = .int (a + i) := by
  unfold inRange at h
  rw [List.getElem?_map] at h
  obtain ⟨j, hj, rfl⟩ := Option.map_eq_some_iff.mp h
  obtain ⟨_, rfl⟩ := List.getElem?_eq_some_iff.mp hj
  simp
theorem Src.rng (G₀ : GOk g) {a b : Int} {σ : Store} (ha : -1000000 ≤ a) (ha' : a ≤ 1000000) (hb : -1000000 ≤ b) (hb' : b ≤ 1000000) : Src prog g (.rng a b) (inRange a b) [] σ := by
  refine Src.of1 G₀ fun A E Q s u r q => ?_
  rw [VR] at r
  obtain ⟨r, t, u, z, rfl, n, hr⟩ := r
  refine wpAny_pyIter_range hr (small_one (by lia) (by lia) (by lia) (by lia)) ?_
  have len : (inRange a b).length = (b - a).toNat := by simp [inRange]
  refine q _ (fun i v => ∃ t, v = .int (a + i * 1) t) (fun i h => IsRangeIter h s.heap.objs.size (a + (i : Nat) * 1) (((inRange a b).length : Int) - (i : Nat)) 1) (fun A' hA => Walks.range hA _ a 1 (inRange a b).length) (fun i v u hv hp σ h => ?_) (fun i h e => ⟨_, _, _, e, rfl, rfl, by decide⟩) ?_
  · rw [inRange_get hv, VR]
    obtain ⟨t, rfl⟩ := hp
    exact ⟨t, by rw [Int.mul_one]⟩
  · show Heap.get? _ _ = _
    rw [Heap.get?_push_size _ rfl]
    simp [len, rangeSize_nat, rawInt]
noncomputable def chars (x : Str) : List V := x.cps.toList.map fun c => .str ⟨#[c]⟩
theorem Src.str (G₀ : GOk g) {x : Str} {σ : Store} : Src prog g (.str x) (chars x) [] σ := by
  refine Src.of1 G₀ fun A E Q s u r q => ?_
  rw [VR] at r
  obtain ⟨t, rfl⟩ := r
  have len : (chars x).length = x.cps.size := by simp [chars]
  have hP : ∀ (i : Nat) (v : V) (u : Value), (chars x)[i]? = some v → SignAt x i u → ∀ σ h, VR σ h v u := by
    intro i v u hv hs σ h
    obtain ⟨c, t, hc, rfl⟩ := hs
    unfold chars at hv
    rw [List.getElem?_map] at hv
    obtain ⟨d, hd, rfl⟩ := Option.map_eq_some_iff.mp hv
    have hd' : x.cps[i]? = some d := by simpa using hd
    rw [hc] at hd'
    cases hd'
    rw [VR]; exact ⟨t, rfl⟩
  have own : ∀ (ty : String) (i : Nat) (h : Heap), ty ∈ iterNames → h.IsStrIter s.heap.objs.size ty x t i → IsIt s.heap.objs.size h := by
    intro ty i h ne e
    obtain ⟨o, h1, h2, h3⟩ := e
    exact ⟨o, _, _, h1, h3, h2, ne⟩
  cases ha : x.cps.all (· < 128)
  · exact wpAny_pyIter_wide ha (q _ _ _ (fun A' hA => by rw [len]; exact Walks.strWide hA _ x t) hP (fun i h e => own _ i h (by decide) e) ⟨_, Heap.get?_push_size _ rfl, rfl, rfl⟩)
  · exact wpAny_pyIter_ascii ha (q _ _ _ (fun A' hA => by rw [len]; exact Walks.strAscii hA _ x t) hP (fun i h e => own _ i h (by decide) e) ⟨_, Heap.get?_push_size _ rfl, rfl, rfl⟩)
theorem Src.tup (G₀ : GOk g) {vs : List V} {σ : Store} : Src prog g (.tup vs) vs [] σ := by
  intro A E Q s u hh I r q
  rw [VR] at r
  obtain ⟨ax, its, rfl, na, hl, rs⟩ := r
  have fz := frz_push (o := { cls := .type "tuple_iterator", data := .fields #[.ref ax, .int 0 0] }) I
  have hne : ax ≠ s.heap.objs.size := fun z => by obtain ⟨o, ho, _⟩ := hl; rw [z] at ho; exact absurd (Heap.lt_size ho) (Nat.lt_irrefl _)
  refine wpAny_pyIter_tuple hl ?_
  refine q (fun i σ h => h.IsTupleIter s.heap.objs.size ax i ∧ h.IsTuple ax its ∧ σ ax = none ∧ σ s.heap.objs.size = none ∧ VRs σ h vs its.toList) _ fz.1 fz.2 (fun b o e => Heap.get?_push_of_some _ e) (base_le G₀ I) (fun A' hA => ?_)
    ⟨⟨_, Heap.get?_push_size _ rfl, rfl, rfl⟩, ?_, na, I.fresh (Nat.le_refl _), VRs.step fz.1 rs⟩
  · have W := Walks.tuple (prog := prog) (w := g.w) hA s.heap.objs.size ax hne its
    refine ⟨fun i σ h st => ?_, fun i σ s₁ v Q E hv I st q => ?_, fun σ s₁ Q E I st q => ?_, fun i σ s₁ Q E st q => W.self i s₁ Q E ⟨st.1, st.2.1⟩ q, fun i σ s₁ σ' s₂ st I' hk _ => ?_⟩
    · obtain ⟨⟨o, h1, h2, h3⟩, _, _, n, _⟩ := st
      exact ⟨⟨o, _, _, h1, h3, h2, by decide⟩, n⟩
    · obtain ⟨t1, t2, t3, t4, t5⟩ := st
      obtain ⟨u, hu, ru⟩ := VRs.get t5 hv
      have lt : i < its.size := by
        have := (List.getElem?_eq_some_iff.mp hu).1
        simpa using this
      refine W.item i s₁ Q E lt ⟨t1, t2⟩ fun x h' tk hx hs hk => ?_
      have off : Off s.heap.objs.size s₁.heap h' := ⟨IsIt.off (by obtain ⟨o, h1, h2, h3⟩ := t1; exact ⟨o, _, _, h1, h3, h2, by decide⟩), fun b o n e => hk b o (by simpa using n) e⟩
      have hx' : its.toList[i]? = some x := by simpa using hx
      rw [hu] at hx'
      cases hx'
      exact q u h' tk off.2 (ru.touch off) ⟨hs.1, hs.2, t3, t4, t5.touch off⟩
    · obtain ⟨t1, t2, t3, t4, t5⟩ := st
      have len := t5.length
      refine W.done s₁ Q E ⟨by rw [← len] at t1; simpa using t1, t2⟩ fun h' tk hk => q h' tk fun b o n e => hk b o (by simpa using n) e
    · obtain ⟨⟨o, t1, c1, d1⟩, ⟨o2, t2, c2, k2, d2⟩, t3, t4, t5⟩ := st
      obtain ⟨a1, a2⟩ := hk _ _ t1 t4 (.inr ⟨_, d1⟩)
      obtain ⟨b1, b2⟩ := hk _ _ t2 t3 (.inl ⟨_, _, d2⟩)
      refine ⟨⟨o, a1, c1, d1⟩, ⟨o2, b1, c2, k2, d2⟩, b2, a2, t5.via fun a o e n f => hk a o e n ?_⟩
      rcases f with f | ⟨⟨fs, f⟩, _⟩
      · exact .inl f
      · exact .inr ⟨fs, f⟩
  · obtain ⟨o, ho, r⟩ := hl
    exact ⟨o, Heap.get?_push_of_some _ ho, r⟩
end
section
section
variable {M : Model} {A : Around} {E : Value → Shared → Prop} {s : Shared}
theorem setFlight_held {base : Heap} {l : List Env} {e L : Addr} {cls a0 : Value} {Q : Unit → Shared → Prop} (R : Heap.HeldW base l e cls a0 L s.heap)
    (h : ∀ h', Heap.HeldW base l e cls a0 L h' → s.heap.UpToSlots h' → Q () { s with heap := h' }) : wpAny M A (setFlight (.ref e) (some L)) Q E s := by
  obtain ⟨hkb, hen, hl, oe, vs, T, oT, ts, he, hcls, hd, h1, hnT, hTe, hT, hdT, h3⟩ := R
  have hsz3 : 3 < ts.size := (Array.getElem?_eq_some_iff.mp h3).1
  have other : ∀ b, b ≠ T → (s.heap.update T (Obj.mapFields (·.setIfInBounds 3 ((some L).elim Value.none fun f => rawInt f)))).get? b = s.heap.get? b :=
    fun b hb => Heap.get?_update_other _ _ (Ne.symm hb)
  have noRecord : ∀ b o, s.heap.get? b = some o → (∀ vs, o.data ≠ .fields vs) → b ≠ T := fun b o hb hnf q => by
    rw [q, hT] at hb; injection hb with hb; subst hb; exact hnf ts hdT
  unfold setFlight
  refine wpAny_bind (wpAny_field he hd h1 ?_)
  rw [if_pos (show (Value.ref T != Value.none) = true from by simp)]
  refine wpAny_setField hT hdT hsz3 (h _ ⟨fun b o hbo => (other b fun q => by rw [q, hnT] at hbo; cases hbo).trans (hkb b o hbo), hen,
    hl.of_keeps fun b o hb hnf => ⟨o, (other b (noRecord b o hb hnf)).trans hb, rfl⟩, ?_⟩ fun b o hb hnf => ⟨o.slots, (other b (noRecord b o hb hnf)).trans hb⟩)
  exact ⟨oe, vs, T, _, _, (other e (Ne.symm hTe)).trans he, hcls, hd, h1, hnT, hTe, Heap.get?_update_self _ hT (Obj.isFreed_of_fields (Obj.data_mapFields hdT _)), Obj.data_mapFields hdT _, by simp [hsz3]⟩
theorem noteFrame_first {base : Heap} {env : Env} {outer : List Env} {L e : Addr} {oe : Obj} {vs : Array Value} {a0 : Value} {Q : Unit → Shared → Prop}
    (hfr : A.frames = some (env :: outer)) (hl : s.heap.FunFrames base (env :: outer)) (hf : env.frame = some L)
    (he : s.heap.get? e = some oe) (hkb : base.StaysIn s.heap) (hen : base.get? e = none) (hd : oe.data = .fields vs) (h1 : vs[1]? = some .none) (h0 : vs[0]? = some a0)
    (h : ∀ h', Heap.NotedW base (env :: outer) e oe.cls a0 (rawInt L) s.heap h' → Q () { s with heap := h' }) : wpAny M A (noteFrame (.ref e) env) Q E s := by
  unfold noteFrame
  simp only [hf]
  refine wpAny_bind (wpAny_field he hd h1 ?_)
  rw [if_neg (by decide)]
  exact wpAny_entryW hfr hl hf he hkb hen hd (Array.getElem?_eq_some_iff.mp h1).1 h0 h
end
section
variable {k : Nat} {c : FC} {X : Addr → Prop} {σ : Store} {A : Around} {envs : List Env} {b : Heap} {s s' : Shared}
theorem s0_no {h : Heap} : ∀ a o, s0 a = some o → OR g.w s0 h a o := by
  intro a o e
  cases e
theorem Flown.next {h' : Heap} (fl : Flown g b envs σ s s') (hb : ∀ x o, g.h₀.get? x = some o → b.get? x = some o) (hs : b.StaysIn h') (hf : h'.FunFrames b envs) (up : s'.heap.UpToSlots h') : Flown g b envs σ s { s' with heap := h' } :=
  ⟨⟨fun x o e => hs x o (hb x o e), fun _ n => absurd rfl n, s0_no, fl.inv.gens⟩, hs, fun l m n q hn => up.ns (fl.ns l m n q hn), hf, fl.os, fun l m n hn => let ⟨m', h'⟩ := fl.there l m n hn; ⟨m', up.ns h'⟩⟩
theorem up_noted {E : Value → Shared → Prop} {a C : Addr} {Q : Unit → Shared → Prop} (hfr : A.frames = some envs) (W : Own c b envs) (fl : Flown g b envs σ s s') (up : Up b envs a C s'.heap)
    (h : ∀ h' a0, Heap.HeldW b envs a (.ref C) a0 c.fr h' → s'.heap.UpToSlots h' → Q () { s' with heap := h' }) {M : Model} : wpAny M A (noteFrame (.ref a) c.env) Q E s' := by
  obtain ⟨hen, a0, up⟩ := up
  obtain ⟨outer, he⟩ := W.top
  subst he
  rcases up with ⟨oe, vs, e1, e2, e3, e4, e5⟩ | e1 | ⟨env, r, L, e1, e2, e3⟩
  · refine noteFrame_first hfr fl.frames rfl e1 fl.sub hen e3 e5 e4 fun h' hN => ?_
    obtain ⟨k1, k2, k3, k4⟩ := hN
    exact h h' a0 ⟨k1, hen, k2, e2 ▸ k3⟩ k4
  · exact wpAny_looks_onW hfr rfl ⟨fl.sub, hen, fl.frames, e1⟩ fun h' x y => h h' a0 x y
  · obtain ⟨rfl, rfl⟩ := List.cons.inj e1
    obtain rfl : c.fr = L := Option.some.inj e2
    exact wpAny_noteFrame_againW rfl e3 (h s'.heap a0 ⟨fl.sub, hen, fl.frames, e3⟩ (.refl _))
theorem PX.passes (cx : Cx g k A envs b σ s) (W : Own c b envs) : PassesOwn (model prog g.w) A c.env (PX g X b envs σ s) := by
  intro e s' hx
  obtain ⟨a, C, rfl, hX, fl, up⟩ := hx
  refine up_noted cx.ok.frames W fl up fun h' a0 hh us => ?_
  obtain ⟨f1, f2, f3, f4⟩ := id hh
  obtain ⟨oe, vs, T, oT, ts, he, hcls, hd, h1, _⟩ := id f4
  refine wpAny_bind (wpAny_field he hd h1 ?_)
  rw [if_neg (show ¬ ((Value.ref T == Value.none) = true) from by simp)]
  have go : wpAny (model prog g.w) A (setFlight (.ref a) c.env.frame) (fun _ s'' => PX g X b envs σ s (.ref a) s'') (PX g X b envs σ s) { s' with heap := h' } :=
    setFlight_held hh fun h'' hh' us' => by
      obtain ⟨g1, g2, g3, g4⟩ := id hh'
      obtain ⟨outer, he⟩ := W.top
      exact ⟨a, C, rfl, hX, fl.next cx.bs.base g1 g3 (us.trans us'), g2, a0, .inr (.inr ⟨c.env, outer, c.fr, he, rfl, g4⟩)⟩
  first
    | exact go
    | exact wpAny_bind (wpAny_pure go)
end
section
variable {k : Nat} {c : FC} {loc : Loc} {P : Post} {X : Addr → Prop} {σ : Store}
inductive WInv (g : G) (c : FC) (envs : List Env) (J : Nat → Loc → Store → Prop) (σ : Store) (s : Shared) (n : Nat) (s' : Shared) : Prop
  | mk (σ₁ : Store) (loc₁ : Loc) (h1 : J n loc₁ σ₁) (h2 : StpF c σ s σ₁ s') (h3 : Inv g σ₁ s') (h4 : Fm g c envs loc₁ σ₁ s'.heap)
theorem s_while {t : Expr} {body : List Stmt} {pos : Pos} (J : Nat → Loc → Store → Prop) (n : Nat) (h0 : J n loc σ)
    (turn : ∀ n loc₁ σ₁, J n loc₁ σ₁ → TB prog g k c loc₁ t (fun r σ₂ => if r then TSs prog g k c loc₁ body { nx := fun l σ₃ => ∃ m, m < n ∧ J m l σ₃, ct := fun l σ₃ => ∃ m, m < n ∧ J m l σ₃, rt := P.rt } X σ₂ else P.nx loc₁ σ₂) X σ₁) :
    TS prog g k c loc (.While t body [] pos) P X σ := by
  intro A envs b s W cx F
  refine wpAny_While (codeAny_whileLoop (WInv g c envs J σ s) ?_ n ⟨σ, loc, h0, (Stp.refl σ s).toF F.fr, cx.inv, F⟩)
  rintro n s₁ ⟨σ₁, loc₁, hJ, st₁, I₁, F₁⟩
  have cx₁ := cx.stepF W st₁ I₁
  have E0 : ∀ e s', PX g X b envs σ s e s' → notedBy (model prog g.w) A c.env (cameBackBy (model prog g.w) A c.env (PX g X b envs σ s)) e s' := PX.passes cx W
  refine wpAny_mono (wp_preF W st₁ (wpB_then (turn n loc₁ σ₁ hJ) cx₁ F₁ (Q' := fun r s₂ => ∃ σ₂, Stp σ₁ s₁ σ₂ s₂ ∧ Cx g k A envs b σ₂ s₂ ∧ Fm g c envs loc₁ σ₂ s₂.heap ∧ if r then TSs prog g k c loc₁ body { nx := fun l σ₃ => ∃ m, m < n ∧ J m l σ₃, ct := fun l σ₃ => ∃ m, m < n ∧ J m l σ₃, rt := P.rt } X σ₂ else P.nx loc₁ σ₂)
    fun r σ₂ s₂ st₂ cx₂ F₂ q => ⟨σ₂, st₂, cx₂, F₂, q⟩)) (fun r s₂ hr => ?_) E0
  obtain ⟨σ₂, st₂, cx₂, F₂, q⟩ := hr
  have st12 := st₁.trans (st₂.toF F₁.fr)
  cases r with
  | false => exact wpAny_execs_nil ⟨σ₂, loc₁, st12, cx₂.inv, F₂, q⟩
  | true =>
    refine wpAny_mono (TSs.go q W st12 cx₂ F₂) (fun f s₃ hf => ?_) E0
    obtain ⟨σ₃, l₃, st₃, I₃, F₃, q⟩ := hf
    cases f with
    | next => obtain ⟨m, lt, hJ⟩ := q; exact ⟨m, lt, σ₃, l₃, hJ, st₃, I₃, F₃⟩
    | cont => obtain ⟨m, lt, hJ⟩ := q; exact ⟨m, lt, σ₃, l₃, hJ, st₃, I₃, F₃⟩
    | ret u => exact ⟨σ₃, l₃, st₃, I₃, F₃, q⟩
    | brk => exact q.elim
end
section
variable {A : Around} {E : Value → Shared → Prop} {s : Shared} {w : World}
theorem draw_list {it t : Addr} {items : Array Value} (hne : t ≠ it) : ∀ (n i : Nat) (s : Shared) (Q : List Value → Shared → Prop), s.heap.IsListIter it t i → s.heap.IsList t items → i + n ≤ items.size →
    (∀ h', h'.IsListIter it t (i + n) → Heap.SameBut it s.heap h' → Q ((items.toList.drop i).take n) { s with heap := h' }) → wpAny (model prog w) A (draw (.ref it) n) Q E s
  | 0, i, s, Q, hit, _, _, hQ => by
    show wpAny _ _ (pure []) Q E s
    exact wpAny_pure (by simpa using hQ s.heap hit (Heap.SameBut.refl ..))
  | n + 1, i, s, Q, hit, ht, hle, hQ => by
    have hlt : i < items.size := by lia
    show wpAny _ _ (pyNext (.ref it) >>= _) Q E s
    refine wpAny_bind (wpAny_pyNext_list_item hit ht (x := items[i]) (by simp [hlt]) fun h₁ hit₁ hs₁ => ?_)
    refine wpAny_bind (wpAny_holding (draw_list hne n (i + 1) _ _ hit₁ (ht.extBut hs₁.extBut hne) (by lia) fun h₂ hit₂ hs₂ => wpAny_pure ?_))
    have hd : items.toList.drop i = items[i] :: items.toList.drop (i + 1) := by simp [List.drop_eq_getElem_cons, hlt]
    have := hQ h₂ (by rw [show i + (n + 1) = i + 1 + n by lia]; exact hit₂) (hs₁.trans hs₂)
    rw [hd, List.take_succ_cons] at this
    exact this
theorem unpackItems_list {t : Addr} {items : Array Value} {Q : List Value → Shared → Prop} (hh : A.handled = none) (ht : s.heap.IsList t items)
    (hQ : ∀ h', Heap.ExtBut s.heap.objs.size s.heap h' → Q items.toList { s with heap := h' }) : wpAny (model prog w) A (unpackItems (.ref t) items.size none) Q E s := by
  have hlt : t ≠ s.heap.objs.size := by obtain ⟨o, ho, _⟩ := ht; exact Nat.ne_of_lt (Heap.lt_size ho)
  have up : ∀ o, (s.heap.push o).IsList t items := fun o => by obtain ⟨o', ho, r⟩ := ht; exact ⟨o', Heap.get?_push_of_some _ ho, r⟩
  unfold unpackItems
  refine wpAny_bind ?_
  · unfold notIterableAtAll
    refine wpAny_bind (wpAny_specialOf ht.typeIs slot_list_iter.lookup ?_)
    refine wpAny_pure ?_
    simp only [Bool.false_eq_true, if_false]
    refine wpAny_bind (wpAny_holding (wpAny_pyIter_list ht ?_))
    refine wpAny_bind (wpAny_holding (draw_list hlt items.size 0 _ _ ⟨_, Heap.get?_push_size _ rfl, rfl, rfl⟩ (up _) (by lia) fun h₁ hit₁ hs₁ => ?_))
    have hall : List.take items.size (List.drop 0 items.toList) = items.toList := by
      rw [List.drop_zero]; exact List.take_of_length_le (by simp)
    rw [hall]
    rw [if_neg (by simp)]
    have ht₁ : h₁.IsList t items := (up _).extBut hs₁.extBut hlt
    refine wpAny_bind (wpAny_holding (wpAny_pyNext_list_end hh hit₁ ht₁ (by simp) fun h₂ he₂ => ?_))
    simp only [Option.isSome_none, Bool.false_eq_true, if_false]
    refine wpAny_pure (hQ h₂ fun b o hb e => he₂ b o hb (hs₁.extBut b o hb (Heap.get?_push_of_some _ e)))
end
noncomputable def Unp (v : V) (vs : List V) (σ : Store) : Prop := v = .tup vs ∨ v = .lst vs ∨ ∃ a, v = .ref a ∧ σ a = some (.list vs)
section
variable {k : Nat} {c : FC} {loc : Loc} {P : Post} {X : Addr → Prop} {σ : Store}
theorem wp_unpack {A : Around} {envs : List Env} {b : Heap} {s : Shared} {v : V} {vs : List V} {u : Value} {n : Nat} {Q : List Value → Shared → Prop} {E : Value → Shared → Prop} (cx : Cx g k A envs b σ s) (r : VR σ s.heap v u) (un : Unp v vs σ) (hn : n = vs.length)
    (q : ∀ us s', Stp σ s σ s' → Inv g σ s' → VRs σ s'.heap vs us → Q us s') : wpAny (model prog g.w) A (unpackItems u n none) Q E s := by
  have fin : ∀ {h' : Heap} {us : List Value}, Heap.ExtBut s.heap.objs.size s.heap h' → VRs σ s.heap vs us → s.heap.objs.size ≤ h'.objs.size → Q us { s with heap := h' } := by
    intro h' us he rs sz
    have st := cx.inv.grow (s' := { s with heap := h' }) sz (fun x o e => he x o (Nat.ne_of_lt (Heap.lt_size e)) e) rfl rfl
    exact q us _ st.1 st.2 (rs.step st.1)
  have hh := cx.ok.handled
  rcases un with rfl | rfl | ⟨a, rfl, ha⟩
  · rw [VR] at r
    obtain ⟨a, its, rfl, na, ht, rs⟩ := r
    obtain rfl : n = its.size := by rw [hn, ← rs.length]; simp
    exact wpAny_size (unpackItems_tuple hh ht fun h' he sz => fin he rs sz)
  · rw [VR] at r
    obtain ⟨a, its, rfl, na, ht, rs⟩ := r
    obtain rfl : n = its.size := by rw [hn, ← rs.length]; simp
    exact wpAny_size (unpackItems_list hh ht.isList fun h' he sz => fin he rs sz)
  · rw [VR] at r
    subst r
    obtain ⟨its, m, ho, rs⟩ := cx.inv.obj a _ ha
    obtain rfl : n = its.size := by rw [hn, ← rs.length]; simp
    exact wpAny_size (unpackItems_list hh ⟨_, ho, rfl, _, rfl⟩ fun h' he sz => fin he rs sz)
inductive NamesOf : List Expr → List String → Prop
  | nil : NamesOf [] []
  | cons {x : String} {p : Pos} {es : List Expr} {ns : List String} : NamesOf es ns → NamesOf (.Name (Str.ofString x) p :: es) (x :: ns)
noncomputable def SetLs : List String → List V → Loc → Loc
  | n :: ns, v :: vs, loc => SetLs ns vs (SetL n v loc)
  | _, _, loc => loc
noncomputable def TA (prog : Program) (g : G) (k : Nat) (c : FC) (loc : Loc) (t : Expr) (v : V) (QL : Loc → Prop) (X : Addr → Prop) (σ : Store) : Prop :=
  ∀ A envs b s u, Cx g k A envs b σ s → Fm g c envs loc σ s.heap → VR σ s.heap v u → wpAny (model prog g.w) A (assign t c.env u) (fun _ s' => ∃ loc', StpF c σ s σ s' ∧ Inv g σ s' ∧ Fm g c envs loc' σ s'.heap ∧ QL loc') (PX g X b envs σ s) s
theorem ta_name {x : String} {p : Pos} {v : V} {QL : Loc → Prop} (hl : c.sc.names.lookup (Str.ofString x) = some .local) (h : QL (SetL x v loc)) : TA prog g k c loc (.Name (Str.ofString x) p) v QL X σ := by
  intro A envs b s u cx F r
  exact wpAny_assign_Name (wp_bind cx.inv F hl r fun s₂ st₂ I₂ F₂ _ => ⟨_, st₂, I₂, F₂, h⟩)
inductive Stores (c : FC) : List (Value → Sem Unit) → List String → Prop
  | nil : Stores c [] []
  | cons {f : Value → Sem Unit} {fs : List (Value → Sem Unit)} {x : String} {r : List String} (hf : ∀ {M : Model} {A : Around} {Q : Unit → Shared → Prop} {E : Value → Shared → Prop} {s : Shared} {u : Value}, wpAny M A (storeName c.env (Str.ofString x) u) Q E s → wpAny M A (f u) Q E s) (h : Stores c fs r) : Stores c (f :: fs) (x :: r)
theorem VRs.imp {σ σ' : Store} {h h' : Heap} (kv : ∀ w z, VR σ h w z → VR σ' h' w z) {vs : List V} : ∀ {us : List Value}, VRs σ h vs us → VRs σ' h' vs us := by
  induction vs with
  | nil => intro us r; rw [VRs] at r ⊢; exact r
  | cons w ws ih =>
    intro us r
    rw [VRs] at r ⊢
    obtain ⟨y, ys, e, a, b⟩ := r
    exact ⟨y, ys, e, kv w y a, ih b⟩
theorem wp_stores {fs : List (Value → Sem Unit)} {ns : List String} (hS : Stores c fs ns) : ∀ {vs : List V} {us : List Value} {A : Around} {envs : List Env} {s : Shared} {loc : Loc} {Q : Unit → Shared → Prop} {E : Value → Shared → Prop}, (∀ x ∈ ns, c.sc.names.lookup (Str.ofString x) = some .local) →
    Inv g σ s → Fm g c envs loc σ s.heap → VRs σ s.heap vs us → (∀ s', StpF c σ s σ s' → Inv g σ s' → Fm g c envs (SetLs ns vs loc) σ s'.heap → Q () s') → wpAny (model prog g.w) A (assignInOrder fs us) Q E s := by
  induction hS with
  | nil => intro vs us A envs s loc Q E _ I F _ q; exact wpAny_pure (q s ((Stp.refl σ s).toF F.fr) I F)
  | @cons f fs x rest hf _ ih =>
    intro vs us A envs s loc Q E hl I F r q
    cases vs with
    | nil =>
      rw [VRs] at r
      subst r
      exact wpAny_pure (q s ((Stp.refl σ s).toF F.fr) I F)
    | cons v vs =>
      rw [VRs] at r
      obtain ⟨u, us', rfl, r1, r2⟩ := r
      exact wpAny_bind (wpAny_holding (hf (wp_bind I F (hl x (.head _)) r1 fun s₂ st₂ I₂ F₂ kv => ih (fun y hy => hl y (.tail _ hy)) I₂ F₂ (r2.imp kv) fun s₃ st₃ I₃ F₃ => q s₃ (st₂.trans st₃) I₃ F₃)))
theorem NamesOf.stores {es : List Expr} {ns : List String} (h : NamesOf es ns) : Stores c ((assignEach es c.env).map (·.2)) ns ∧ (assignEach es c.env).length = ns.length ∧ (assignEach es c.env).findIdx? (·.1) = none := by
  induction h with
  | nil => exact ⟨.nil, rfl, rfl⟩
  | @cons x p es ns h ih =>
    obtain ⟨h1, h2, h3⟩ := ih
    have e : assignEach (.Name (Str.ofString x) p :: es) c.env = (false, assign (.Name (Str.ofString x) p) c.env) :: assignEach es c.env := rfl
    rw [e]
    exact ⟨.cons (fun h => wpAny_assign_Name h) h1, congrArg (· + 1) h2, by rw [List.findIdx?_cons, h3]; rfl⟩
theorem ta_tup {es : List Expr} {ns : List String} {n : Nat} {p : Pos} {v : V} {vs : List V} {QL : Loc → Prop} (hN : NamesOf es ns) (hl : ∀ x ∈ ns, c.sc.names.lookup (Str.ofString x) = some .local) (un : Unp v vs σ) (hn : ns.length = vs.length)
    (h : QL (SetLs ns vs loc)) : TA prog g k c loc (.Tuple es n p) v QL X σ := by
  intro A envs b s u cx F r
  obtain ⟨h1, h2, h3⟩ := hN.stores (c := c)
  rw [assign_Tuple]
  refine wpAny_bind (wpAny_standAt ?_)
  unfold unpack
  rw [h3, h2]
  refine wpAny_bind (wpAny_holding (wp_unpack cx r un hn fun us s₁ st₁ I₁ rs => ?_))
  exact wp_stores h1 hl I₁ (F.step st₁) rs fun s₂ st₂ I₂ F₂ => ⟨_, (st₁.toF F.fr).trans st₂, I₂, F₂, h⟩
theorem s_tup {es : List Expr} {ns : List String} {n : Nat} {p pos : Pos} {e : Expr} (hN : NamesOf es ns) (hl : ∀ x ∈ ns, c.sc.names.lookup (Str.ofString x) = some .local)
    (h : TE prog g k c loc e (fun v σ₁ => ∃ vs, Unp v vs σ₁ ∧ ns.length = vs.length ∧ P.nx (SetLs ns vs loc) σ₁) X σ)
    (hw : swappedStores [.Tuple es n p] e c.env = pure none) (hs : ∀ env, swapsWithSole [.Tuple es n p] e pos.line env = pure false := by intro _; rfl) : TS prog g k c loc (.Assign [.Tuple es n p] e pos) P X σ := by
  intro A envs b s W cx F
  refine Assign_Tuple (wpE_then h cx F fun u v σ₁ s₁ st cx₁ F₁ r q => ?_) (hs _) hw
  obtain ⟨vs, un, hn, q⟩ := q
  refine wpAny_mono (ta_tup (QL := fun l => P.nx l σ₁) hN hl un hn q A envs b s₁ u cx₁ F₁ r) (fun _ s₂ hx => ?_) fun _ _ x => x.pre st
  obtain ⟨l, st₂, I₂, F₂, q⟩ := hx
  exact ⟨σ₁, l, (st.toF F.fr).trans st₂, I₂, F₂, q⟩
theorem VRs.rev {σ : Store} {h : Heap} : ∀ {vs : List V} {us : List Value}, VRs σ h vs us → VRs σ h vs.reverse us.reverse
  | [], _, r => by rw [VRs] at r; subst r; show VRs σ h [] []; rw [VRs]
  | v :: vs, _, r => by
    rw [VRs] at r
    obtain ⟨u, us, rfl, a, b⟩ := r
    rw [List.reverse_cons, List.reverse_cons]
    exact VRs.app (VRs.rev b) (VRs1 a)
theorem stores_bind : ∀ (ns : List String), Stores c (ns.map fun n => bindName c.env (Str.ofString n)) ns
  | [] => .nil
  | x :: ns => .cons (fun h => wpAny_bindName h) (stores_bind ns)
theorem s_tupS {es : List Expr} {ns : List String} {n : Nat} {p pos : Pos} {e : Expr} (hl : ∀ x ∈ ns, c.sc.names.lookup (Str.ofString x) = some .local)
    (h : TE prog g k c loc e (fun v σ₁ => ∃ vs, Unp v vs σ₁ ∧ ns.length = vs.length ∧ P.nx (SetLs ns.reverse vs.reverse loc) σ₁) X σ)
    (hw : swappedStores [.Tuple es n p] e c.env = pure (some (ns.map Str.ofString))) (hs : ∀ env, swapsWithSole [.Tuple es n p] e pos.line env = pure false := by intro _; rfl) : TS prog g k c loc (.Assign [.Tuple es n p] e pos) P X σ := by
  intro A envs b s W cx F
  refine Assign_Tuple_swapped (wpE_then h cx F fun u v σ₁ s₁ st cx₁ F₁ r q => ?_) (hs _) hw
  obtain ⟨vs, un, hn, q⟩ := q
  refine wp_unpack cx₁ r un (by rw [List.length_map]; exact hn) fun us s₂ st₂ I₂ rs => ?_
  have e1 : ((ns.map Str.ofString).reverse.map fun n => bindName c.env n) = ns.reverse.map fun n => bindName c.env (Str.ofString n) := by
    rw [← List.map_reverse, List.map_map]; rfl
  rw [e1]
  exact wp_stores (stores_bind ns.reverse) (fun x hx => hl x (List.mem_reverse.mp hx)) I₂ (F₁.step st₂) rs.rev fun s₃ st₃ I₃ F₃ => ⟨σ₁, _, ((st.trans st₂).toF F.fr).trans st₃, I₃, F₃, q⟩
theorem wp_owned {A : Around} {s : Shared} {t : Expr} {I : Addr} {u : Value} {Q : Unit → Shared → Prop} {E : Value → Shared → Prop} (hi : IsIt I s.heap) (h : Q () s) : wpAny (model prog g.w) A (letOwnedTupleGo t (.ref I) u) Q E s := by
  obtain ⟨o, fs, ty, h1, h2, h3, h4⟩ := hi
  have no : (["enumerate", "zip", "dict_itemiterator", "dict_reverseitemiterator", "odict_iterator", "itertools.zip_longest", "itertools.pairwise"] : List String).contains ty = false := by
    revert h4
    unfold iterNames
    intro h4
    simp only [List.mem_cons, List.not_mem_nil, or_false] at h4
    rcases h4 with rfl | rfl | rfl | rfl | rfl | rfl <;> decide
  unfold letOwnedTupleGo
  have go : ∀ {x : Sem Unit}, wpAny (model prog g.w) A x Q E s → wpAny (model prog g.w) A x Q E s := fun h => h
  cases t <;> first
    | exact wpAny_pure h
    | (cases u <;> first
        | exact wpAny_pure h
        | (refine wpAny_bind (wpAny_load h1 ?_)
           simp only [h2, h3, no, Bool.false_and, Bool.false_eq_true, if_false]
           exact wpAny_pure h))
noncomputable def ForL (prog : Program) (g : G) (k : Nat) (c : FC) (t : Expr) (body : List Stmt) (P : Post) (X : Addr → Prop) (D : List Addr) : List V → Loc → Store → Prop
  | [], loc, σ => P.nx loc σ
  | v :: vs, loc, σ => TA prog g k c loc t v (fun loc₁ => TSs prog g k c loc₁ body { nx := fun l σ₂ => (∀ d ∈ D, σ₂ d = σ d) ∧ ForL prog g k c t body P X D vs l σ₂, ct := fun l σ₂ => (∀ d ∈ D, σ₂ d = σ d) ∧ ForL prog g k c t body P X D vs l σ₂, rt := P.rt } X σ) X σ
theorem StpF.pure {σ₁ σ₂ : Store} {s₁ s₂ : Shared} {envs : List Env} (st : StpF c σ₁ s₁ σ₂ s₂) (F : Fm g c envs loc σ₁ s₁.heap) : ∀ b o, s₁.heap.get? b = some o → σ₁ b = none → ((∃ xs n, o.data = .seq xs n) ∨ ∃ fs, o.data = .fields fs) → s₂.heap.get? b = some o ∧ σ₂ b = none := by
  intro b o e n f
  refine ⟨st.keep b o e n (fun es m q => ?_) fun hm => ?_, st.new b (Heap.lt_size e) n⟩
  · rcases f with ⟨_, _, f⟩ | ⟨_, f⟩ <;> rw [q] at f <;> cases f
  · obtain ⟨p, hp, rfl⟩ := List.mem_map.mp hm
    obtain ⟨_, _, v, o', e', d⟩ := F.cl p hp
    rw [e] at e'; cases e'
    rcases f with ⟨_, _, f⟩ | ⟨_, f⟩ <;> rw [d] at f <;> cases f
inductive FInv (prog : Program) (g : G) (k : Nat) (c : FC) (t : Expr) (body : List Stmt) (P : Post) (X : Addr → Prop) (D : List Addr) (vs : List V) (envs : List Env) (σ₁ : Store) (s₁ : Shared) (St : Nat → Store → Heap → Prop) (n : Nat) (s' : Shared) : Prop
  | mk (i : Nat) (ws : List V) (σ₃ : Store) (loc₃ : Loc) (h1 : i ≤ vs.length) (h2 : n = vs.length - i) (h3 : vs.drop i = ws) (h4 : ForL prog g k c t body P X D ws loc₃ σ₃) (h5 : StpF c σ₁ s₁ σ₃ s') (h6 : Inv g σ₃ s') (h7 : Fm g c envs loc₃ σ₃ s'.heap) (h8 : St i σ₃ s'.heap)
theorem s_for {t it : Expr} {body : List Stmt} {pos : Pos} (h : TE prog g k c loc it (fun v σ₁ => ∃ vs D, Src prog g v vs D σ₁ ∧ ForL prog g k c t body P X D vs loc σ₁) X σ)
    (hs : ∀ env x, foldedSetIterable it env x = pure x := by intro _ _; rfl) : TS prog g k c loc (.For t it body [] pos) P X σ := by
  intro A envs b s W cx F
  have E0 : ∀ e s', PX g X b envs σ s e s' → notedBy (model prog g.w) A c.env (cameBackBy (model prog g.w) A c.env (PX g X b envs σ s)) e s' := PX.passes cx W
  refine wpAny_For (wpE_then h cx F fun u v σ₁ s₁ st₁ cx₁ F₁ r q => ?_) (hs _)
  obtain ⟨vs, D, src, hF⟩ := q
  refine src A _ _ s₁ u cx₁.ok.handled cx₁.inv r fun St s₂ st₂ I₂ hk low wk hst => ?_
  have wk := wk A cx₁.ok.handled
  have F₂ := F₁.step st₂
  have nS : s₁.heap.objs.size ≤ s₁.heap.objs.size := Nat.le_refl _
  generalize hIt : s₁.heap.objs.size = It at *
  refine codeAny_forLoop_any (FInv prog g k c t body P X D vs envs σ₁ s₁ St) ?_ vs.length
    ⟨0, vs, σ₁, loc, Nat.zero_le _, rfl, rfl, hF, st₂.toF F₁.fr, I₂, F₂, hst⟩
  rintro n s₃ ⟨i, ws, σ₃, loc₃, hi, rfl, hw, hF₃, st₃, I₃, F₃, hst₃⟩
  obtain ⟨isit, nI⟩ := wk.own i σ₃ _ hst₃
  -- the iterator is turned
  have turn : ∀ (h' : Heap) (tk : Nat), s₃.heap.objs.size ≤ h'.objs.size → (∀ b o, b ≠ It → s₃.heap.get? b = some o → h'.get? b = some o) →
      StpF c σ₁ s₁ σ₃ { s₃ with heap := h', toks := tk } ∧ Inv g σ₃ { s₃ with heap := h', toks := tk } ∧ Fm g c envs loc₃ σ₃ h' := by
    intro h' tk sz hk'
    have off : Off It s₃.heap h' := ⟨isit.off, hk'⟩
    have nL : c.L ≠ It := fun q => by
      obtain ⟨m, ⟨o, es, ep, e, d, _⟩, _⟩ := F₃.ns
      obtain ⟨o', fs, ty, h1, h2, _⟩ := isit
      rw [q, h1] at e; cases e; rw [h2] at d; cases d
    have nC : ∀ p ∈ c.cl, p.2 ≠ It := fun p hp q => by
      obtain ⟨_, _, v, o, e, d⟩ := F₃.cl p hp
      obtain ⟨o', fs, ty, h1, h2, _⟩ := isit
      rw [q, h1] at e; cases e; rw [h2] at d; cases d
    have cell : ∀ {a : Addr} {w : Option Value}, s₃.heap.IsCell a w → h'.IsCell a w := fun {a w} e => by
      obtain ⟨o, e, d⟩ := e
      refine ⟨o, hk' a o (fun q => ?_) e, d⟩
      obtain ⟨o', fs, ty, h1, h2, _⟩ := isit
      rw [q, h1] at e; cases e; rw [h2] at d; cases d
    refine ⟨⟨Nat.le_trans st₃.size sz, fun x o e n d nc => hk' x o (fun q => ?_) (st₃.keep x o e n d nc), fun l m hn n nl => ns_keep (st₃.ns l m hn n nl) fun o e => hk' l o (fun q => ?_) e, fun m hn => ?_, st₃.new, st₃.gens, st₃.os⟩,
      I₃.touch nI off (hIt ▸ low) rfl, ⟨F₃.kind, F₃.low, F₃.fr, F₃.hd, fun p hp => ?_, ?_⟩⟩
    · have := Heap.lt_size e; rw [hIt, q] at this; exact Nat.lt_irrefl _ this
    · have := ns_lt hn; rw [hIt, q] at this; exact Nat.lt_irrefl _ this
    · obtain ⟨m', hn'⟩ := st₃.there m hn
      exact ⟨m', ns_keep hn' fun o e => hk' _ o nL e⟩
    · obtain ⟨a1, a2, w, a3⟩ := F₃.cl p hp
      exact ⟨a1, a2, w, cell a3⟩
    · obtain ⟨m, hn, hl⟩ := F₃.ns
      refine ⟨m, ns_keep hn fun o e => hk' _ o nL e, fun x v hx => ?_⟩
      obtain ⟨u, tl, r⟩ := hl x v hx
      refine ⟨u, ?_, r.touch off⟩
      rcases tl with t1 | ⟨t1, a, t2, t3, t4⟩
      · exact .inl t1
      · exact .inr ⟨t1, a, t2, t3, cell t4⟩
  have st01 := st₁.toF (c := c) F.fr
  cases ws with
  | nil =>
    have : i = vs.length := by
      have := congrArg List.length hw
      simp at this
      lia
    subst this
    refine wpAny_size (wk.done σ₃ s₃ _ _ I₃ hst₃ fun h' tk hk' sz => ?_)
    obtain ⟨a1, a2, a3⟩ := turn h' tk sz hk'
    exact wpAny_execs_nil ⟨σ₃, loc₃, st01.trans a1, a2, a3, hF₃⟩
  | cons v ws =>
    have hv : vs[i]? = some v := by
      have := congrArg (·[0]?) hw
      simpa using this
    have hlt := (List.getElem?_eq_some_iff.mp hv).1
    refine wpAny_size (wk.item i σ₃ s₃ v _ _ hv I₃ hst₃ fun u' h' tk hk' ru hst' sz => ?_)
    obtain ⟨a1, a2, a3⟩ := turn h' tk sz hk'
    refine wp_owned (wk.own _ _ _ hst').1 ?_
    have cx₃ := cx.stepF W (st01.trans a1) a2
    refine wpAny_mono (hF₃ A envs b _ u' cx₃ a3 ru) (fun _ s₄ hx => ?_) fun e s' x => E0 e s' (x.preF W (st01.trans a1))
    obtain ⟨l₄, st₄, I₄, F₄, q⟩ := hx
    have cx₄ := cx₃.stepF W st₄ I₄
    refine wpAny_mono (q A envs b _ W cx₄ F₄) (fun f s₅ hf => ?_) fun e s' x => E0 e s' (x.preF W ((st01.trans a1).trans st₄))
    obtain ⟨σ₅, l₅, st₅, I₅, F₅, q⟩ := hf
    have keep := wk.keep (i + 1) σ₃ _ σ₅ s₅ hst' I₅ ((st₄.trans st₅).pure a3)
    have drop : vs.drop (i + 1) = ws := by
      rw [← List.drop_drop, hw]; rfl
    cases f with
    | next => exact ⟨vs.length - (i + 1), by lia, i + 1, ws, σ₅, l₅, hlt, rfl, drop, q.2, (a1.trans st₄).trans st₅, I₅, F₅, keep q.1⟩
    | cont => exact ⟨vs.length - (i + 1), by lia, i + 1, ws, σ₅, l₅, hlt, rfl, drop, q.2, (a1.trans st₄).trans st₅, I₅, F₅, keep q.1⟩
    | ret u => exact ⟨σ₅, l₅, st01.trans ((a1.trans st₄).trans st₅), I₅, F₅, q⟩
    | brk => exact q.elim
theorem s_continue {pos : Pos} (h : P.ct loc σ) : TS prog g k c loc (.Continue pos) P X σ := by
  intro A envs b s W cx F
  show wpAny _ A (do standAt pos; pure Flow.cont) _ _ _
  exact wpAny_bind (wpAny_standAt (wpAny_pure ⟨σ, loc, (Stp.refl σ s).toF F.fr, cx.inv, F, h⟩))
end
end
section
set_option tactic.hygienic true
theorem Cx.fr {k : Nat} {A : Around} {envs : List Env} {b : Heap} {σ : Store} {s : Shared} (cx : Cx g k A envs b σ s) : ∃ L m, Fr g.h₀ L s.heap m ∧ σ L = none := by
  obtain ⟨e, r, rfl⟩ := cx.ne
  obtain ⟨_, L, m, _, n, hn, low, _⟩ := cx.outs e (.head _)
  exact ⟨L, m, ⟨hn, cx.inv.base, low⟩, n⟩
theorem ns_eq {h : Heap} {l : Addr} {m m' : Str → Option Value} (x : h.Ns l m) (y : h.Ns l m') : m = m' := by
  obtain ⟨o, es, ep, e, d, _, f⟩ := x
  obtain ⟨o', es', ep', e', d', _, f'⟩ := y
  rw [e] at e'; cases e'
  rw [d] at d'; cases d'
  funext n
  rw [← f, ← f']
section
variable {σ : Store} {s s' : Shared} {L : Addr} {m : Str → Option Value}
theorem Inv.led (I : Inv g σ s) (T : Addr → Prop) (F : Fr g.h₀ L s.heap m) (fL : σ L = none) (F' : Fr g.h₀ L s'.heap m) (size : s.heap.objs.size ≤ s'.heap.objs.size)
    (rest : ∀ b x, s.heap.get? b = some x → b ≠ L → g.h₀.get? b = none → ¬ T b → s'.heap.get? b = some x) (gens : s'.gens = s.gens) (os : s'.os = s.os) {σ' : Store}
    (ht : ∀ x, T x → σ x ≠ none ∨ s.heap.objs.size ≤ x) (hn : ∀ x, T x → g.h₀.objs.size ≤ x) (hs : ∀ x, ¬ T x → σ' x = σ x) (hd : ∀ a C d fs, ¬ T a → σ a = some (.inst C d fs) → ¬ T d)
    (ho : Stp σ s σ' s' → ∀ a o, T a → σ' a = some o → OR g.w σ' s'.heap a o) (hsh : ∀ d x, ¬ T d → σ d = some (.shadow x) → ∃ C fs, σ' x = some (.inst C d fs)) : Stp σ s σ' s' ∧ Inv g σ' s' := by
  refine I.change T (some L) size (fun x o e nt nl => ?_) (fun l q => ?_) ht hn hs hd gens os ho hsh
  · cases q : g.h₀.get? x with
    | some y => rw [I.base x y q] at e; cases e; exact F'.keep x _ q
    | none => exact rest x o e (fun z => nl (by rw [z])) q nt
  · cases q
    refine ⟨fL, F.above, fun m' hm => ?_, m, F.ns⟩
    rw [ns_eq hm F.ns]
    exact F'.ns
end
theorem FR.get {σ : Store} {h : Heap} {x : String} {v : V} : ∀ {fs : List (String × V)} {es : List DictEntry}, FR σ h fs es → fs.lookup x = some v → ∃ u, getL (Str.ofString x) es = some (some u) ∧ VR σ h v u := by
  intro r
  induction r with
  | nil =>
    intro _ _ e
    simp at e
  | cons p r ih =>
    intro _ hf e
    rw [FR] at hf
    obtain ⟨en, es, rfl, ⟨t, hk⟩, hv, hr⟩ := hf
    by_cases q : x = p.1
    · have : p.2 = v := by
        rw [List.lookup_cons] at e
        have : (x == p.1) = true := by simpa using q
        rw [this] at e
        simpa using e
      subst this
      refine ⟨en.val, ?_, hv⟩
      unfold getL
      have : en.key.isStr (Str.ofString x) = true := by rw [hk, q]; simp [Value.isStr]
      simp [this]
    · have e' : r.lookup x = some v := by
        rw [List.lookup_cons] at e
        have : (x == p.1) = false := by simpa using q
        rw [this] at e
        exact e
      obtain ⟨u, h1, h2⟩ := ih hr e'
      refine ⟨u, ?_, h2⟩
      unfold getL at h1 ⊢
      have : en.key.isStr (Str.ofString x) = false := by
        rw [hk]
        show (Str.ofString p.1 == Str.ofString x) = false
        simpa using fun z => q (ofString_inj z).symm
      rw [List.find?_cons, this]
      cases hfd : List.find? (fun e => e.key.isStr (Str.ofString x)) es with
      | some w => rw [hfd] at h1; exact h1
      | none =>
        rw [hfd] at h1
        by_cases z : es.any (·.refKey) = true <;> simp [z] at h1
theorem FR.miss {σ : Store} {h : Heap} {x : String} : ∀ {fs : List (String × V)} {es : List DictEntry}, FR σ h fs es → fs.lookup x = none → getL (Str.ofString x) es = some none := by
  intro r
  induction r with
  | nil =>
    intro _ hf _
    rw [FR] at hf; subst hf; rfl
  | cons p r ih =>
    intro _ hf e
    rw [FR] at hf
    obtain ⟨en, es, rfl, ⟨t, hk⟩, hv, hr⟩ := hf
    have q : ¬ x = p.1 := fun q => by
      rw [List.lookup_cons] at e
      have : (x == p.1) = true := by simpa using q
      rw [this] at e
      cases e
    have e' : r.lookup x = none := by
      rw [List.lookup_cons] at e
      have : (x == p.1) = false := by simpa using q
      rw [this] at e
      exact e
    have h1 := ih hr e'
    unfold getL at h1 ⊢
    have k1 : en.key.isStr (Str.ofString x) = false := by
      rw [hk]
      show (Str.ofString p.1 == Str.ofString x) = false
      simpa using fun z => q (ofString_inj z).symm
    have k2 : en.refKey = false := by unfold DictEntry.refKey; rw [hk]
    rw [List.find?_cons, k1]
    cases hfd : List.find? (fun e => e.key.isStr (Str.ofString x)) es with
    | some w => rw [hfd] at h1; cases h1
    | none =>
      rw [hfd] at h1
      simp only [List.any_cons, k2, Bool.false_or]
      exact h1
noncomputable def fset : List (String × V) → String → V → List (String × V)
  | [], x, v => [(x, v)]
  | p :: r, x, v => if p.1 = x then (x, v) :: r else p :: fset r x v
theorem FR.put {σ : Store} {h : Heap} {x : String} {v : V} {u : Value} {hs : Int} {t : Tok} : ∀ {fs : List (String × V)} {es : List DictEntry}, FR σ h fs es → VR σ h v u → FR σ h (fset fs x v) (putL (Str.ofString x) hs (.str (Str.ofString x) t) u es) := by
  intro rest
  induction rest with
  | nil =>
    intro _ hf r
    rw [FR] at hf; subst hf
    unfold fset putL
    rw [FR]
    exact ⟨_, [], rfl, ⟨t, rfl⟩, r, by rw [FR]⟩
  | cons p rest ih =>
    intro _ hf r
    rw [FR] at hf
    obtain ⟨en, es, rfl, ⟨t', hk⟩, hv, hr⟩ := hf
    unfold fset putL
    by_cases q : p.1 = x
    · have k1 : en.key.isStr (Str.ofString x) = true := by rw [hk, q]; simp [Value.isStr]
      rw [if_pos q, if_pos k1, FR]
      exact ⟨_, es, rfl, ⟨t', by rw [hk, q]⟩, r, hr⟩
    · have k1 : en.key.isStr (Str.ofString x) = false := by
        rw [hk]
        show (Str.ofString p.1 == Str.ofString x) = false
        simpa using fun z => q (ofString_inj z)
      rw [if_neg q, k1, if_neg (by decide), FR]
      exact ⟨en, _, rfl, ⟨t', hk⟩, hv, ih hr r⟩
theorem fset_len (fs : List (String × V)) (x : String) (v : V) : (fset fs x v).length ≤ fs.length + 1 := by
  induction fs with
  | nil => simp [fset]
  | cons p r ih => unfold fset; split <;> simp_all
noncomputable def getOk (K : Frag) (C : Addr) (x : Str) : Bool := plainGet K C x && hasDictIn K C && (match findIn K (.ref C) x with | some attr => noGet K attr | none => false)
noncomputable def setOk (K : Frag) (C : Addr) (x : Str) : Bool := findIn K (.ref C) "__setattr__" == some (some (.builtin "object.__setattr__")) && plainOver K C && takerIn K C x == some none && hasDictIn K C
noncomputable def methOk (K : Frag) (C : Addr) (x : Str) (f : Addr) : Bool := plainGet K C x && findIn K (.ref C) x == some (some (.ref f)) && isFn K (.ref f)
section
variable {k : Nat} {c : FC} {loc : Loc} {P : Post} {Q : V → Store → Prop} {X : Addr → Prop} {σ : Store}
theorem o_attr (G₀ : GOk g) {a C d : Addr} {fs : List (String × V)} {x : String} {v : V} (hσ : σ a = some (.inst C d fs)) (hf : fs.lookup x = some v) (ok : getOk g.K C (Str.ofString x) = true) (nb : ∀ n, v ≠ .bi n) (h : Q v σ) : OV prog g k [.ref a] (getA (Str.ofString x)) Q X σ := by
  intro A envs b s us cx r
  rw [VRs] at r
  obtain ⟨u, _, rfl, r, r'⟩ := r
  rw [VRs] at r'
  subst r'
  rw [VR] at r
  subst r
  obtain ⟨L, m, F, fL⟩ := cx.fr
  obtain ⟨h1, h2, es, n, h3, h4⟩ := cx.inv.obj a _ hσ
  obtain ⟨u, g1, g2⟩ := h4.get hf
  unfold getOk at ok
  rw [Bool.and_eq_true, Bool.and_eq_true] at ok
  obtain ⟨⟨o1, o2⟩, o3⟩ := ok
  split at o3
  · rename_i attr ha
    refine get_own F G₀.K ⟨h2, rfl, rfl, h3⟩ o1 o2 ha o3 g1 ?_ ?_
    · cases v <;> rw [VR] at g2 <;> first
        | (subst g2; rfl)
        | (obtain ⟨_, rfl⟩ := g2; rfl)
        | (obtain ⟨_, _, rfl, _⟩ := g2; rfl)
        | (obtain ⟨_, _, _, _, rfl, _⟩ := g2; rfl)
        | exact absurd rfl (nb _)
    · have st := cx.inv.toks (s' := { s with toks := s.toks + 1 }) rfl rfl rfl
      exact ⟨v, σ, st.1, st.2, g2, h⟩
  · cases o3
theorem o_meth (G₀ : GOk g) {a C d f : Addr} {fs : List (String × V)} {x : String} {PM : V → List V → Store → Prop} (hσ : σ a = some (.inst C d fs)) (hf : fs.lookup x = none) (ok : methOk g.K C (Str.ofString x) f = true) (h : PM (.ref f) [.ref a] σ) : GM prog g k (.ref a) (Str.ofString x) PM X σ := by
  intro A envs b s u pl cx r
  rw [VR] at r
  subst r
  obtain ⟨L, m, F, fL⟩ := cx.fr
  obtain ⟨h1, h2, es, n, h3, h4⟩ := cx.inv.obj a _ hσ
  unfold methOk at ok
  rw [Bool.and_eq_true, Bool.and_eq_true] at ok
  obtain ⟨⟨o1, o2⟩, o3⟩ := ok
  refine method_inst F G₀.K ⟨h2, rfl, rfl, h3⟩ o1 (beq_iff_eq.mp o2) o3 (h4.miss hf) ?_
  exact ⟨.ref f, [.ref a], σ, .refl .., cx.inv, by rw [VR], VRs1 (by rw [VR]), h⟩
theorem wp_setattr (G₀ : GOk g) {A : Around} {envs : List Env} {b : Heap} {s : Shared} {a C d : Addr} {fs : List (String × V)} {x : String} {v : V} {u : Value} {Q : Unit → Shared → Prop} {E : Value → Shared → Prop} (cx : Cx g k A envs b σ s)
    (hσ : σ a = some (.inst C d fs)) (ok : setOk g.K C (Str.ofString x) = true) (hl : fs.length ≤ 900) (r : VR σ s.heap v u)
    (q : ∀ s', Stp σ s (upd σ a (.inst C d (fset fs x v))) s' → Inv g (upd σ a (.inst C d (fset fs x v))) s' → Q () s') : wpAny (model prog g.w) A (setAttr (.ref a) (Str.ofString x) u) Q E s := by
  obtain ⟨L, m, F, fL⟩ := cx.fr
  obtain ⟨h1, h2, es, n, h3, h4⟩ := cx.inv.obj a _ hσ
  unfold setOk at ok
  rw [Bool.and_eq_true, Bool.and_eq_true, Bool.and_eq_true] at ok
  obtain ⟨⟨⟨o1, o2⟩, o3⟩, o4⟩ := ok
  have nd : σ d ≠ none := by rw [h1]; intro z; cases z
  have nL : d ≠ L := fun z => nd (z ▸ fL)
  have n0 : g.h₀.get? d = none := by
    cases q : g.h₀.get? d with
    | none => rfl
    | some y => exact absurd (cx.inv.lo' q) nd
  obtain ⟨pre, post, N, p1, p2, all⟩ := ledger_at h3 nL n0
  have hput := h4.put (x := x) (hs := PyData.keyHash g.w.params (Str.ofString x)) (t := s.toks + 1) r
  have hgl : (getL (Str.ofString x) es).isSome = true := by
    cases hq : fs.lookup x with
    | none => rw [h4.miss hq]; rfl
    | some w => obtain ⟨_, h5, _⟩ := h4.get hq; rw [h5]; rfl
  have U : Upd d (dictOf es n) (dictOf (putL (Str.ofString x) (PyData.keyHash g.w.params (Str.ofString x)) (.str (Str.ofString x) (s.toks + 1)) u es) (putN (Str.ofString x) es n)) (pre ++ (d, dictOf es n) :: post)
      (pre ++ (d, dictOf (putL (Str.ofString x) (PyData.keyHash g.w.params (Str.ofString x)) (.str (Str.ofString x) (s.toks + 1)) u es) (putN (Str.ofString x) es n)) :: post) := by
    clear N all
    induction pre with
    | nil => exact .head p2
    | cons y ys ih => exact .tail (p1 y (.head _)) (ih fun p hp => p1 p (.tail _ hp))
  refine wpAny_size (set_dict F G₀.K N ⟨h2, rfl, rfl, h3⟩ rfl (beq_iff_eq.mp o1) o2 (beq_iff_eq.mp o3) o4 hgl rfl U ?_ fun h' F' N' sz => ?_)
  · have e1 := hput.length
    have e2 := fset_len fs x v
    lia
  · have nad : a ≠ d := fun z => by rw [z, h1] at hσ; cases hσ
    have fin := cx.inv.led (σ' := upd σ a (.inst C d (fset fs x v))) (s' := { s with heap := h', toks := s.toks + 2 }) (fun y => y = a ∨ y = d) F fL F' sz (fun y o e n1 n2 n3 => ?_) rfl rfl
      (fun y hy => .inl ?_) (fun y hy => cx.inv.low y ?_) (fun y hy => upd_ne fun z => hy (.inl z)) (fun a' C' d' fs' hn e hy => ?_) (fun st y o hy e => ?_) (fun d' y hn e => ?_)
    · exact q _ fin.1 fin.2
    · have hm := all y o e n1 n2 fun z => n3 (.inr z)
      exact (N' (y, o) (by rcases List.mem_append.mp hm with z | z; exact List.mem_append_left _ z; exact List.mem_append_right _ (.tail _ z))).1
    · rcases hy with rfl | rfl
      · rw [hσ]; intro z; cases z
      · exact nd
    · rcases hy with rfl | rfl
      · rw [hσ]; intro z; cases z
      · exact nd
    · obtain ⟨z1, _⟩ := cx.inv.obj a' _ e
      rcases hy with rfl | rfl
      · rw [hσ] at z1; cases z1
      · rw [h1] at z1; cases z1; exact hn (.inl rfl)
    · rcases hy with rfl | rfl
      · rw [upd_self] at e; cases e
        refine ⟨(upd_ne nad.symm).trans h1, ?_, _, _, (N' (d, _) (List.mem_append_right _ (.head _))).1, hput.step st⟩
        have ha0 : g.h₀.get? y = none := by
          cases z : g.h₀.get? y with
          | none => rfl
          | some w => have := cx.inv.lo' z; rw [hσ] at this; cases this
        have hm := all y _ h2 (fun z => by rw [z, fL] at hσ; cases hσ) ha0 nad
        exact (N' (y, _) (by rcases List.mem_append.mp hm with z | z; exact List.mem_append_left _ z; exact List.mem_append_right _ (.tail _ z))).1
      · rw [upd_ne nad.symm, h1] at e; cases e
        exact ⟨C, _, upd_self ..⟩
    · obtain ⟨C', fs', z⟩ := cx.inv.obj d' _ e
      have ny : y ≠ a := fun w => by rw [w, hσ] at z; cases z; exact hn (.inr rfl)
      exact ⟨C', fs', (upd_ne ny).trans z⟩
noncomputable abbrev KV1 (g : G) (loc : Loc) (P : Post) (x : String) (v : V) : V → Store → Prop := fun w σ => ∃ a C d fs, w = .ref a ∧ σ a = some (.inst C d fs) ∧ setOk g.K C (Str.ofString x) = true ∧ fs.length ≤ 900 ∧ P.nx loc (upd σ a (.inst C d (fset fs x v)))
noncomputable abbrev KV (prog : Program) (g : G) (k : Nat) (c : FC) (loc : Loc) (o : Expr) (P : Post) (x : String) (X : Addr → Prop) : V → Store → Prop := fun v σ => TE prog g k c loc o (KV1 g loc P x v) X σ
theorem s_setattr (G₀ : GOk g) {o e : Expr} {x : String} {pos' pos : Pos} (h : TE prog g k c loc e (KV prog g k c loc o P x X) X σ) (hs : ∀ env, swapsWith e (some (.Attribute o (Str.ofString x) pos')) pos.line env = pure false := by intro _; rfl) : TS prog g k c loc (.Assign [.Attribute o (Str.ofString x) pos'] e pos) P X σ := by
  intro A envs b s W cx F
  refine plainObj_wpAny_Assign_Attribute (wpE_then h cx F fun u v σ₁ s₁ st₁ cx₁ F₁ r₁ q => ?_) (hs _)
  refine wp_pre st₁ cx (wpE_then q cx₁ F₁ fun u₂ w σ₂ s₂ st₂ cx₂ F₂ r₂ q => ?_)
  obtain ⟨a, C, d, fs, rfl, hσ, ok, hl, q⟩ := q
  rw [VR] at r₂
  subst r₂
  refine wp_setattr G₀ cx₂ hσ ok hl (VR.step st₂ r₁) fun s₃ st₃ I₃ => ?_
  have st := (st₁.trans st₂).trans st₃
  exact ⟨_, loc, st.toF F.fr, I₃, F.step st, q⟩
end
end
section
structure FnIs (g : G) (f : Addr) (fd : FuncData) (body : List Stmt) : Prop where
  at_ : ∃ o, g.h₀.get? f = some o ∧ o.data = .func fd
  body : fd.body = .stmts body
  cd : g.h₀.CodeRec fd.code fd.qualname
  glob : fd.globals = mainGlobals
  bi : fd.builtins = builtinsNs
  clo : fd.closure = []
  co : fd.scope.isCoroutine = false
  gen : fd.scope.isGenerator = false
  kind : fd.scope.kind = .function
noncomputable def Binds (g : G) (fd : FuncData) (vs : List V) (ps : List String) (ws : List V) (σ : Store) : Prop :=
  ∀ s us, Inv g σ s → VRs σ s.heap vs us → ∃ us', BindsTo s fd ⟨us, []⟩ ((ps.map Str.ofString).zip us') ∧ VRs σ s.heap ws us'
theorem lookup_mem {α β : Type} [BEq α] [LawfulBEq α] {k : α} {u : β} : ∀ {l : List (α × β)}, (l.map (·.1)).Nodup → (k, u) ∈ l → l.lookup k = some u := by
  intro l
  induction l with
  | nil => exact fun _ m => nomatch m
  | cons p l ih =>
    intro nd m
    obtain ⟨a, b⟩ := p
    rw [List.map_cons, List.nodup_cons] at nd
    rw [List.lookup_cons]
    rcases List.mem_cons.mp m with h | h
    · cases h; simp
    · have : (k == a) = false := by
        simp only [beq_eq_false_iff_ne]
        intro z
        exact nd.1 (z ▸ List.mem_map_of_mem (f := (·.1)) h)
      rw [this]
      exact ih nd.2 h
theorem zip_mem {σ : Store} {h : Heap} {x : String} {v : V} : ∀ {ps : List String} {ws : List V} {us : List Value}, VRs σ h ws us → (x, v) ∈ ps.zip ws → ∃ u, (Str.ofString x, u) ∈ (ps.map Str.ofString).zip us ∧ VR σ h v u
  | [], _, _, _, m => by simp at m
  | p :: ps, [], _, _, m => by simp at m
  | p :: ps, w :: ws, us, r, m => by
    rw [VRs] at r
    obtain ⟨u, us', rfl, r1, r2⟩ := r
    rcases List.mem_cons.mp m with h | h
    · cases h; exact ⟨u, .head _, r1⟩
    · obtain ⟨u', h1, h2⟩ := zip_mem r2 h
      exact ⟨u', .tail _ h1, h2⟩
theorem zip_keys {α β : Type} : ∀ {ps : List α} {us : List β}, ((ps.zip us).map (·.1)).Sublist ps
  | [], _ => by simp
  | p :: ps, [] => by simp
  | p :: ps, u :: us => by simp only [List.zip_cons_cons, List.map_cons]; exact zip_keys.cons₂ _
section
variable {k : Nat} {Q : V → Store → Prop} {X : Addr → Prop} {σ : Store}
theorem Ok.deeper {A : Around} {envs : List Env} {env : Env} (x : Ok (k + 1) A envs) : Ok k (A.deeper env) (env :: envs) :=
  ⟨by have := x.depth; show A.depth + 1 + 3 * k ≤ 990; lia, by have := x.units; show A.units + 3 + 40 * k ≤ 9800; lia, x.handled, by show A.frames.map (env :: ·) = _; rw [x.frames]; rfl⟩
theorem px_leave {c : FC} {A : Around} {envs : List Env} {b : Heap} {s s₀ s' : Shared} {e : Value} {E : Value → Shared → Prop} (hfr : A.frames = some (c.env :: envs)) (W : Own c b (c.env :: envs)) (hb : ∀ x o, g.h₀.get? x = some o → b.get? x = some o)
    (hk : ∀ l m, σ l = none → s.heap.Ns l m → s₀.heap.Ns l m ∧ c.L ≠ l) (hos : s₀.os = s.os) (h : PX g X b (c.env :: envs) σ s₀ e s') :
    wpAny (model prog g.w) A (leaving c.env e) (fun _ s'' => PX g X b envs σ s e s'') E s' := by
  obtain ⟨a, C, rfl, hX, fl, up⟩ := h
  unfold leaving
  refine wpAny_bind (up_noted hfr W fl up fun h' a0 hh us => wpAny_landsW hh fun h'' hf us' => ?_)
  obtain ⟨k1, k2, kf, k4⟩ := hf
  have fl' := fl.next hb k1 kf (us.trans us')
  have k3 := kf.2.2
  refine ⟨a, C, rfl, hX, ⟨fl'.inv, k1, fun l m n _ hn => ?_, k3, fl'.os.trans hos, fun l m n hn => fl'.there l m n (hk l m n hn).1⟩, k2, a0, .inr (.inl k4)⟩
  obtain ⟨h1, h2⟩ := hk l m n hn
  refine fl'.ns l m n (fun e he q => ?_) h1
  cases he
  have q : c.fr = l := Option.some.inj q
  exact h2 (W.own.trans q)
noncomputable def CF (prog : Program) (g : G) (k : Nat) (f : V) (vs : List V) (Q : V → Store → Prop) (X : Addr → Prop) (σ : Store) : Prop :=
  ∀ A envs b s u us, Cx g k A envs b σ s → VR σ s.heap f u → VRs σ s.heap vs us → codeAny (model prog g.w) A (.call u ⟨us, []⟩) (fun r s' => match r with | .ok (.ret v) => PV g Q σ s v s' | .ok _ => False | .error e => PX g X b envs σ s e s') s
theorem CF.cv {k : Nat} {f : V} {vs : List V} (h : CF prog g k f vs Q X σ) : CV prog g k f vs Q X σ := fun A envs b s u us cx ru rs => wpAny_call (h A envs b s u us cx ru rs)
theorem c_fn (G₀ : GOk g) {f : Addr} {fd : FuncData} {body : List Stmt} {vs ws : List V} {ps : List String} (hf : FnIs g f fd body) (bind : Binds g fd vs ps ws σ) (hcell : ∀ x ∈ fd.scope.names, x.2 ≠ .cell)
    (hloc : ∀ p ∈ ps, fd.scope.names.lookup (Str.ofString p) = some .local) (nd : ps.Nodup)
    (h : ∀ c : FC, c.sc = fd.scope → c.cl = [] → TSs prog g k c (ps.zip ws) body ⟨fun _ σ' => Q .none σ', Q, fun _ _ => False⟩ X σ) : CF prog g (k + 1) (.ref f) vs Q X σ := by
  intro A envs b s u us cx ru rs
  rw [VR] at ru
  subst ru
  obtain ⟨us', hb, rw'⟩ := bind s us cx.inv rs
  obtain ⟨o, ho, hd⟩ := hf.at_
  have ho' := cx.inv.base _ _ ho
  have hroom : A.depth < recursionLimit := by have := cx.ok.depth; show A.depth < 1000; lia
  refine (codeAny_call_def hroom ho' hd (G₀.lim.keeps cx.inv.base) (hf.cd.keeps cx.inv.base) hf.body hb hcell (fun x hx => ?_) (fun h₁ hns hk => ?_) hf.co hf.gen hf.kind)
  · obtain ⟨p, hp, e⟩ := List.mem_map.mp (List.of_mem_zip hx).1
    rw [← e]; exact hloc p hp
  have hns' := hns
  let c : FC := ⟨fd.qualname ++ ".<locals>.", fd.scope, s.heap.objs.size, s.heap.objs.size, some f, fd.code, []⟩
  have ce : callEnv fd s.heap.objs.size f = c.env := by
    show newEnv fd.scope s.heap.objs.size fd.globals fd.closure (fd.qualname ++ ".<locals>.") (some f) fd.code none fd.builtins = _
    rw [hf.glob, hf.clo, hf.bi]; rfl
  rw [ce]
  have size : s.heap.objs.size ≤ h₁.objs.size := Nat.le_of_lt (ns_lt hns)
  have gr := cx.inv.grow (s' := { s with heap := h₁, toks := s.toks + ((ps.map Str.ofString).zip us').length }) size hk rfl rfl
  have low := base_le G₀ cx.inv
  have nL : σ s.heap.objs.size = none := cx.inv.fresh (Nat.le_refl _)
  have bL : b.get? s.heap.objs.size = none := by
    cases z : b.get? s.heap.objs.size with
    | none => rfl
    | some y => exact absurd (Heap.lt_size (cx.bs.sub _ _ z)) (Nat.lt_irrefl _)
  have cx₁ : Cx g k (A.deeper c.env) (c.env :: envs) b σ { s with heap := h₁, toks := s.toks + ((ps.map Str.ofString).zip us').length } := by
    refine ⟨cx.ok.deeper, gr.2, fun env he => ?_, cx.bs.step gr.1 gr.2, fun e he env q => ?_, c.env, envs, rfl⟩
    · rcases List.mem_cons.mp he with rfl | he
      · exact ⟨hf.kind, _, _, rfl, nL, hns, low, bL⟩
      · exact (cx.outs.step gr.1) env he
    · cases q
      obtain ⟨_, L, m, f', n, hn, _⟩ := cx.outs e he
      rw [f']
      intro z
      have z : L = s.heap.objs.size := Option.some.inj z
      have := ns_lt hn
      rw [z] at this
      exact Nat.lt_irrefl _ this
  have F : Fm g c (c.env :: envs) (ps.zip ws) σ h₁ := by
    refine ⟨hf.kind, low, nL, ⟨c.env, envs, rfl, rfl⟩, (by intro p hp; cases hp), _, hns, fun x v hm => ?_⟩
    obtain ⟨u, h1, h2⟩ := zip_mem rw' hm
    refine ⟨u, .inl ⟨hloc x (List.of_mem_zip hm).1, ?_⟩, h2.step gr.1⟩
    refine lookup_mem ?_ (List.mem_reverse.mpr h1)
    rw [List.map_reverse]
    have n1 : (ps.map Str.ofString).Nodup := List.Pairwise.map _ (fun a b ne e => ne (ofString_inj e)) nd
    have n2 : (((ps.map Str.ofString).zip us').map (·.1)).Nodup := List.Sublist.nodup zip_keys n1
    exact List.pairwise_reverse.mpr (List.Pairwise.imp (fun ne => Ne.symm ne) n2)
  have W : Own c b (c.env :: envs) := ⟨rfl, ⟨envs, rfl⟩, fun p hp => by cases hp⟩
  refine wpAny_mono (h c rfl rfl (A.deeper c.env) (c.env :: envs) b _ W cx₁ F) (fun fl s₂ hfl => ?_) fun e s₂ hx => ?_
  · obtain ⟨σ₂, l₂, st₂, I₂, F₂, q⟩ := hfl
    have st : Stp σ s σ₂ s₂ := by
      refine ⟨Nat.le_trans size st₂.size, fun x o e n d => st₂.keep x o (hk x o e) n d (by simp [c]), fun l m hn n => st₂.ns l m (gr.1.ns l m hn n) n fun z => ?_, fun x l n => st₂.new x (Nat.lt_of_lt_of_le l size) n, st₂.gens.trans rfl, st₂.os.trans rfl⟩
      have := ns_lt hn
      rw [z] at this
      exact Nat.lt_irrefl _ this
    cases fl with
    | ret v => obtain ⟨w, r, q⟩ := q; exact ⟨w, σ₂, st, I₂, r, q⟩
    | next => exact ⟨.none, σ₂, st, I₂, by rw [VR], q⟩
    | cont => exact q.elim
    | brk => exact q.elim
  · refine px_leave (A := A.deeper c.env) cx₁.ok.frames W cx.bs.base (fun l m n hn => ⟨gr.1.ns l m hn n, fun z => ?_⟩) rfl hx
    have := ns_lt hn
    rw [← z] at this
    exact Nat.lt_irrefl _ this
end
end
section
theorem Kp.of (G₀ : GOk g) {a : Addr} (e : keepIn g.K (.ref a) = true) : Kp g (.ref a) := by
  intro M A E P σ s u I r h
  rw [VR] at r
  subst r
  obtain ⟨k, _, lk⟩ := looks_keep (M := M) (K := g.K) (h := s.heap) e (G₀.K.keeps I.base)
  exact lk A P E s (fun _ _ e => e) (h k s.toks)
theorem FnIs.of_K (G₀ : GOk g) {f : Addr} {oc : Value} {od : Option Addr} {osl : Array (Option Value)} {name qual : Str} {params : Arguments} {body : List Stmt} {scope : Scope} {dV kV doc pm cdv ct : Value} {an : Option Addr}
    (h : g.K.lookup f = some ⟨oc, od, .func (fnOf name qual params body scope dV kV doc pm an cdv ct), osl⟩) (hc : codeIn g.K cdv qual = true) (hco : scope.isCoroutine = false) (hgen : scope.isGenerator = false) (hk : scope.kind = .function) :
    FnIs g f (fnOf name qual params body scope dV kV doc pm an cdv ct) body :=
  ⟨⟨_, G₀.K _ _ h, rfl⟩, rfl, codeRec_of G₀.K hc, rfl, rfl, rfl, hco, hgen, hk⟩
section
variable {k : Nat} {Q : V → Store → Prop} {X : Addr → Prop} {σ : Store}
theorem CV.mono {f : V} {vs : List V} {Q' : V → Store → Prop} (h : CV prog g k f vs Q X σ) (q : ∀ v σ', Q v σ' → Q' v σ') : CV prog g k f vs Q' X σ := by
  intro A envs b s u us cx ru rs
  refine wpAny_mono (h A envs b s u us cx ru rs) (fun w s' hx => ?_) fun _ _ x => x
  obtain ⟨v, σ', a, b, r, hq⟩ := hx
  exact ⟨v, σ', a, b, r, q v σ' hq⟩
theorem Ok.down {A : Around} {envs : List Env} {k j : Nat} (x : Ok k A envs) (h : j ≤ k) : Ok j A envs :=
  ⟨by have := x.depth; lia, by have := x.units; lia, x.handled, x.frames⟩
theorem Cx.down {A : Around} {envs : List Env} {b : Heap} {s : Shared} {k j : Nat} (x : Cx g k A envs b σ s) (h : j ≤ k) : Cx g j A envs b σ s := ⟨x.ok.down h, x.inv, x.outs, x.bs, x.apart, x.ne⟩
theorem Ok.under {A : Around} {envs : List Env} {C : Addr} {rest : List Value} (x : Ok (k + 1) A envs) : Ok k (A.under (.builtin "type.__call__" ⟨.ref C :: rest, []⟩)) envs := by
  have w : Code.weight (.builtin "type.__call__" ⟨.ref C :: rest, []⟩) ≤ 3 := by
    unfold Code.weight
    show 0 + (if true = true then 1 else 0) + (if Code.isGuard (.builtin "type.__call__" ⟨.ref C :: rest, []⟩) then 1 else 0) + (if false = true then claimMargin else 0) ≤ 3
    rw [if_pos rfl]
    by_cases z : Code.isGuard (.builtin "type.__call__" ⟨.ref C :: rest, []⟩) = true
    · rw [if_pos z]; decide
    · rw [if_neg z]; decide
  refine ⟨?_, ?_, x.handled, ?_⟩
  · have := x.depth
    show A.depth + Code.weight (.builtin "type.__call__" ⟨.ref C :: rest, []⟩) + 3 * k ≤ 990
    lia
  · have := x.units
    show A.units + (1 + 3 * 0) + 40 * k ≤ 9800
    lia
  · exact x.frames
theorem c_cls (G₀ : GOk g) {C fI : Addr} {vs : List V} (hC : makesIn g.K C = true) (hi : findIn g.K (.ref C) "__init__" = some (some (.ref fI))) (hf : typeIn g.K (.ref fI) = some (.type "function"))
    (h : ∀ a d, σ a = none → σ d = none → a ≠ d → CF prog g k (.ref fI) (.ref a :: vs) (fun v σ' => v = .none ∧ Q (.ref a) σ') X (upd (upd σ d (.shadow a)) a (.inst C d []))) : CF prog g (k + 1) (.ref C) vs Q X σ := by
  intro A envs b s u us cx ru rs
  rw [VR] at ru
  subst ru
  have XK := G₀.K.keeps cx.inv.base
  obtain ⟨hh, gs, dr, t, os⟩ := s
  refine make_core (makes_of XK hC) (looks_findIn XK hi) (fun self => bind_fn XK self hf) (.inl rfl) ?_
  have e0 : σ hh.objs.size = none := cx.inv.fresh (Nat.le_refl _)
  have e1 : σ (hh.objs.size + 1) = none := cx.inv.fresh (Nat.le_succ _)
  have ne : hh.objs.size + 1 ≠ hh.objs.size := Nat.succ_ne_self _
  have low := base_le G₀ cx.inv
  have psz : ((hh.push emptyDict).push (instObj C hh.objs.size)).objs.size = hh.objs.size + 2 := by rw [Heap.size_push, Heap.size_push]
  have g1 : ((hh.push emptyDict).push (instObj C hh.objs.size)).get? hh.objs.size = some emptyDict := Heap.get?_push_of_some _ (Heap.get?_push_size _ rfl)
  have g2 : ((hh.push emptyDict).push (instObj C hh.objs.size)).get? (hh.objs.size + 1) = some (instObj C hh.objs.size) := by
    have := Heap.get?_push_size (hh.push emptyDict) (o := instObj C hh.objs.size) rfl
    rwa [Heap.size_push] at this
  have st := cx.inv.change (σ' := upd (upd σ hh.objs.size (.shadow (hh.objs.size + 1))) (hh.objs.size + 1) (.inst C hh.objs.size [])) (s' := ⟨(hh.push emptyDict).push (instObj C hh.objs.size), gs, dr, t, os⟩) (fun x => x = hh.objs.size ∨ x = hh.objs.size + 1) none
    (by show hh.objs.size ≤ _; rw [psz]; lia) (fun x o e _ _ => Heap.get?_push_of_some _ (Heap.get?_push_of_some _ e)) (fun _ q => by cases q) (fun x hx => .inr (by show hh.objs.size ≤ x; rcases hx with rfl | rfl; exact Nat.le_refl _; exact Nat.le_succ _)) (fun x hx => by rcases hx with rfl | rfl; exact low; exact Nat.le_succ_of_le low)
    (fun x hx => by rw [upd_ne (fun z => hx (.inr z)), upd_ne (fun z => hx (.inl z))]) (fun a C' d' fs' hn e hx => ?_) rfl rfl (fun st a o hx e => ?_) (fun d' y hn e => ?_)
  · have hcv := h (hh.objs.size + 1) hh.objs.size e1 e0 ne
    have cx' : Cx g k (A.under (.builtin "type.__call__" ⟨.ref C :: us, []⟩)) envs b _ _ := ⟨cx.ok.under, st.2, cx.outs.step st.1, cx.bs.step st.1 st.2, cx.apart, cx.ne⟩
    have cc := hcv _ envs b _ (.ref fI) (.ref (hh.objs.size + 1) :: us) cx' (by rw [VR]) (by rw [VRs]; exact ⟨_, us, rfl, by rw [VR], rs.step st.1⟩)
    refine codeAny_mono cc fun r s' hx => ?_
    unfold InitBack
    cases r with
    | error e => exact hx.pre st.1
    | ok f =>
      cases f with
      | ret v =>
        obtain ⟨w, σ', st', I', r, rfl, hq⟩ := hx
        rw [VR] at r
        exact ⟨r, .ref (hh.objs.size + 1), σ', st.1.trans st', I', by rw [VR], hq⟩
      | _ => exact hx
  · obtain ⟨z, _⟩ := cx.inv.obj a _ e
    rcases hx with rfl | rfl
    · rw [e0] at z; cases z
    · rw [e1] at z; cases z
  · rcases hx with rfl | rfl
    · rw [upd_ne (Ne.symm ne), upd_self] at e; cases e
      exact ⟨C, [], upd_self ..⟩
    · rw [upd_self] at e; cases e
      exact ⟨by rw [upd_ne (Ne.symm ne), upd_self], g2, [], 0, g1, by rw [FR]⟩
  · obtain ⟨C', fs', z⟩ := cx.inv.obj d' _ e
    refine ⟨C', fs', ?_⟩
    rw [upd_ne (fun w => by rw [w, e1] at z; cases z), upd_ne (fun w => by rw [w, e0] at z; cases z)]
    exact z
end
end
section
section
variable {k : Nat} {Q : V → Store → Prop} {X : Addr → Prop} {σ : Store}
theorem pv_tok {s : Shared} {v : V} {u : Value} {tk : Nat} (I : Inv g σ s) (r : VR σ s.heap v u) (h : Q v σ) : PV g Q σ s u { s with toks := tk } := by
  have st := I.toks (s' := { s with toks := tk }) rfl rfl rfl
  exact ⟨v, σ, st.1, st.2, r, h⟩
theorem pb_tok {s : Shared} {b : Bool} {QB : Bool → Store → Prop} {tk : Nat} (I : Inv g σ s) (h : QB b σ) : PB g QB σ s b { s with toks := tk } := by
  have st := I.toks (s' := { s with toks := tk }) rfl rfl rfl
  exact ⟨σ, st.1, st.2, h⟩
theorem pv_heap {s : Shared} {v : V} {u : Value} {h' : Heap} {tk : Nat} (I : Inv g σ s) (sz : s.heap.objs.size ≤ h'.objs.size) (hk : ∀ b o, s.heap.get? b = some o → h'.get? b = some o)
    (r : ∀ st : Stp σ s σ { s with heap := h', toks := tk }, VR σ h' v u) (h : Q v σ) : PV g Q σ s u { s with heap := h', toks := tk } := by
  have st := I.grow (s' := { s with heap := h', toks := tk }) sz hk rfl rfl
  exact ⟨v, σ, st.1, st.2, r st.1, h⟩
theorem ov1 {v : V} {t : Value → Sem Value} (h : ∀ A envs b s u, Cx g k A envs b σ s → VR σ s.heap v u → wpAny (model prog g.w) A (t u) (PV g Q σ s) (PX g X b envs σ s) s) {t' : List Value → Sem Value} (e : ∀ u, t' [u] = t u := by intro _; rfl) : OV prog g k [v] t' Q X σ := by
  intro A envs b s us cx r
  rw [VRs] at r
  obtain ⟨u, _, rfl, r, r'⟩ := r
  rw [VRs] at r'
  subst r'
  rw [e]
  exact h A envs b s u cx r
theorem ov2 {v w : V} {t : Value → Value → Sem Value} (h : ∀ A envs b s u u', Cx g k A envs b σ s → VR σ s.heap v u → VR σ s.heap w u' → wpAny (model prog g.w) A (t u u') (PV g Q σ s) (PX g X b envs σ s) s) {t' : List Value → Sem Value} (e : ∀ u u', t' [u, u'] = t u u' := by intro _ _; rfl) : OV prog g k [v, w] t' Q X σ := by
  intro A envs b s us cx r
  rw [VRs] at r
  obtain ⟨u, _, rfl, r, r'⟩ := r
  rw [VRs] at r'
  obtain ⟨u', _, rfl, r', r''⟩ := r'
  rw [VRs] at r''
  subst r''
  rw [e]
  exact h A envs b s u u' cx r r'
theorem ob1 {v : V} {t : Value → Sem Bool} {QB : Bool → Store → Prop} (h : ∀ A envs b s u, Cx g k A envs b σ s → VR σ s.heap v u → wpAny (model prog g.w) A (t u) (PB g QB σ s) (PX g X b envs σ s) s) {t' : List Value → Sem Bool} (e : ∀ u, t' [u] = t u := by intro _; rfl) : OB prog g k [v] t' QB X σ := by
  intro A envs b s us cx r
  rw [VRs] at r
  obtain ⟨u, _, rfl, r, r'⟩ := r
  rw [VRs] at r'
  subst r'
  rw [e]
  exact h A envs b s u cx r
theorem cv1 {n : String} {v : V} (h : ∀ A envs b s u, Cx g k A envs b σ s → VR σ s.heap v u → wpAny (model prog g.w) A (call (.builtin n) [u]) (PV g Q σ s) (PX g X b envs σ s) s) : CV prog g k (.bi n) [v] Q X σ := by
  intro A envs b s f us cx rf r
  rw [VR] at rf
  subst rf
  rw [VRs] at r
  obtain ⟨u, _, rfl, r, r'⟩ := r
  rw [VRs] at r'
  subst r'
  exact h A envs b s u cx r
theorem cvt1 {n : String} {v : V} (h : ∀ A envs b s u, Cx g k A envs b σ s → VR σ s.heap v u → wpAny (model prog g.w) A (call (.type n) [u]) (PV g Q σ s) (PX g X b envs σ s) s) : CV prog g k (.typ n) [v] Q X σ := by
  intro A envs b s f us cx rf r
  rw [VR] at rf
  subst rf
  rw [VRs] at r
  obtain ⟨u, _, rfl, r, r'⟩ := r
  rw [VRs] at r'
  subst r'
  exact h A envs b s u cx r
theorem cv2 {n : String} {v w : V} (h : ∀ A envs b s u u', Cx g k A envs b σ s → VR σ s.heap v u → VR σ s.heap w u' → wpAny (model prog g.w) A (call (.builtin n) [u, u']) (PV g Q σ s) (PX g X b envs σ s) s) : CV prog g k (.bi n) [v, w] Q X σ := by
  intro A envs b s f us cx rf r
  rw [VR] at rf
  subst rf
  rw [VRs] at r
  obtain ⟨u, _, rfl, r, r'⟩ := r
  rw [VRs] at r'
  obtain ⟨u', _, rfl, r', r''⟩ := r'
  rw [VRs] at r''
  subst r''
  exact h A envs b s u u' cx r r'
theorem VR.int' {σ : Store} {h : Heap} {i : Int} {u : Value} (r : VR σ h (.int i) u) : ∃ t, u = .int i t := by rw [VR] at r; exact r
theorem VR.str' {σ : Store} {h : Heap} {x : Str} {u : Value} (r : VR σ h (.str x) u) : ∃ t, u = .str x t := by rw [VR] at r; exact r
theorem vint {σ : Store} {h : Heap} {i : Int} {t : Tok} : VR σ h (.int i) (.int i t) := by rw [VR]; exact ⟨t, rfl⟩
theorem vstr {σ : Store} {h : Heap} {x : Str} {t : Tok} : VR σ h (.str x) (.str x t) := by rw [VR]; exact ⟨t, rfl⟩
theorem vbool {σ : Store} {h : Heap} {b : Bool} : VR σ h (.bool b) (.bool b) := by rw [VR]
theorem o_add {a b : Int} (h : Q (.int (a + b)) σ) : OV prog g k [.int a, .int b] (binA .Add) Q X σ := by
  refine ov2 fun A envs b s u u' cx r r' => ?_
  obtain ⟨t, rfl⟩ := r.int'
  obtain ⟨t', rfl⟩ := r'.int'
  exact PyProof.Rows.add_int (pv_tok cx.inv vint h)
theorem o_sub {a b : Int} (h : Q (.int (a - b)) σ) : OV prog g k [.int a, .int b] (binA .Sub) Q X σ := by
  refine ov2 fun A envs b s u u' cx r r' => ?_
  obtain ⟨t, rfl⟩ := r.int'
  obtain ⟨t', rfl⟩ := r'.int'
  exact PyProof.Rows.sub_int (pv_tok cx.inv vint h)
theorem o_mul {a b : Int} (hm : IntMulOk a b) (h : Q (.int (a * b)) σ) : OV prog g k [.int a, .int b] (binA .Mult) Q X σ := by
  refine ov2 fun A envs b s u u' cx r r' => ?_
  obtain ⟨t, rfl⟩ := r.int'
  obtain ⟨t', rfl⟩ := r'.int'
  exact PySem.P.mul_int (pv_tok cx.inv vint h) hm
theorem o_mod {a b : Int} (hb : b ≠ 0) (h : Q (.int (a.fmod b)) σ) : OV prog g k [.int a, .int b] (binA .Mod) Q X σ := by
  refine ov2 fun A envs b s u u' cx r r' => ?_
  obtain ⟨t, rfl⟩ := r.int'
  obtain ⟨t', rfl⟩ := r'.int'
  exact PyProof.Rows.mod_int hb (pv_tok cx.inv vint h)
end
end
section
section
variable {k : Nat} {Q : V → Store → Prop} {QB : Bool → Store → Prop} {X : Addr → Prop} {σ : Store}
theorem pv_same {s : Shared} {v : V} {u : Value} (I : Inv g σ s) (r : VR σ s.heap v u) (h : Q v σ) : PV g Q σ s u s := ⟨v, σ, .refl .., I, r, h⟩
theorem pb_same {s : Shared} {b : Bool} (I : Inv g σ s) (h : QB b σ) : PB g QB σ s b s := ⟨σ, .refl .., I, h⟩
theorem o_fdiv {a b : Int} (hb : b ≠ 0) (hp : Builtin.divisionGoesByPylong a b = false) (h : Q (.int (a.fdiv b)) σ) : OV prog g k [.int a, .int b] (binA .FloorDiv) Q X σ := by
  refine ov2 fun A envs b s u u' cx r r' => ?_
  obtain ⟨t, rfl⟩ := r.int'
  obtain ⟨t', rfl⟩ := r'.int'
  exact AutoIntOps.floordiv_1 (by simpa using hb) (by rw [hp]; decide) (pv_tok cx.inv vint h)
theorem o_pow {a n : Int} (hn : 0 ≤ n) (hsz : (Builtin.Int.intBits a : Int) * n ≤ 2 ^ 27) (h : Q (.int (a ^ n.toNat)) σ) : OV prog g k [.int a, .int n] (binA .Pow) Q X σ := by
  refine ov2 fun A envs b s u u' cx r r' => ?_
  obtain ⟨t, rfl⟩ := r.int'
  obtain ⟨t', rfl⟩ := r'.int'
  exact PyProof.Rows.pow_int hn hsz (pv_tok cx.inv vint h)
theorem o_neg {a : Int} (h : Q (.int (-a)) σ) : OV prog g k [.int a] (unA .USub) Q X σ := by
  refine ov1 fun A envs b s u cx r => ?_
  obtain ⟨t, rfl⟩ := r.int'
  exact P.neg_int (pv_tok cx.inv vint h)
theorem o_lt {a b : Int} (h : Q (.bool (decide (a < b))) σ) : OV prog g k [.int a, .int b] (cmpA .Lt) Q X σ := by
  refine ov2 fun A envs b s u u' cx r r' => ?_
  obtain ⟨t, rfl⟩ := r.int'
  obtain ⟨t', rfl⟩ := r'.int'
  exact P.lt_int (pv_same cx.inv vbool h)
theorem o_le {a b : Int} (h : Q (.bool (decide (a ≤ b))) σ) : OV prog g k [.int a, .int b] (cmpA .LtE) Q X σ := by
  refine ov2 fun A envs b s u u' cx r r' => ?_
  obtain ⟨t, rfl⟩ := r.int'
  obtain ⟨t', rfl⟩ := r'.int'
  exact P.le_int (pv_same cx.inv vbool h)
theorem o_gt {a b : Int} (h : Q (.bool (decide (a > b))) σ) : OV prog g k [.int a, .int b] (cmpA .Gt) Q X σ := by
  refine ov2 fun A envs b s u u' cx r r' => ?_
  obtain ⟨t, rfl⟩ := r.int'
  obtain ⟨t', rfl⟩ := r'.int'
  exact P.gt_int (pv_same cx.inv vbool h)
theorem o_ge {a b : Int} (h : Q (.bool (decide (a ≥ b))) σ) : OV prog g k [.int a, .int b] (cmpA .GtE) Q X σ := by
  refine ov2 fun A envs b s u u' cx r r' => ?_
  obtain ⟨t, rfl⟩ := r.int'
  obtain ⟨t', rfl⟩ := r'.int'
  exact P.ge_int (pv_same cx.inv vbool h)
theorem o_eqi {a b : Int} (h : Q (.bool (a == b)) σ) : OV prog g k [.int a, .int b] (cmpA .Eq) Q X σ := by
  refine ov2 fun A envs b s u u' cx r r' => ?_
  obtain ⟨t, rfl⟩ := r.int'
  obtain ⟨t', rfl⟩ := r'.int'
  exact P.eq_int (pv_same cx.inv vbool h)
theorem o_nei {a b : Int} (h : Q (.bool (a != b)) σ) : OV prog g k [.int a, .int b] (cmpA .NotEq) Q X σ := by
  refine ov2 fun A envs b s u u' cx r r' => ?_
  obtain ⟨t, rfl⟩ := r.int'
  obtain ⟨t', rfl⟩ := r'.int'
  exact P.ne_int (pv_same cx.inv vbool h)
theorem o_neb {a b : Bool} (h : Q (.bool (a != b)) σ) : OV prog g k [.bool a, .bool b] (cmpA .NotEq) Q X σ := by
  refine ov2 fun A envs b s u u' cx r r' => ?_
  rw [VR] at r r'
  subst r r'
  exact PyProof.Rows.ne_bool (pv_same cx.inv vbool h)
theorem o_eqb {a b : Bool} (h : Q (.bool (a == b)) σ) : OV prog g k [.bool a, .bool b] (cmpA .Eq) Q X σ := by
  refine ov2 fun A envs b s u u' cx r r' => ?_
  rw [VR] at r r'
  subst r r'
  exact PyProof.Rows.eq_bool (pv_same cx.inv vbool h)
theorem o_eqs {a b : Str} (h : Q (.bool (a == b)) σ) : OV prog g k [.str a, .str b] (cmpA .Eq) Q X σ := by
  refine ov2 fun A envs b s u u' cx r r' => ?_
  obtain ⟨t, rfl⟩ := r.str'
  obtain ⟨t', rfl⟩ := r'.str'
  exact PyProof.Rows.eq_str (pv_same cx.inv vbool h)
theorem o_nes {a b : Str} (h : Q (.bool (a != b)) σ) : OV prog g k [.str a, .str b] (cmpA .NotEq) Q X σ := by
  refine ov2 fun A envs b s u u' cx r r' => ?_
  obtain ⟨t, rfl⟩ := r.str'
  obtain ⟨t', rfl⟩ := r'.str'
  exact PyProof.Rows.ne_str (pv_same cx.inv vbool h)
theorem o_adds {x y : Str} (hl : x.length + y.length ≤ 1000000) (h : Q (.str (x ++ y)) σ) : OV prog g k [.str x, .str y] (binA .Add) Q X σ := by
  refine ov2 fun A envs b s u u' cx r r' => ?_
  obtain ⟨t, rfl⟩ := r.str'
  obtain ⟨t', rfl⟩ := r'.str'
  exact PyProof.Rows.add_str (fun t' tk => pv_tok cx.inv vstr h) (by rw [sizeLine_eq]; lia)
theorem o_ins {x y : Str} (h : Q (.bool !(Builtin.Str.occurrences x y 0 x.length 1).isEmpty) σ) : OV prog g k [.str y, .str x] (cmpA .In) Q X σ := by
  refine ov2 fun A envs b s u u' cx r r' => ?_
  obtain ⟨t, rfl⟩ := r.str'
  obtain ⟨t', rfl⟩ := r'.str'
  exact PyProof.Rows.in_str (pv_same cx.inv vbool h)
theorem o_nins {x y : Str} (h : Q (.bool (!(!(Builtin.Str.occurrences x y 0 x.length 1).isEmpty))) σ) : OV prog g k [.str y, .str x] (cmpA .NotIn) Q X σ := by
  refine ov2 fun A envs b s u u' cx r r' => ?_
  obtain ⟨t, rfl⟩ := r.str'
  obtain ⟨t', rfl⟩ := r'.str'
  exact PyProof.Rows.notIn_str (pv_same cx.inv vbool h)
noncomputable def isNone : V → Bool | .none => true | _ => false
theorem VR.none_iff {h : Heap} {v : V} {u : Value} (r : VR σ h v u) : (u == .none) = isNone v := by
  cases v <;> rw [VR] at r <;> first
    | (subst r; rfl)
    | (obtain ⟨_, rfl⟩ := r; rfl)
    | (obtain ⟨_, _, rfl, _⟩ := r; rfl)
    | (obtain ⟨_, _, _, _, rfl, _⟩ := r; rfl)
theorem o_is {v : V} (h : Q (.bool (isNone v)) σ) : OV prog g k [v, .none] (cmpA .Is) Q X σ := by
  refine ov2 fun A envs b s u u' cx r r' => ?_
  rw [VR] at r'
  subst r'
  refine PyProof.Rows.is_none_gen ?_
  rw [r.none_iff]
  exact pv_same cx.inv vbool h
theorem o_isnt {v : V} (h : Q (.bool (!isNone v)) σ) : OV prog g k [v, .none] (cmpA .IsNot) Q X σ := by
  refine ov2 fun A envs b s u u' cx r r' => ?_
  rw [VR] at r'
  subst r'
  refine PyProof.Rows.isnot_none_gen ?_
  rw [r.none_iff]
  exact pv_same cx.inv vbool h
theorem u_bool {b : Bool} (h : QB b σ) : OB prog g k [.bool b] truA QB X σ := by
  refine ob1 fun A envs b s u cx r => ?_
  rw [VR] at r
  subst r
  exact wpAny_truthy_bool (pb_same cx.inv h)
theorem u_none (h : QB false σ) : OB prog g k [.none] truA QB X σ := by
  refine ob1 fun A envs b s u cx r => ?_
  rw [VR] at r
  subst r
  exact truthy_none (pb_same cx.inv h)
theorem VRs.size {h : Heap} {vs : List V} {its : Array Value} (r : VRs σ h vs its.toList) : its.size = vs.length := by
  have := r.length
  simpa using this
theorem VRs.emp {h : Heap} {vs : List V} {its : Array Value} (r : VRs σ h vs its.toList) : its.isEmpty = vs.isEmpty := by
  have e := r.size
  cases vs with
  | nil => simp at e; simp [e]
  | cons v vs =>
    simp at e
    rw [List.isEmpty_cons]
    unfold Array.isEmpty
    simp [e]
theorem Inv.free {s : Shared} {h' : Heap} (I : Inv g σ s) (hk : ∀ b o, s.heap.get? b = some o → h'.get? b = some o) : σ h'.objs.size = none := by
  cases q : σ h'.objs.size with
  | none => rfl
  | some o =>
    obtain ⟨x, hx⟩ := I.there (a := h'.objs.size) (by rw [q]; intro z; cases z)
    exact absurd (Heap.lt_size (hk _ _ hx)) (Nat.lt_irrefl _)
noncomputable def Lst (v : V) (vs : List V) (σ : Store) : Prop := v = .lst vs ∨ ∃ a, v = .ref a ∧ σ a = some (.list vs)
theorem Lst.at {v : V} {vs : List V} {s : Shared} {u : Value} (x : Lst v vs σ) (I : Inv g σ s) (r : VR σ s.heap v u) : ∃ a its n, u = .ref a ∧ s.heap.get? a = some (listOf its n) ∧ VRs σ s.heap vs its.toList := by
  rcases x with rfl | ⟨a, rfl, e⟩
  · rw [VR] at r
    obtain ⟨a, its, rfl, _, ⟨n, hp⟩, rs⟩ := r
    exact ⟨a, its, n, rfl, hp, rs⟩
  · rw [VR] at r
    subst r
    obtain ⟨its, n, ho, rs⟩ := I.obj a _ e
    exact ⟨a, its, n, rfl, ho, rs⟩
theorem u_lst {v : V} {vs : List V} (hv : Lst v vs σ) (hl : vs.length ≤ 1000000) (h : QB (!vs.isEmpty) σ) : OB prog g k [v] truA QB X σ := by
  refine ob1 fun A envs b s u cx r => ?_
  obtain ⟨a, its, n, rfl, ho, rs⟩ := hv.at cx.inv r
  have e := rs.size
  refine wpAny_truthy_list (⟨_, ho, rfl, _, rfl⟩ : s.heap.IsList a its) (by lia) ?_
  rw [rs.emp]
  exact pb_tok cx.inv h
theorem c_len {v : V} {vs : List V} (hv : Lst v vs σ) (hl : vs.length ≤ 1000000) (h : Q (.int vs.length) σ) : CV prog g k (.bi "len") [v] Q X σ := by
  refine cv1 fun A envs b s u cx r => ?_
  obtain ⟨a, its, n, rfl, ho, rs⟩ := hv.at cx.inv r
  have e := rs.size
  refine call_len_list (⟨_, ho, rfl, _, rfl⟩ : s.heap.IsList a its) (by lia) ?_
  rw [e]
  exact pv_tok cx.inv vint h
theorem c_lenS {x : Str} (hl : x.length ≤ 1000000) (h : Q (.int x.length) σ) : CV prog g k (.bi "len") [.str x] Q X σ := by
  refine cv1 fun A envs b s u cx r => ?_
  obtain ⟨t, rfl⟩ := r.str'
  exact PyProof.Rows.len_str (by lia) (pv_tok cx.inv vint h)
theorem c_ord {c : Nat} (h : Q (.int c) σ) : CV prog g k (.bi "ord") [.str ⟨#[c]⟩] Q X σ := by
  refine cv1 fun A envs b s u cx r => ?_
  obtain ⟨t, rfl⟩ := r.str'
  exact PySem.P.ord_of_char (pv_tok cx.inv vint h)
theorem c_min {a b : Int} (h : Q (.int (if b < a then b else a)) σ) : CV prog g k (.bi "min") [.int a, .int b] Q X σ := by
  refine cv2 fun A envs b' s u u' cx r r' => ?_
  obtain ⟨t, rfl⟩ := r.int'
  obtain ⟨t', rfl⟩ := r'.int'
  refine wpAny_size (PySem.min_two_ints cx.ok.handled fun h' tk hk sz => ?_)
  refine pv_heap (v := .int (if b < a then b else a)) cx.inv sz hk (fun _ => ?_) h
  split <;> exact vint
theorem c_str {a : Int} (h0 : -1000000 ≤ a) (h1 : a ≤ 1000000) (h : Q (.str (Str.ofString (toString a))) σ) : CV prog g k (.typ "str") [.int a] Q X σ := by
  refine cvt1 fun A envs b s u cx r => ?_
  obtain ⟨t, rfl⟩ := r.int'
  refine str_of_int_fit (N := 1000001) (by split <;> lia) (by decide) fun _ => pv_tok cx.inv vstr h
theorem c_range {n : Int} (h : Q (.rng 0 n) σ) : CV prog g k (.typ "range") [.int n] Q X σ := by
  refine cvt1 fun A envs b s u cx r => ?_
  obtain ⟨t, rfl⟩ := r.int'
  refine PySem.call_range_1 ?_
  refine pv_heap cx.inv (by rw [Heap.size_push]; exact Nat.le_succ _) (fun b o e => Heap.get?_push_of_some _ e) (fun st => ?_) h
  rw [VR]
  exact ⟨_, _, _, _, rfl, cx.inv.fresh (Nat.le_refl _), IsRange.new ..⟩
theorem c_tuple {v : V} {vs : List V} (hv : Lst v vs σ) (hl : vs.length ≤ 1000000) (h : Q (.tup vs) σ) : CV prog g k (.typ "tuple") [v] Q X σ := by
  refine cvt1 fun A envs b s u cx r => ?_
  obtain ⟨a, its, n, rfl, ho, rs⟩ := hv.at cx.inv r
  have e := rs.size
  obtain ⟨L, m, F, fL⟩ := cx.fr
  refine wpAny_size (call_tuple_list (⟨_, ho, rfl, _, rfl⟩ : s.heap.IsList a its) (fun h' hk sz => ?_) (by rw [sizeLine_eq]; lia))
  have hk' : ∀ b o, s.heap.get? b = some o → (h'.push { cls := .type "tuple", data := .seq its }).get? b = some o := fun b o e => Heap.get?_push_of_some _ (hk b o e)
  refine pv_heap cx.inv sz hk' (fun st => ?_) h
  rw [VR]
  exact ⟨_, its, rfl, cx.inv.free hk, ⟨_, Heap.get?_push_size _ rfl, rfl, 0, rfl⟩, rs.via st.via⟩
end
end
section
section
variable {k : Nat} {c : FC} {loc : Loc} {P : Post} {Q : V → Store → Prop} {QB : Bool → Store → Prop} {X : Addr → Prop} {σ : Store}
theorem Inv.one {s s' : Shared} (I : Inv g σ s) {a : Addr} {x y : O} (hx : σ a = some x) (nx : (∀ C d fs, x ≠ .inst C d fs) ∧ ∀ z, x ≠ .shadow z) (size : s.heap.objs.size ≤ s'.heap.objs.size)
    (hk : ∀ b o, b ≠ a → s.heap.get? b = some o → s'.heap.get? b = some o) (gens : s'.gens = s.gens) (os : s'.os = s.os)
    (ho : Stp σ s (upd σ a y) s' → OR g.w (upd σ a y) s'.heap a y) : Stp σ s (upd σ a y) s' ∧ Inv g (upd σ a y) s' := by
  refine I.change (fun b => b = a) none size (fun b o e n _ => hk b o n e) (fun _ q => by cases q) (fun x q => .inl (by rw [q, hx]; intro z; cases z)) (fun x q => I.low x (by rw [q, hx]; intro z; cases z)) (fun x n => upd_ne n) (fun b C d fs n e q => ?_) gens os (fun st b o q e => ?_) (fun d z n e => ?_)
  · obtain ⟨h1, _⟩ := I.obj b _ e
    rw [q, hx] at h1
    cases h1
    exact nx.2 _ rfl
  · subst q
    rw [upd_self] at e; cases e
    exact ho st
  · obtain ⟨C, fs, q⟩ := I.obj d _ e
    refine ⟨C, fs, ?_⟩
    rw [upd_ne (fun w => by rw [w, hx] at q; cases q; exact nx.1 _ _ _ rfl)]
    exact q
theorem nlist {vs : List V} : (∀ C d fs, O.list vs ≠ .inst C d fs) ∧ ∀ z, O.list vs ≠ .shadow z := ⟨(by intro _ _ _ z; cases z), (by intro _ z; cases z)⟩
theorem ndict {vs : List (Str × V)} {n : Nat} : (∀ C d fs, O.dict vs n ≠ .inst C d fs) ∧ ∀ z, O.dict vs n ≠ .shadow z := ⟨(by intro _ _ _ z; cases z), (by intro _ z; cases z)⟩
theorem m_list {v : V} {vs : List V} {x : Str} {id : String} {PM : V → List V → Store → Prop} (hv : Lst v vs σ) (slot : Slot "list" x id) (hty : typeOf (.builtin id) = pure (.type "method_descriptor")) (h : PM (.bi id) [v] σ) : GM prog g k v x PM X σ := by
  intro A envs b s u pl cx r
  obtain ⟨a, its, n, rfl, ho, rs⟩ := hv.at cx.inv r
  refine getMethod_builtin ⟨_, ho, rfl⟩ PySem.F.plainAttrs_list slot hty (fun a e => by cases e; exact ⟨_, ho, rfl⟩) ?_
  exact ⟨.bi id, [v], σ, .refl .., cx.inv, by rw [VR], VRs1 r, h⟩
theorem m_str {y x : Str} {id : String} {PM : V → List V → Store → Prop} (slot : Slot "str" x id) (hty : typeOf (.builtin id) = pure (.type "method_descriptor")) (h : PM (.bi id) [.str y] σ) : GM prog g k (.str y) x PM X σ := by
  intro A envs b s u pl cx r
  obtain ⟨t, rfl⟩ := r.str'
  refine getMethod_builtin (typeIs_str _ _ _) PySem.F.plainAttrs_str slot hty (fun a e => by cases e) ?_
  exact ⟨.bi id, [.str y], σ, .refl .., cx.inv, by rw [VR], VRs1 r, h⟩
theorem VRs.push {h : Heap} {vs : List V} {us : List Value} {v : V} {u : Value} (r : VRs σ h vs us) (r' : VR σ h v u) : VRs σ h (vs ++ [v]) (us ++ [u]) := VRs.app r (VRs1 r')
theorem c_append {a : Addr} {vs : List V} {v : V} (hσ : σ a = some (.list vs)) (hl : vs.length ≤ 1000000) (h : Q .none (upd σ a (.list (vs ++ [v])))) : CV prog g k (.bi "list.append") [.ref a, v] Q X σ := by
  refine cv2 fun A envs b s u u' cx r r' => ?_
  rw [VR] at r
  subst r
  obtain ⟨its, n, ho, rs⟩ := cx.inv.obj a _ hσ
  have e := rs.size
  refine wpAny_size (wpAny_list_append_plain (⟨n, ho⟩ : s.heap.PlainList a its) (fun h' hp hs sz => ?_) (by rw [sizeLine_eq]; lia))
  obtain ⟨n', hp⟩ := hp
  have st := cx.inv.one (s' := { s with heap := h' }) (y := .list (vs ++ [v])) hσ nlist sz (fun b o ne e => (hs.2 b ne).trans e) rfl rfl fun st => ⟨_, n', hp, by
    have := (VRs.push rs r').step st
    simpa using this⟩
  exact ⟨.none, _, st.1, st.2, by rw [VR], h⟩
theorem VRs.last {h : Heap} {v : V} : ∀ {vs : List V} {us : List Value}, VRs σ h (vs ++ [v]) us → ∃ us' u, us = us' ++ [u] ∧ VRs σ h vs us' ∧ VR σ h v u
  | [], us, r => by
    rw [List.nil_append, VRs] at r
    obtain ⟨u, _, rfl, a, b⟩ := r
    rw [VRs] at b
    subst b
    exact ⟨[], u, rfl, by rw [VRs], a⟩
  | w :: vs, us, r => by
    rw [List.cons_append, VRs] at r
    obtain ⟨u, us', rfl, a, b⟩ := r
    obtain ⟨us'', u', rfl, c, d⟩ := VRs.last b
    exact ⟨u :: us'', u', rfl, by rw [VRs]; exact ⟨u, us'', rfl, a, c⟩, d⟩
theorem c_pop {a : Addr} {vs : List V} {v : V} (hσ : σ a = some (.list (vs ++ [v]))) (hl : vs.length ≤ 100000) (h : Q v (upd σ a (.list vs))) : CV prog g k (.bi "list.pop") [.ref a] Q X σ := by
  refine cv1 fun A envs b s u cx r => ?_
  rw [VR] at r
  subst r
  obtain ⟨its, n, ho, rs⟩ := cx.inv.obj a _ hσ
  have e := rs.size
  rw [List.length_append, List.length_singleton] at e
  obtain ⟨us, u, hu, r1, r2⟩ := rs.last
  have ei : its = (us ++ [u]).toArray := by rw [← hu, Array.toArray_toList]
  subst ei
  have lu := r1.length
  have hk : (us ++ [u]).toArray.size - 1 = us.length := by rw [List.size_toArray, List.length_append]; rfl
  have hy : (us ++ [u]).toArray[(us ++ [u]).toArray.size - 1]? = some u := by rw [hk]; simp
  refine wpAny_size (call_meets PySem.F.slot_list_pop ⟨_, ho, rfl⟩ PySem.F.entry_list_pop (PySem.F.args_list_pop_1 _) (PySem.MeetsSeq.list_pop_last a _ n u hy (by rw [sizeLine_eq]; lia)) ⟨ho, ?_⟩)
  intro sz
  have hq := PySem.IsL.update (show PySem.IsL s.heap a (us ++ [u]).toArray n from ho) (fun xs => xs.eraseIdxIfInBounds ((us ++ [u]).toArray.size - 1))
  have e1 : (us ++ [u]).toArray.eraseIdxIfInBounds ((us ++ [u]).toArray.size - 1) = us.toArray := by rw [hk, kl_erase, List.append_nil]
  rw [e1] at hq
  have st := cx.inv.one (s' := { s with heap := s.heap.update a (Obj.mapSeq fun xs => xs.eraseIdxIfInBounds ((us ++ [u]).toArray.size - 1)) }) (y := .list vs) hσ nlist sz (fun b o ne e => (Heap.get?_update_other _ _ (Ne.symm ne)).trans e) rfl rfl fun st => ⟨_, _, hq, r1.step st⟩
  exact ⟨v, _, st.1, st.2, r2.step st.1, h⟩
end
end
section
section
variable {k : Nat} {c : FC} {loc : Loc} {P : Post} {Q : V → Store → Prop} {QB : Bool → Store → Prop} {X : Addr → Prop} {σ : Store}
noncomputable abbrev subA (v i : Expr) : List Value → Sem Value := fun us => match us with | [x, y] => subscriptTail v i x y | _ => unsupported ""
theorem e_sub {v i : Expr} {p : Pos} (h : TE prog g k c loc v (KE prog g k c loc i (subA v i) Q X) X σ) : TE prog g k c loc (.Subscript v i p) Q X σ := by
  intro A envs b s cx F
  exact Subscript_ (wp_then h cx F fun u w σ₁ s₁ st cx₁ F₁ r₁ h₁ => wp_pre st cx (wp_then h₁ cx₁ F₁ fun u₂ v₂ σ₂ s₂ st₂ cx₂ F₂ r₂ h₂ => wp_op h₂ cx cx₂ (VRs2 (VR.step st₂ r₁) r₂) (st.trans st₂)))
noncomputable def Plain (i : Expr) : Prop := ∀ o j, subscripted i false o j = operate [o, j] (getItem o j)
noncomputable def At (vs : List V) (i : Int) (v : V) : Prop := vs[(if i < 0 then i + vs.length else i).toNat]? = some v ∧ -(vs.length : Int) ≤ i
theorem i_lst {ve i : Expr} {l : V} {vs : List V} {n : Int} {v : V} (hp : Plain i) (hv : Lst l vs σ) (hl : vs.length ≤ 1000000) (ha : At vs n v) (h : Q v σ) : OV prog g k [l, .int n] (subA ve i) Q X σ := by
  refine ov2 fun A envs b s u u' cx r r' => ?_
  obtain ⟨t', rfl⟩ := r'.int'
  obtain ⟨a, its, m, rfl, ho, rs⟩ := hv.at cx.inv r
  have e := rs.size
  have hL : s.heap.IsList a its := ⟨_, ho, rfl, _, rfl⟩
  obtain ⟨ha, lo⟩ := ha
  obtain ⟨u, hu, ru⟩ := VRs.get rs ha
  have hu' : its[(if n < 0 then n + vs.length else n).toNat]? = some u := by simpa using hu
  have lt := (Array.getElem?_eq_some_iff.mp hu').1
  refine tail_any hL.typeIs slot_list_getitem.lookup ?_ (hp _ _)
  by_cases hn : n < 0
  · rw [if_pos hn] at hu' lt
    exact wpAny_getItem_list_neg hL hn (by lia) (by lia) (by rw [e]; exact hu') (pv_same cx.inv ru h)
  · rw [if_neg hn] at hu' lt
    exact wpAny_getItem_list hL (by lia) (by lia) hu' (pv_same cx.inv ru h)
theorem i_tup {ve i : Expr} {vs : List V} {n : Int} {v : V} (hp : Plain i) (hl : vs.length ≤ 1000000) (ha : At vs n v) (h : Q v σ) : OV prog g k [.tup vs, .int n] (subA ve i) Q X σ := by
  refine ov2 fun A envs b s u u' cx r r' => ?_
  obtain ⟨t', rfl⟩ := r'.int'
  rw [VR] at r
  obtain ⟨a, its, rfl, _, ht, rs⟩ := r
  have e := rs.size
  obtain ⟨ha, lo⟩ := ha
  obtain ⟨u, hu, ru⟩ := VRs.get rs ha
  have hu' : its[(if n < 0 then n + vs.length else n).toNat]? = some u := by simpa using hu
  have lt := (Array.getElem?_eq_some_iff.mp hu').1
  have ho := ht
  obtain ⟨o, ho, hc, _⟩ := ho
  refine tail_any (T := "tuple") ⟨o, ho, hc⟩ slot_tuple_getitem.lookup (getItem_tuple (j := (if n < 0 then n + vs.length else n).toNat) ht (by lia) ?_ ?_ hu' (pv_same cx.inv ru h)) (hp _ _)
  · split at lt <;> lia
  · unfold seqIndex?
    rw [e]
    split at lt
    · rename_i hn
      simp only [hn, if_true]
      rw [if_pos (by rw [Bool.and_eq_true, decide_eq_true_eq, decide_eq_true_eq]; lia)]
    · rename_i hn
      simp only [hn, if_false]
      rw [if_pos (by rw [Bool.and_eq_true, decide_eq_true_eq, decide_eq_true_eq]; lia)]
theorem i_str {ve i : Expr} {x : Str} {n : Int} {ch : Nat} (hp : Plain i) (hl : x.length ≤ 1000000) (hc : (seqIndex? n x.length).bind (x.cps[·]?) = some ch) (lo : -1000000 ≤ n) (hi : n ≤ 1000000) (h : Q (.str ⟨#[ch]⟩) σ) : OV prog g k [.str x, .int n] (subA ve i) Q X σ := by
  refine ov2 fun A envs b s u u' cx r r' => ?_
  obtain ⟨t, rfl⟩ := r.str'
  obtain ⟨t', rfl⟩ := r'.int'
  refine tail_any (typeIs_str _ _ _) slot_str_getitem.lookup (PyProof.Rows.getItem_str ?_ hc (pv_tok cx.inv vstr h)) (hp _ _)
  rw [Bool.or_eq_false_iff, decide_eq_false_iff_not, decide_eq_false_iff_not]
  lia
theorem o_addl {v w : V} {vs ws : List V} (hv : Lst v vs σ) (hw : Lst w ws σ) (hl : vs.length + ws.length ≤ 1000000) (h : Q (.lst (vs ++ ws)) σ) : OV prog g k [v, w] (binA .Add) Q X σ := by
  refine ov2 fun A envs b s u u' cx r r' => ?_
  obtain ⟨a, its, n, rfl, ho, rs⟩ := hv.at cx.inv r
  obtain ⟨a', its', n', rfl, ho', rs'⟩ := hw.at cx.inv r'
  have e := rs.size
  have e' := rs'.size
  refine P.add_list ho ho' ?_ (by rw [sizeLine_eq]; lia)
  refine pv_heap (tk := s.toks) cx.inv (size_push _ _) (fun b o e => Heap.get?_push_of_some _ e) (fun st => ?_) h
  rw [VR]
  refine ⟨_, its ++ its', rfl, cx.inv.fresh (Nat.le_refl _), ⟨0, Heap.get?_push_size _ rfl⟩, ?_⟩
  rw [Array.toList_append]
  exact (VRs.app rs rs').via st.via
theorem setI {h : Heap} {v : V} {u : Value} : ∀ {vs : List V} {us : List Value} {i : Nat}, VRs σ h vs us → VR σ h v u → VRs σ h (vs.set i v) (us.set i u)
  | [], us, i, r, _ => by rw [VRs] at r; subst r; simp [VRs]
  | w :: vs, us, 0, r, r' => by
    rw [VRs] at r
    obtain ⟨y, ys, rfl, a, b⟩ := r
    rw [List.set_cons_zero, List.set_cons_zero, VRs]
    exact ⟨u, ys, rfl, r', b⟩
  | w :: vs, us, i + 1, r, r' => by
    rw [VRs] at r
    obtain ⟨y, ys, rfl, a, b⟩ := r
    rw [List.set_cons_succ, List.set_cons_succ, VRs]
    exact ⟨y, _, rfl, a, setI b r'⟩
theorem s_setitem {o i e : Expr} {pos' pos : Pos} (h : TE prog g k c loc e (fun v σ₁ => TE prog g k c loc o (fun w σ₂ => TE prog g k c loc i (fun j σ₃ => ∃ a vs n, w = .ref a ∧ j = .int (n : Nat) ∧ σ₃ a = some (.list vs) ∧ n < vs.length ∧ vs.length ≤ 1000000 ∧
      P.nx loc (upd σ₃ a (.list (vs.set n v)))) X σ₂) X σ₁) X σ) (hs : ∀ env, swapsWith e (some (.Subscript o i pos')) pos.line env = pure false := by intro _; rfl) : TS prog g k c loc (.Assign [.Subscript o i pos'] e pos) P X σ := by
  intro A envs b s W cx F
  refine wpAny_Assign_Subscript (wpE_then h cx F fun u v σ₁ s₁ st₁ cx₁ F₁ r₁ q => ?_) (hs _)
  refine wp_pre st₁ cx (wpE_then q cx₁ F₁ fun u₂ w σ₂ s₂ st₂ cx₂ F₂ r₂ q => ?_)
  refine wp_pre (st₁.trans st₂) cx (wpE_then q cx₂ F₂ fun u₃ j σ₃ s₃ st₃ cx₃ F₃ r₃ q => ?_)
  obtain ⟨a, vs, n, rfl, rfl, hσ, hn, hl, q⟩ := q
  rw [VR] at r₂
  subst r₂
  obtain ⟨t, rfl⟩ := r₃.int'
  obtain ⟨its, m, ho, rs⟩ := cx₃.inv.obj a _ hσ
  have es := rs.size
  refine ki_setAt ho (by lia) (by lia) (by lia) ?_
  have hq := PySem.IsL.update (show PySem.IsL s₃.heap a its m from ho) (fun xs => xs.setIfInBounds ((n : Int)).toNat u)
  have st₄ := cx₃.inv.one (s' := { s₃ with heap := s₃.heap.update a (Obj.mapSeq fun xs => xs.setIfInBounds ((n : Int)).toNat u) }) (y := .list (vs.set n v)) hσ nlist (by rw [size_update]; exact Nat.le_refl _)
    (fun b o ne e => (Heap.get?_update_other _ _ (Ne.symm ne)).trans e) rfl rfl fun st => ⟨_, _, hq, by
      have := (setI (i := n) rs (((r₁.step st₂).step st₃))).step st
      simpa using this⟩
  have st := ((st₁.trans st₂).trans st₃).trans st₄.1
  exact ⟨_, loc, st.toF F.fr, st₄.2, F.step st, q⟩
end
end
section
section
variable {k : Nat} {c : FC} {loc : Loc} {P : Post} {Q : V → Store → Prop} {QB : Bool → Store → Prop} {X : Addr → Prop} {σ : Store}
theorem VRs_strs {h : Heap} : ∀ (l : List (Str × Tok)), VRs σ h ((l.map (·.1)).map V.str) (strValues l)
  | [] => by show VRs σ h [] []; rw [VRs]
  | p :: l => by
    show VRs σ h (.str p.1 :: (l.map (·.1)).map V.str) (.str p.1 p.2 :: strValues l)
    rw [VRs]
    exact ⟨_, _, rfl, vstr, VRs_strs l⟩
open Builtin Builtin.Str in
theorem wp_split {A : Around} {E : Value → Shared → Prop} {s : Shared} {x y : Str} {t u : Tok} {Q : Value → Shared → Prop} {w : World} (hy : (y.length == 0) = false)
    (hq : ∀ l tk, l.map (·.1) = Txt.split x y → Q (.ref s.heap.objs.size) { s with heap := s.heap.push { cls := .type "list", data := .seq (strValues l).toArray }, toks := tk })
    (hsz : x.length ≤ sizeLine) (hsz2 : (partsBetween x (occurrences x y 0 x.length (x.length + 1)) y.length).length ≤ sizeLine) :
    wpAny (model prog w) A (call (.builtin "str.split") [.str x t, .str y u]) Q E s := by
  cases h1 : (decide (x.length < y.length) || decide (strKind x < strKind y))
  · cases hf : (occurrences x y 0 x.length (x.length + 1)).isEmpty
    · refine call_meets PySem.F.slot_str_split (typeIs_str _ _ _) PySem.F.entry_str_split (PySem.F.args_str_split_2 _ _) (meets_str_split_sep x y t u h1 hy hf hsz hsz2) ?_
      show wants Q E _ { s with toks := _, heap := s.heap.push { cls := .type "list", data := .seq (strsFrom s.toks (partsBetween x (occurrences x y 0 x.length (x.length + 1)) y.length)).toArray } }
      rw [strsFrom_eq]
      exact hq (numbered s.toks _) _ ((numbered_texts _ _).trans ((if_neg (ne_true_of_eq_false h1)).trans (if_neg (ne_true_of_eq_false hf))).symm)
    · exact call_meets PySem.F.slot_str_split (typeIs_str _ _ _) PySem.F.entry_str_split (PySem.F.args_str_split_2 _ _) (meets_str_split_not_found x y t u h1 hy hf)
        (hq [(x, t)] _ ((if_neg (ne_true_of_eq_false h1)).trans (if_pos hf)).symm)
  · exact call_meets PySem.F.slot_str_split (typeIs_str _ _ _) PySem.F.entry_str_split (PySem.F.args_str_split_2 _ _) (meets_str_split_cannot_occur x y t u h1)
      (hq [(x, t)] _ (if_pos h1).symm)
theorem cv2s {n : String} {x y : Str} (h : ∀ A envs b s t t', Cx g k A envs b σ s → wpAny (model prog g.w) A (call (.builtin n) [.str x t, .str y t']) (PV g Q σ s) (PX g X b envs σ s) s) : CV prog g k (.bi n) [.str x, .str y] Q X σ :=
  cv2 fun A envs b s u u' cx r r' => by
    obtain ⟨t, rfl⟩ := r.str'
    obtain ⟨t', rfl⟩ := r'.str'
    exact h A envs b s t t' cx
theorem c_split {x y : Str} (hy : y.length ≠ 0) (hl : x.length ≤ 1000000) (h : Q (.lst ((Txt.split x y).map V.str)) σ) : CV prog g k (.bi "str.split") [.str x, .str y] Q X σ := by
  refine cv2s fun A envs b s t t' cx => ?_
  refine wp_split (by simpa using hy) (fun l tk e => ?_) (by rw [sizeLine_eq]; lia) ?_
  · refine pv_heap cx.inv (size_push _ _) (fun b o e => Heap.get?_push_of_some _ e) (fun st => ?_) h
    rw [VR]
    refine ⟨_, (strValues l).toArray, rfl, cx.inv.fresh (Nat.le_refl _), ⟨0, Heap.get?_push_size _ rfl⟩, ?_⟩
    rw [← e, List.toList_toArray]
    exact VRs_strs l
  · rw [length_partsBetween, sizeLine_eq]
    have := PySem.StrLaws.occ_length_le x y 0 x.length (x.length + 1)
    lia
theorem c_strip {x y : Str} (hl : x.length ≤ 1000000) (h : Q (.str (Txt.stripChars x y)) σ) : CV prog g k (.bi "str.strip") [.str x, .str y] Q X σ := by
  refine cv2s fun A envs b s t t' cx => ?_
  exact SC.stripChars (fun t' tk => pv_tok cx.inv vstr h) (by rw [sizeLine_eq]; lia)
noncomputable def TEp (prog : Program) (g : G) (k : Nat) (c : FC) (loc : Loc) (e : Option Expr) (Q : Option Int → Store → Prop) (X : Addr → Prop) (σ : Store) : Prop := match e with
  | none => Q none σ
  | some e => TE prog g k c loc e (fun v σ' => ∃ i, v = .int i ∧ Q (some i) σ') X σ
theorem wp_part {e : Option Expr} {Q₁ : Option Int → Store → Prop} {A : Around} {envs : List Env} {b : Heap} {s : Shared} {Q' : Value → Shared → Prop} (h : TEp prog g k c loc e Q₁ X σ) (cx : Cx g k A envs b σ s) (F : Fm g c envs loc σ s.heap)
    (q : ∀ (i : Option (Int × Tok)) σ₁ s₁, Stp σ s σ₁ s₁ → Cx g k A envs b σ₁ s₁ → Fm g c envs loc σ₁ s₁.heap → Q₁ (i.map (·.1)) σ₁ → Q' (partValue i) s₁) : wpAny (model prog g.w) A (evalPart e c.env) Q' (PX g X b envs σ s) s := by
  cases e with
  | none =>
    rw [evalPart_none]
    exact wpAny_pure (q none σ s (.refl ..) cx F h)
  | some e =>
    rw [evalPart_some]
    refine wp_then h cx F fun u v σ₁ s₁ st cx₁ F₁ r h₁ => ?_
    obtain ⟨i, rfl, h₁⟩ := h₁
    obtain ⟨t, rfl⟩ := r.int'
    exact q (some (i, t)) σ₁ s₁ st cx₁ F₁ h₁
noncomputable def cut (x : Str) (l u : Option Int) : Str := if ((1 : Int) == 1 && (Builtin.Str.strSliceIndices l u 1 x.length).length == x.length) = true then x else ⟨((Builtin.Str.strSliceIndices l u 1 x.length).filterMap (x.cps[·]?)).toArray⟩
theorem Subscript_Slice {A : Around} {E : Value → Shared → Prop} {s : Shared} {env : Env} {value : Expr} {lower upper : Option Expr} {p pos : Pos} {Q : Value → Shared → Prop} {w : World}
    (h : wpAny (model prog w) A (eval value env) (fun o s₁ => wpAny (model prog w) A (eval (.Slice lower upper none p) env) (fun i s₂ => ∃ T id, typeLookup (.type T) "__getitem__" = pure (some (.builtin id)) ∧ s₂.TypeIs o T ∧ wpAny (model prog w) A (getItem o i) Q E s₂) E s₁) E s) :
    wpAny (model prog w) A (eval (.Subscript value (.Slice lower upper none p) pos) env) Q E s := by
  refine Subscript_ (wpAny_mono h (fun o s₁ h₁ => wpAny_mono h₁ (fun i s₂ h₂ => ?_) fun _ _ x => x) fun _ _ x => x)
  obtain ⟨T, id, hl, hT, h₂⟩ := h₂
  exact tail_any hT hl h₂ rfl
theorem e_slice {v : Expr} {l u : Option Expr} {p pos : Pos} (h : TE prog g k c loc v (fun o σ₁ => ∃ x, o = .str x ∧ x.length ≤ 1000000 ∧ TEp prog g k c loc l (fun i σ₂ => TEp prog g k c loc u (fun j σ₃ => Q (.str (cut x i j)) σ₃) X σ₂) X σ₁) X σ) : TE prog g k c loc (.Subscript v (.Slice l u none p) pos) Q X σ := by
  intro A envs b s cx F
  refine Subscript_Slice (wp_then h cx F fun u₁ w σ₁ s₁ st₁ cx₁ F₁ r₁ h₁ => wpAny_Slice ?_)
  obtain ⟨x, rfl, hx, h₁⟩ := h₁
  obtain ⟨t, rfl⟩ := r₁.str'
  refine wp_pre st₁ cx (wp_part h₁ cx₁ F₁ fun i σ₂ s₂ st₂ cx₂ F₂ h₂ => ?_)
  refine wp_pre (st₁.trans st₂) cx (wp_part h₂ cx₂ F₂ fun j σ₃ s₃ st₃ cx₃ F₃ h₃ => ?_)
  rw [evalPart_none]
  refine wpAny_pure ⟨"str", _, PySem.F.slot_str_getitem.lookup, typeIs_str _ _ _, ?_⟩
  refine wpAny_getItem_str_slice (l := i) (u := j) (st := none) ⟨_, Heap.get?_push_size _ rfl, rfl, rfl⟩ rfl ?_
  have fz := frz_push (o := { cls := .type "slice", data := .fields #[partValue i, partValue j, .none] }) cx₃.inv
  have st := ((st₁.trans st₂).trans st₃).trans fz.1
  have fin : ∀ (t' : Tok) (tk : Nat), PV g Q σ s (.str (cut x (i.map (·.1)) (j.map (·.1))) t') { s₃ with heap := s₃.heap.push { cls := .type "slice", data := .fields #[partValue i, partValue j, .none] }, toks := tk } := by
    intro t' tk
    have tk' := fz.2.toks (s' := { s₃ with heap := s₃.heap.push { cls := .type "slice", data := .fields #[partValue i, partValue j, .none] }, toks := tk }) rfl rfl rfl
    exact ⟨_, σ₃, st.trans tk'.1, tk'.2, vstr, h₃⟩
  unfold sliceMade
  refine post_val_or_made (fun _ => ?_) fin
  rw [sizeLine_eq]
  show ((slicePicked x i j none).filterMap (x.cps[·]?)).toArray.size ≤ _
  rw [List.size_toArray]
  have h1 := List.length_filterMap_le (x.cps[·]?) (slicePicked x i j none)
  have h2 : (slicePicked x i j none).length ≤ x.length := PySem.sliceIndices_le _ _ _
  lia
end
end
section
theorem nolen_kk : typeLookup (.type "dict_keyiterator") "__len__" = pure none := by rw [typeLookup_type, builtinLookup_eq_fast]; kernel_rfl
section
variable {A : Around} {E : Value → Shared → Prop} {s : Shared} {w : World} {I : Addr} {fp wr : List Addr} {G' : Array GenState → Array GenState → Prop} {n : Nat} {PP : Nat → Value → Prop} {St : Nat → Shared → Prop}
theorem collect_keys {Q : List Value → Shared → Prop}
    (W : WalksS prog w A.in1 I fp wr G' n PP St) (hT : ∀ i s, St i s → s.TypeIs (.ref I) "dict_keyiterator") (hst : St 0 s) (hfp : ∀ b ∈ fp, b < s.heap.objs.size) (hI : I ∈ fp)
    (hQ : ∀ s' acc, Moved wr G' s s' → ItemsOf PP acc n → Q acc.toList s') (hn : n ≤ sizeLine) : wpAny (model prog w) A (collect (.ref I)) Q E s := by
  have hSf : s.heap.objs.size ∉ fp := fun hm => Nat.lt_irrefl _ (hfp _ hm)
  have hSI : s.heap.objs.size ≠ I := fun e => hSf (e ▸ hI)
  unfold collect
  refine wpAny_bind (wpAny_runValue (codeAny_builtin PySem.F.entry_proto_collect ?_))
  rw [Around.under_plainId PySem.F.plain_proto_collect _]
  show wpAny _ A.in1 (newList [] >>= fun l => again (.builtin "list.__iadd__" ⟨[l, .ref I], []⟩)) _ _ s
  refine wpAny_bind (wpAny_newObj_type ?_)
  refine wpAny_pure ⟨plainId_quiet PySem.F.plain_list_iadd _, codeAny_builtin PySem.F.entry_list_iadd ?_⟩
  rw [Around.under_plainId PySem.F.plain_list_iadd _]
  have hst₁ := W.frame 0 s (s.heap.push { cls := .type "list", data := .seq ([] : List Value).toArray }) s.toks hst (Nat.le_refl _) fun b _ o e => Heap.get?_push_of_some _ e
  have hS₁ : (s.heap.push { cls := .type "list", data := .seq ([] : List Value).toArray }).get? s.heap.objs.size = some { cls := .type "list", data := .seq ([] : List Value).toArray } := Heap.get?_push_size _ rfl
  have h1 : Builtin.List.listSameRef (.ref s.heap.objs.size) (.ref I) = false := by simp [Builtin.List.listSameRef, hSI]
  show wpAny _ A.in1 (Builtin.List.listExtendWith (.ref s.heap.objs.size) (.ref I) (.ref s.heap.objs.size)) _ _ _
  unfold Builtin.List.listExtendWith
  refine wpAny_bind (wpAny_typeOf (hT 0 _ hst₁) ?_)
  rw [if_neg (by rw [h1]; decide)]
  refine wpAny_bind (W.self 0 _ _ _ hst₁ ?_)
  refine wpAny_bind (wpAny_holding ?_)
  unfold Builtin.List.listLengthHint
  refine wpAny_bind (wpAny_specialOf (hT 0 _ hst₁) nolen_kk ?_)
  show wpAny _ A.in1 (specialOf (Value.ref I) (Str.ofString "__length_hint__") >>= _) _ _ _
  refine wpAny_bind (wpAny_specialOf (hT 0 _ hst₁) PySem.F.slot_dict_keyiterator_length_hint.lookup ?_)
  generalize hid : ("dict_keyiterator.__length_hint__" : String) = id0
  wp_delta
  rw [show splitId id0 = some ("dict_keyiterator", "__length_hint__") from by subst hid; decide +kernel]
  subst hid
  refine wpAny_bind (wpAny_isInstance (b := true) (hT 0 _ hst₁) (by rw [isSubtype_type]; kernel_rfl) ?_)
  refine wpAny_pure ?_
  rw [if_neg (by decide)]
  refine wpAny_pure ⟨plainId_quiet PySem.F.plain_extend_loop _, codeAny_extend_loopS W hn _ hSf _ n 0 _ _ _ rfl (Nat.zero_le _) hst₁ hS₁ (ItemsOf.nil PP) fun s' acc' c' hm hS' hacc => ?_⟩
  show wpAny _ A (load s.heap.objs.size >>= _) _ _ s'
  refine wpAny_bind (wpAny_load hS' ?_)
  exact wpAny_pure (hQ s' acc' (Moved.drop_new (o := { cls := .type "list", data := .seq ([] : List Value).toArray }) (tk := s.toks) hm (Nat.le_refl _)) hacc)
end
end
section
theorem strs_of : ∀ (vs : List Value) (kvs : List (Str × Value)), vs.length = kvs.length → (∀ (i : Nat) (v : Value) (k : Str) (x : Value), vs[i]? = some v → kvs[i]? = some (k, x) → Value.isStrOf k v = true) → ∃ l : List (Str × Tok), strValues l = vs ∧ l.map (·.1) = kvs.map (·.1) := by
  intro vs
  induction vs with
  | nil =>
    intro kvs hl _
    cases kvs with
    | nil => exact ⟨[], rfl, rfl⟩
    | cons p kvs => exact absurd hl.symm (Nat.succ_ne_zero _)
  | cons v vs ih =>
    intro kvs hl h
    cases kvs with
    | nil => exact absurd hl (Nat.succ_ne_zero _)
    | cons p kvs =>
    obtain ⟨l, h1, h2⟩ := ih kvs (Nat.succ.inj hl) fun i v' k' x' a b => h (i + 1) v' k' x' a b
    have h0 := h 0 v p.1 p.2 rfl rfl
    cases v with
    | str y t =>
      have : y = p.1 := eq_of_beq h0
      exact ⟨(y, t) :: l, by show Value.str y t :: strValues l = _; rw [h1], by show y :: l.map (·.1) = p.1 :: kvs.map (·.1); rw [h2, this]⟩
    | _ => exact absurd (show false = true from h0) Bool.false_ne_true
section
variable {A : Around} {E : Value → Shared → Prop} {s : Shared} {w : World}
theorem wp_joinKeys {x : Str} {t : Tok} {d : Addr} {kvs : List (Str × Value)} {ep : Nat} {Q : Value → Shared → Prop} (hh : A.handled = none) (hd : (d == sysModules) = false) (hm : s.heap.DictAt (PySem.strKind prog w) d kvs ep) (hn : kvs.length ≤ 1000)
    (hok : JoinOk x (kvs.map (·.1)) = true)
    (hq : ∀ h' t' tk, (∀ b o, s.heap.get? b = some o → h'.get? b = some o) → s.heap.objs.size ≤ h'.objs.size → Q (.str (Txt.join x (kvs.map (·.1))) t') { s with heap := h', toks := tk }) :
    wpAny (model prog w) A (call (.builtin "str.join") [.str x t, .ref d]) Q E s := by
  refine wpAny_size ?_
  refine wpAny_call (codeAny_call_builtin PySem.F.slot_str_join.plain PySem.F.entry_str_join (PySem.F.slot_str_join.check _ _ _ _ _ _ _ _ (typeIs_str _ _ _) (PySem.F.args_str_join_2 _ _) ?_))
  rw [join_tree_other]
  refine wpAny_bind (wpAny_typeOf hm.dictOf.typeIs ?_)
  show wpAny _ A.in1 ((pyIter (.ref d)).tryCatch _ >>= fun it => collect it >>= fun items => joinTail x items) _ _ s
  refine wpAny_bind (wpAny_tryCatch (wpAny_pyIter_dict hd hm ?_))
  have hne : d ≠ s.heap.objs.size := Nat.ne_of_lt hm.lt_size
  have W := Walks.toS (Walks.dictKeys (prog := prog) (w := w) (A := A.in1.in1) (knd := PySem.strKind prog w) hh s.heap.objs.size d hne kvs ep)
  refine wpAny_bind (collect_keys (A := A.in1) W (fun i s st => st.1.typeIs) ⟨⟨_, Heap.get?_push_size _ rfl, rfl, rfl⟩, hm.push _⟩ (fun b hb => ?_) (by simp) (fun s' acc hmv hacc => ?_) (by rw [sizeLine_eq]; lia))
  · show b < (s.heap.push _).objs.size
    rw [Heap.size_push]
    have := hm.lt_size
    simp only [List.mem_cons, List.not_mem_nil, or_false] at hb
    rcases hb with rfl | rfl
    · exact Nat.lt_succ_self _
    · exact Nat.lt_succ_of_lt this
  obtain ⟨l, hl, hk⟩ := strs_of acc.toList kvs (by have := hacc.1; simpa using this) fun i v k y hv hky => by
    obtain ⟨k', x', h1, h2⟩ := hacc.2 i v (by simpa using hv)
    rw [hky] at h1; cases h1
    exact h2
  rw [← hl]
  have hok' := hok
  rw [← hk] at hok'
  unfold JoinOk at hok'
  rw [Bool.not_eq_true'] at hok'
  have g : Gives (joinTail x (strValues l)) (joinMade x l) := by
    have g0 := gives_joinTail x l hok'
    cases l with
    | nil => exact g0
    | cons p r => cases r with
      | nil => exact g0
      | cons q r' => exact g0
  refine g prog w A (wants (fun u s'' => s.heap.objs.size ≤ s''.heap.objs.size → Q u s'') _) s' (post_join l ⟨joinFit_length hok', fun t' tk => ?_⟩)
  rw [hk]
  intro sz
  obtain ⟨hh', gs, dr, tk0, os⟩ := s'
  obtain ⟨m1, m2, m3, m4, m5⟩ := hmv
  simp only at m1 m2 m3 m4
  subst m2 m3 m4
  exact hq hh' t' tk (fun b o e => m1 b o (fun hb => by
    have := Heap.lt_size e
    have hb : b = s.heap.objs.size := by simpa using hb
    rw [hb] at this
    exact Nat.lt_irrefl _ this) (Heap.get?_push_of_some _ e)) sz
end
noncomputable def BD (g : G) (a : Addr) (kvs : List (Str × V)) : Prop := (a == sysModules) = false ∧ ∀ (prog : Program) (σ : Store) (s : Shared), Inv g σ s → ∃ kvs' ep, s.heap.DictAt (PySem.strKind prog g.w) a kvs' ep ∧ KR σ s.heap kvs kvs'
noncomputable def Dct (g : G) (a : Addr) (kvs : List (Str × V)) (σ : Store) : Prop := BD g a kvs ∨ ∃ n, σ a = some (.dict kvs n)
theorem KR.keys {σ : Store} {h : Heap} : ∀ {kvs : List (Str × V)} {kvs' : List (Str × Value)}, KR σ h kvs kvs' → kvs'.map (·.1) = kvs.map (·.1)
  | [], _, r => by rw [KR] at r; subst r; rfl
  | p :: kvs, _, r => by
    rw [KR] at r
    obtain ⟨u, us, rfl, _, b⟩ := r
    show _ :: us.map (·.1) = _ :: kvs.map (·.1)
    rw [b.keys]
theorem KR.length {σ : Store} {h : Heap} {kvs : List (Str × V)} {kvs' : List (Str × Value)} (r : KR σ h kvs kvs') : kvs'.length = kvs.length := by
  have := congrArg List.length r.keys
  simpa using this
noncomputable def dget (kvs : List (Str × V)) (x : Str) : Option V := (kvs.find? fun p => p.1 = x).map (·.2)
theorem KR.at {σ : Store} {h : Heap} {x : Str} : ∀ {kvs : List (Str × V)} {kvs' : List (Str × Value)}, KR σ h kvs kvs' → match dget kvs x with | some v => ∃ u, valueAt kvs' x = some u ∧ VR σ h v u | none => valueAt kvs' x = none := by
  intro kvs
  induction kvs with
  | nil =>
    intro _ r
    rw [KR] at r; subst r; rfl
  | cons p kvs ih =>
    intro _ r
    rw [KR] at r
    obtain ⟨u, us, rfl, a, b⟩ := r
    unfold dget valueAt
    by_cases q : p.1 = x
    · rw [List.find?_cons, List.find?_cons]
      simp only [q, decide_true]
      exact ⟨u, rfl, a⟩
    · rw [List.find?_cons, List.find?_cons]
      simp only [q, decide_false]
      exact ih b
theorem sysModules_low (G₀ : GOk g) (hb : sysModules < g.h₀.objs.size) {σ : Store} {s : Shared} (I : Inv g σ s) {a : Addr} {o : O} (e : σ a = some o) : (a == sysModules) = false := by
  have := I.low a (by rw [e]; intro z; cases z)
  rw [beq_eq_false_iff_ne]
  intro z
  rw [z] at this
  exact absurd hb (Nat.not_lt.mpr this)
theorem Dct.at (G₀ : GOk g) (hb : sysModules < g.h₀.objs.size) {a : Addr} {kvs : List (Str × V)} {σ : Store} {s : Shared} (d : Dct g a kvs σ) (I : Inv g σ s) : (a == sysModules) = false ∧ ∃ kvs' ep, s.heap.DictAt (PySem.strKind prog g.w) a kvs' ep ∧ KR σ s.heap kvs kvs' := by
  rcases d with ⟨d1, d2⟩ | ⟨n, e⟩
  · exact ⟨d1, d2 prog σ s I⟩
  · obtain ⟨kvs', h1, h2⟩ := I.obj a _ e
    exact ⟨sysModules_low G₀ hb I e, kvs', n, h1 prog, h2⟩
section
variable {k : Nat} {c : FC} {loc : Loc} {P : Post} {Q : V → Store → Prop} {QB : Bool → Store → Prop} {X : Addr → Prop} {σ : Store}
theorem c_join (G₀ : GOk g) (hb : sysModules < g.h₀.objs.size) {x : Str} {a : Addr} {kvs : List (Str × V)} (hd : Dct g a kvs σ) (hn : kvs.length ≤ 1000) (hok : JoinOk x (kvs.map (·.1)) = true) (h : Q (.str (Txt.join x (kvs.map (·.1)))) σ) : CV prog g k (.bi "str.join") [.str x, .ref a] Q X σ := by
  refine cv2 fun A envs b s u u' cx r r' => ?_
  obtain ⟨t, rfl⟩ := r.str'
  rw [VR] at r'
  subst r'
  obtain ⟨d1, kvs', ep, d2, d3⟩ := hd.at (prog := prog) G₀ hb cx.inv
  have ks := d3.keys
  refine wp_joinKeys cx.ok.handled d1 d2 (by rw [d3.length]; exact hn) (by rw [ks]; exact hok) fun h' t' tk hk sz => ?_
  rw [ks]
  exact pv_heap cx.inv sz hk (fun _ => vstr) h
theorem o_ind (G₀ : GOk g) (hb : sysModules < g.h₀.objs.size) {x : Str} {a : Addr} {kvs : List (Str × V)} (hd : Dct g a kvs σ) (h : Q (.bool (dget kvs x).isSome) σ) : OV prog g k [.str x, .ref a] (cmpA .In) Q X σ := by
  refine ov2 fun A envs b s u u' cx r r' => ?_
  obtain ⟨t, rfl⟩ := r.str'
  rw [VR] at r'
  subst r'
  obtain ⟨d1, kvs', ep, d2, d3⟩ := hd.at (prog := prog) G₀ hb cx.inv
  have e : (valueAt kvs' x).isSome = (dget kvs x).isSome := by
    have := d3.at (x := x)
    cases q : dget kvs x with
    | none => rw [q] at this; rw [this]; rfl
    | some v => rw [q] at this; obtain ⟨u, h1, _⟩ := this; rw [h1]; rfl
  refine wpAny_in_of (knd := PySem.strKind prog g.w) (k := x) (by simp [PySem.strKind, Value.isStrOf]) d1 d2.dictOf.mapOf ?_
  rw [e]
  exact pv_tok cx.inv vbool h
theorem o_nind (G₀ : GOk g) (hb : sysModules < g.h₀.objs.size) {x : Str} {a : Addr} {kvs : List (Str × V)} (hd : Dct g a kvs σ) (h : Q (.bool (!(dget kvs x).isSome)) σ) : OV prog g k [.str x, .ref a] (cmpA .NotIn) Q X σ := by
  refine ov2 fun A envs b s u u' cx r r' => ?_
  obtain ⟨t, rfl⟩ := r.str'
  rw [VR] at r'
  subst r'
  obtain ⟨d1, kvs', ep, d2, d3⟩ := hd.at (prog := prog) G₀ hb cx.inv
  have e : (valueAt kvs' x).isSome = (dget kvs x).isSome := by
    have := d3.at (x := x)
    cases q : dget kvs x with
    | none => rw [q] at this; rw [this]; rfl
    | some v => rw [q] at this; obtain ⟨u, h1, _⟩ := this; rw [h1]; rfl
  refine wpAny_notIn_of (knd := PySem.strKind prog g.w) (k := x) (by simp [PySem.strKind, Value.isStrOf]) d1 d2.dictOf.mapOf ?_
  rw [e]
  exact pv_tok cx.inv vbool h
theorem i_dict (G₀ : GOk g) (hb : sysModules < g.h₀.objs.size) {ve i : Expr} {x : Str} {a : Addr} {kvs : List (Str × V)} {v : V} (hp : Plain i) (hd : Dct g a kvs σ) (hv : dget kvs x = some v) (h : Q v σ) : OV prog g k [.ref a, .str x] (subA ve i) Q X σ := by
  refine ov2 fun A envs b s u u' cx r r' => ?_
  obtain ⟨t, rfl⟩ := r'.str'
  rw [VR] at r
  subst r
  obtain ⟨d1, kvs', ep, d2, d3⟩ := hd.at (prog := prog) G₀ hb cx.inv
  have := d3.at (x := x)
  rw [hv] at this
  obtain ⟨u, h1, h2⟩ := this
  refine tail_any d2.dictOf.typeIs slot_dict_getitem.lookup ?_ (hp _ _)
  refine wpAny_getItem_of (knd := PySem.strKind prog g.w) (k := x) (by simp [PySem.strKind, Value.isStrOf]) d2.dictOf.mapOf h1 ?_
  exact pv_tok cx.inv h2 h
theorem e_dict0 (G₀ : GOk g) {p : Pos} (h : ∀ a n, σ a = none → Q (.ref a) (upd σ a (.dict [] n))) : TE prog g k c loc (.Dict [] [] p) Q X σ := by
  intro A envs b s cx F
  refine wpAny_Dict_empty ?_
  obtain ⟨ep, hd⟩ := (Heap.DictOf.new (knd := PySem.strKind prog g.w) s.heap).dictAt
  have m := mut_push (x := .dict [] ep) (o := { cls := .type "dict", data := .dict #[] }) G₀ cx.inv (fun _ _ _ => by intro z; cases z) (fun _ => by intro z; cases z) fun st => ⟨[], fun p => dictAt_any hd, by rw [KR]⟩
  exact ⟨.ref _, _, m.1, m.2, by rw [VR], h _ _ (cx.inv.fresh (Nat.le_refl _))⟩
noncomputable def dset (kvs : List (Str × V)) (x : Str) (v : V) : List (Str × V) := if kvs.any (fun p => p.1 = x) then kvs.map (fun p => if p.1 = x then (p.1, v) else p) else kvs ++ [(x, v)]
theorem KR.any {h : Heap} {x : Str} : ∀ {kvs : List (Str × V)} {kvs' : List (Str × Value)}, KR σ h kvs kvs' → (kvs'.any fun p => p.1 = x) = (kvs.any fun p => p.1 = x)
  | [], _, r => by rw [KR] at r; subst r; rfl
  | p :: kvs, _, r => by
    rw [KR] at r
    obtain ⟨u, us, rfl, _, b⟩ := r
    rw [List.any_cons, List.any_cons, KR.any b]
theorem KR.put {h : Heap} {x : Str} {v : V} {u : Value} (ru : VR σ h v u) : ∀ {kvs : List (Str × V)} {kvs' : List (Str × Value)}, KR σ h kvs kvs' → KR σ h (kvs.map fun p => if p.1 = x then (p.1, v) else p) (kvs'.map fun p => if p.1 = x then (p.1, u) else p) := by
  intro kvs
  induction kvs with
  | nil =>
    intro _ r
    rw [KR] at r; subst r; show KR σ h [] []; rw [KR]
  | cons p kvs ih =>
    intro _ r
    rw [KR] at r
    obtain ⟨w, us, rfl, a, b⟩ := r
    have ih := ih b
    rw [List.map_cons, List.map_cons]
    by_cases q : p.1 = x
    · simp only [q, if_true]
      rw [KR]
      exact ⟨_, _, rfl, ru, ih⟩
    · simp only [q, if_false]
      rw [KR]
      exact ⟨_, _, rfl, a, ih⟩
theorem KR.push {h : Heap} {x : Str} {v : V} {u : Value} (ru : VR σ h v u) : ∀ {kvs : List (Str × V)} {kvs' : List (Str × Value)}, KR σ h kvs kvs' → KR σ h (kvs ++ [(x, v)]) (kvs' ++ [(x, u)])
  | [], _, r => by
    rw [KR] at r; subst r
    show KR σ h [(x, v)] [(x, u)]
    rw [KR]
    exact ⟨_, _, rfl, ru, by rw [KR]⟩
  | p :: kvs, _, r => by
    rw [KR] at r
    obtain ⟨w, us, rfl, a, b⟩ := r
    rw [List.cons_append, List.cons_append, KR]
    exact ⟨_, _, rfl, a, KR.push ru b⟩
theorem KR.stored {h : Heap} {x : Str} {v : V} {u : Value} {kvs : List (Str × V)} {kvs' : List (Str × Value)} (r : KR σ h kvs kvs') (ru : VR σ h v u) : KR σ h (dset kvs x v) (PySem.stored kvs' x u) := by
  unfold dset PySem.stored
  rw [r.any]
  split
  · exact r.put ru
  · exact r.push ru
theorem s_setitemD (G₀ : GOk g) (hb : sysModules < g.h₀.objs.size) {o i e : Expr} {pos' pos : Pos} (h : TE prog g k c loc e (fun v σ₁ => TE prog g k c loc o (fun w σ₂ => TE prog g k c loc i (fun j σ₃ => ∃ a kvs n x, w = .ref a ∧ j = .str x ∧ σ₃ a = some (.dict kvs n) ∧ kvs.length ≤ 1000 ∧
      ∀ n', P.nx loc (upd σ₃ a (.dict (dset kvs x v) n'))) X σ₂) X σ₁) X σ) (hs : ∀ env, swapsWith e (some (.Subscript o i pos')) pos.line env = pure false := by intro _; rfl) : TS prog g k c loc (.Assign [.Subscript o i pos'] e pos) P X σ := by
  intro A envs b s W cx F
  refine wpAny_Assign_Subscript (wpE_then h cx F fun u v σ₁ s₁ st₁ cx₁ F₁ r₁ q => ?_) (hs _)
  refine wp_pre st₁ cx (wpE_then q cx₁ F₁ fun u₂ w σ₂ s₂ st₂ cx₂ F₂ r₂ q => ?_)
  refine wp_pre (st₁.trans st₂) cx (wpE_then q cx₂ F₂ fun u₃ j σ₃ s₃ st₃ cx₃ F₃ r₃ q => ?_)
  obtain ⟨a, kvs, n, x, rfl, rfl, hσ, hl, q⟩ := q
  rw [VR] at r₂
  subst r₂
  obtain ⟨t, rfl⟩ := r₃.str'
  obtain ⟨kvs', h1, h2⟩ := cx₃.inv.obj a _ hσ
  refine wpAny_size (wpAny_setItem_pairs (knd := PySem.strKind prog g.w) (k := x) (by simp [PySem.strKind, Value.isStrOf]) (h1 prog).dictOf (fun h' hd hs sz => ?_) ?_)
  · obtain ⟨ep, hd⟩ := hd.dictAt
    have st₄ := cx₃.inv.one (s' := { s₃ with heap := h', toks := s₃.toks + 1 }) (y := .dict (dset kvs x v) ep) hσ ndict sz
      (fun b o ne e => (hs.2 b ne).trans e) rfl rfl fun st => ⟨_, fun p => dictAt_any hd, (h2.stored ((r₁.step st₂).step st₃)).via st.via⟩
    have st := ((st₁.trans st₂).trans st₃).trans st₄.1
    exact ⟨_, loc, st.toF F.fr, st₄.2, F.step st, q ep⟩
  all_goals first
    | (rw [h2.length]; rw [sizeLine_eq]; lia)
    | (rw [h2.length]; lia)
    | skip
theorem Src.dict (G₀ : GOk g) (hb : sysModules < g.h₀.objs.size) {a : Addr} {kvs : List (Str × V)} {n : Nat} (hσ : σ a = some (.dict kvs n)) : Src prog g (.ref a) (kvs.map fun p => .str p.1) [a] σ := by
  intro A E Q s u hh I r q
  rw [VR] at r
  subst r
  obtain ⟨kvs', h1, h2⟩ := I.obj a _ hσ
  have hd := sysModules_low G₀ hb I hσ
  have ks := h2.keys
  have ln := h2.length
  have hm := h1 prog
  have hne : a ≠ s.heap.objs.size := Nat.ne_of_lt hm.lt_size
  have fz := frz_push (o := { cls := .type "dict_keyiterator", data := .fields #[.ref a, .int 0 0, .int kvs'.length 0, .int n 0] }) I
  refine wpAny_pyIter_dict hd hm ?_
  refine q (fun i σ' h => h.IsKeyIter s.heap.objs.size a i kvs.length n ∧ σ' a = some (.dict kvs n) ∧ σ' s.heap.objs.size = none) _ fz.1 fz.2 (fun b o e => Heap.get?_push_of_some _ e) (base_le G₀ I) (fun A' hA => ?_)
    ⟨⟨_, Heap.get?_push_size _ rfl, rfl, by rw [← ln]; rfl⟩, hσ, I.fresh (Nat.le_refl _)⟩
  refine ⟨fun i σ' h st => ?_, fun i σ' s₁ v Q E hv I st q => ?_, fun σ' s₁ Q E I st q => ?_, fun i σ' s₁ Q E st q => wpAny_pyIter_keyiter st.1 q, fun i σ' s₁ σ'' s₂ st I' hk hD => ?_⟩
  · obtain ⟨⟨o, h1, h2, h3⟩, _, n⟩ := st
    exact ⟨⟨o, _, _, h1, h3, h2, by decide⟩, n⟩
  · obtain ⟨t1, t2, t3⟩ := st
    obtain ⟨l, l1, l2⟩ := I.obj a _ t2
    have e1 := l2.length
    rw [List.getElem?_map] at hv
    obtain ⟨p, hp, rfl⟩ := Option.map_eq_some_iff.mp hv
    have lt : i < l.length := by rw [e1]; exact (List.getElem?_eq_some_iff.mp hp).1
    have hl : l[i]? = some (l[i].1, l[i].2) := by simp [lt]
    have key : l[i].1 = p.1 := by
      have := congrArg (·[i]?) l2.keys
      simp only [List.getElem?_map, hp, List.getElem?_eq_getElem lt, Option.map_some, Option.some.injEq] at this
      exact this
    rw [← e1] at t1
    refine wpAny_pyNext_dict_item t1 (l1 prog) hl fun k' h' hk' hit' hs' => ?_
    have off : Off s.heap.objs.size s₁.heap h' := ⟨IsIt.off (by obtain ⟨o, h1, h2, h3⟩ := t1; exact ⟨o, _, _, h1, h3, h2, by decide⟩), fun b o n e => (hs'.2 b n).trans e⟩
    rw [key] at hk'
    rw [e1] at hit'
    refine q k' h' s₁.toks off.2 ?_ ⟨hit', t2, t3⟩
    cases k' with
    | str y t =>
      have : y = p.1 := by simpa [PySem.strKind, Value.isStrOf] using hk'
      rw [this]
      exact vstr
    | _ => exact absurd hk' (by simp [PySem.strKind, Value.isStrOf])
  · obtain ⟨t1, t2, t3⟩ := st
    obtain ⟨l, l1, l2⟩ := I.obj a _ t2
    have e1 := l2.length
    rw [List.length_map, ← e1] at t1
    refine wpAny_pyNext_dict_end hA t1 (l1 prog) (by simp) fun h' he' => q h' s₁.toks fun b o n e => he' b o n e
  · obtain ⟨⟨o, t1, c1, d1⟩, t2, t3⟩ := st
    obtain ⟨a1, a2⟩ := hk _ _ t1 t3 (.inr ⟨_, d1⟩)
    exact ⟨⟨o, a1, c1, d1⟩, (hD a (.head _)).trans t2, a2⟩
end
end
section
noncomputable def del (σ : Store) (a : Addr) : Store := fun b => if b = a then none else σ b
theorem del_self (σ : Store) (a : Addr) : del σ a a = none := if_pos rfl
theorem del_ne {σ : Store} {a b : Addr} (h : b ≠ a) : del σ a b = σ b := if_neg h
theorem Inv.freeze {σ : Store} {s : Shared} (I : Inv g σ s) {a : Addr} {vs : List V} (h : σ a = some (.list vs)) : Stp σ s (del σ a) s ∧ Inv g (del σ a) s ∧ VR (del σ a) s.heap (.lst vs) (.ref a) := by
  have sub : ∀ b o, del σ a b = some o → b ≠ a ∧ σ b = some o := fun b o e => by
    by_cases q : b = a
    · rw [q, del_self] at e; cases e
    · exact ⟨q, (del_ne q).symm.trans e⟩
  have st : Stp σ s (del σ a) s := by
    refine ⟨Nat.le_refl _, fun x o e _ _ => e, fun l m h _ => h, fun x _ n => ?_, rfl, rfl⟩
    by_cases q : x = a
    · rw [q, del_self]
    · rw [del_ne q, n]
  refine ⟨st, ⟨I.base, fun b n => I.low b fun z => n ?_, fun b o e => ?_, I.gens⟩, ?_⟩
  · by_cases q : b = a
    · rw [q, del_self]
    · rw [del_ne q, z]
  · obtain ⟨n, e⟩ := sub b o e
    have ob := I.obj b o e
    cases o with
    | list ws =>
      obtain ⟨its, k, h1, h2⟩ := ob
      exact ⟨its, k, h1, h2.step st⟩
    | inst C d fs =>
      obtain ⟨h1, h2, es, k, h3, h4⟩ := ob
      exact ⟨(del_ne fun z => by rw [z, h] at h1; cases h1).trans h1, h2, es, k, h3, h4.step st⟩
    | shadow x =>
      obtain ⟨C, fs, q⟩ := ob
      exact ⟨C, fs, (del_ne fun z => by rw [z, h] at q; cases q).trans q⟩
    | dict kvs k =>
      obtain ⟨es, h1, h2⟩ := ob
      exact ⟨es, h1, h2.via st.via⟩
    | exc C d => exact ob
    | pend k => exact ob
  · obtain ⟨its, k, h1, h2⟩ := I.obj a _ h
    rw [VR]
    exact ⟨a, its, rfl, del_self .., ⟨k, h1⟩, h2.step st⟩
noncomputable def Same (σ σ' : Store) : Prop := ∀ a, σ a ≠ none → σ' a = σ a
theorem Same.refl (σ : Store) : Same σ σ := fun _ _ => rfl
theorem Same.trans {σ₁ σ₂ σ₃ : Store} (x : Same σ₁ σ₂) (y : Same σ₂ σ₃) : Same σ₁ σ₃ := fun a n => (y a (by rw [x a n]; exact n)).trans (x a n)
theorem Same.upd {σ₁ σ₂ : Store} (x : Same σ₁ σ₂) {a : Addr} {o : O} (n : σ₁ a = none) : Same σ₁ (upd σ₂ a o) := fun b h => (upd_ne fun (z : b = a) => h (by rw [z]; exact n)).trans (x b h)
theorem Same.get {σ₁ σ₂ : Store} (x : Same σ₁ σ₂) {a : Addr} {o : O} (h : σ₁ a = some o) : σ₂ a = some o := (x a (by rw [h]; intro z; cases z)).trans h
theorem Same.del {σ₁ σ₂ : Store} (x : Same σ₁ σ₂) {a : Addr} (n : σ₁ a = none) : Same σ₁ (del σ₂ a) := fun b h => (del_ne fun (z : b = a) => h (by rw [z]; exact n)).trans (x b h)
theorem Same.fresh {σ₁ σ₂ : Store} (x : Same σ₁ σ₂) {a : Addr} (n : σ₂ a = none) : σ₁ a = none := by
  cases q : σ₁ a with
  | none => rfl
  | some o => rw [x.get q] at n; cases n
theorem Stp.touch {σ σ' : Store} {s s' : Shared} (st : Stp σ s σ' s') {h' : Heap} {a : Addr} {tk : Nat} (new : s.heap.objs.size ≤ a) (sz : s'.heap.objs.size ≤ h'.objs.size) (hk : ∀ b o, b ≠ a → s'.heap.get? b = some o → h'.get? b = some o) :
    Stp σ s σ' { s' with heap := h', toks := tk } := by
  refine ⟨Nat.le_trans st.size sz, fun x o e n d => hk x o (fun z => ?_) (st.keep x o e n d), fun l m h n => ns_keep (st.ns l m h n) fun o e => hk l o (fun z => ?_) e, st.new, st.gens, st.os⟩
  · exact absurd (Heap.lt_size e) (Nat.not_lt.mpr (z ▸ new))
  · exact absurd (ns_lt h) (Nat.not_lt.mpr (z ▸ new))
noncomputable def cfc (c : FC) (scope : Scope) (cl : List (Str × Addr)) (C : Addr) : FC := { qual := c.qual, sc := relabel scope c.env, L := C, fr := c.fr, f := none, cd := c.cd, cl }
theorem px_no {b : Heap} {envs : List Env} {σ : Store} {s s' : Shared} {e : Value} (h : PX g (fun _ => False) b envs σ s e s') : False := by
  obtain ⟨_, _, _, f, _⟩ := h
  exact f
structure CompOk (c : FC) (scope : Scope) (cl : List (Str × Addr)) (x : String) (loc loc' : Loc) : Prop where
  clos : closureFor scope c.env = pure cl
  nocell : ∀ y ∈ scope.names, y.2 ≠ .cell
  kind : scope.kind = .function
  names : ∀ y ∈ scope.names, y.2 = .local → scope.names.lookup y.1 = some .local
  hx : scope.names.lookup (Str.ofString x) = some .local
  sub : ∀ p ∈ cl, p ∈ c.cl
  free : ∀ y w, (y, w) ∈ loc' → (y, w) ∈ loc ∧ c.sc.names.lookup (Str.ofString y) ≠ some .local ∧ ((relabel scope c.env).names.lookup (Str.ofString y) = some .cell ∨ ((relabel scope c.env).names.lookup (Str.ofString y) = some .free ∧ (Str.ofString y == ("__classdict__" : Str)) = false)) ∧
    ∀ a, c.cl.lookup (Str.ofString y) = some a → cl.lookup (Str.ofString y) = some a
noncomputable def Turn (prog : Program) (g : G) (k : Nat) (c : FC) (loc : Loc) (ifs : List Expr) (elt : Expr) (r : Option V) (σ : Store) : Prop := match ifs with
  | [] => TE prog g k c loc elt (fun w σ' => r = some w ∧ Same σ σ') (fun _ => False) σ
  | [t] => TB prog g k c loc t (fun b σ₁ => Same σ σ₁ ∧ if b then TE prog g k c loc elt (fun w σ' => r = some w ∧ Same σ₁ σ') (fun _ => False) σ₁ else r = none) (fun _ => False) σ
  | _ => False
noncomputable def TurnJ (J : Store → Prop) (prog : Program) (g : G) (k : Nat) (c : FC) (loc : Loc) (ifs : List Expr) (elt : Expr) (r : Option V) (σ : Store) : Prop := match ifs with
  | [] => TE prog g k c loc elt (fun w σ' => r = some w ∧ Same σ σ' ∧ J σ') (fun _ => False) σ
  | [t] => TB prog g k c loc t (fun b σ₁ => Same σ σ₁ ∧ J σ₁ ∧ if b then TE prog g k c loc elt (fun w σ' => r = some w ∧ Same σ₁ σ' ∧ J σ') (fun _ => False) σ₁ else r = none) (fun _ => False) σ
  | _ => False
section
variable {k : Nat} {c : FC} {loc : Loc} {P : Post} {Q : V → Store → Prop} {X : Addr → Prop} {σ : Store}
theorem TE.mono {e : Expr} {Q' : V → Store → Prop} (h : TE prog g k c loc e Q X σ) (q : ∀ v s, Q v s → Q' v s) : TE prog g k c loc e Q' X σ := fun A envs b s cx F =>
  wpAny_mono (h A envs b s cx F) (fun _ _ ⟨v, σ', a, b, r, z⟩ => ⟨v, σ', a, b, r, q _ _ z⟩) fun _ _ x => x
theorem TB.mono {t : Expr} {QB QB' : Bool → Store → Prop} (h : TB prog g k c loc t QB X σ) (q : ∀ b s, QB b s → QB' b s) : TB prog g k c loc t QB' X σ := fun A envs b s cx F =>
  wpAny_mono (h A envs b s cx F) (fun _ _ ⟨σ', a, b, r⟩ => ⟨σ', a, b, q _ _ r⟩) fun _ _ x => x
theorem Turn.toJ {ifs : List Expr} {elt : Expr} {r : Option V} (h : Turn prog g k c loc ifs elt r σ) : TurnJ (fun _ => True) prog g k c loc ifs elt r σ := by
  match ifs, h with
  | [], h => exact TE.mono h fun _ _ z => ⟨z.1, z.2, trivial⟩
  | [t], h =>
    refine TB.mono h fun b σ₁ z => ⟨z.1, trivial, ?_⟩
    obtain ⟨_, z⟩ := z
    cases b with
    | true => exact TE.mono z fun _ _ z => ⟨z.1, z.2, trivial⟩
    | false => exact z
inductive CInv (g : G) (J : Store → Prop) (vs : List V) (f : V → Option V) (σ : Store) (s : Shared) (Da C : Addr) (St : Nat → Store → Heap → Prop) (n : Nat) (s' : Shared) : Prop
  | mk (i : Nat) (ws : List V) (σ' : Store) (m : Str → Option Value) (h1 : i ≤ vs.length) (h2 : n = vs.length - i) (h3 : vs.drop i = ws) (h4 : Stp σ s σ' s') (h5 : Inv g σ' s') (h6 : Same σ σ') (h7 : J σ') (h8 : σ' Da = some (.list ((vs.take i).filterMap f))) (h9 : s'.heap.Ns C m) (h10 : σ' C = none) (h11 : St i σ' s'.heap)
theorem wp_compJ {J : Store → Prop} (J0 : J σ) (JL : ∀ σ' a vs, J σ' → J (upd σ' a (.list vs))) (G₀ : GOk g) {elt iter : Expr} {x : String} {px : Pos} {ifs : List Expr} {scope : Scope} {cl : List (Str × Addr)} {pos : Pos} {loc' : Loc} {A : Around} {envs : List Env} {b : Heap} {s : Shared} {v : V} {u : Value} {vs : List V} {D : List Addr} {f : V → Option V}
    (ok : CompOk c scope cl x loc loc') (cx : Cx g k A envs b σ s) (F : Fm g c envs loc σ s.heap) (r : VR σ s.heap v u) (src : Src prog g v vs D σ) (hD : ∀ d ∈ D, σ d ≠ none) (hl : vs.length ≤ 100000)
    (turn : ∀ C w σ₂, w ∈ vs → Same σ σ₂ → J σ₂ → TurnJ J prog g k (cfc c scope cl C) (SetL x w loc') ifs elt (f w) σ₂) {RR : Value → Addr → Result → Shared → Prop} {E : Value → Shared → Prop}
    (hRR : ∀ (a C : Addr) σ' s' m, Stp σ s σ' s' → Inv g σ' s' → Same σ σ' → VR σ' s'.heap (.lst (vs.filterMap f)) (.ref a) → s'.heap.Ns C m → σ' C = none → g.h₀.objs.size ≤ C → s.heap.objs.size ≤ C → RR (.ref a) C (.ok .next) s') :
    wpAny (model prog g.w) A (pyIter u) (fun it s₂ => wpAny (model prog g.w) A (newList []) (fun acc s₃ => wpAny (model prog g.w) A (newFunctionEnv scope c.env.globals cl [] c.env.qual none .none (some c.env)) (fun cenv s₄ =>
      codeAny (model prog g.w) A (.compStart (.ListComp elt [⟨.Name (Str.ofString x) px, iter, ifs, 0⟩] scope pos) 0 it acc { cenv with scope := relabel scope c.env }) (RR acc cenv.locals) s₄) E s₃) E s₂) E s := by
  refine src A _ _ s u cx.ok.handled cx.inv r fun St s₂ st₂ I₂ hk₂ low wk hst₂ => ?_
  have wk := wk A cx.ok.handled
  generalize hIt : s.heap.objs.size = It at *
  refine wpAny_newList ?_
  have mL := mut_list (vs := []) (us := []) G₀ I₂ (by rw [VRs])
  have eD : σ s₂.heap.objs.size = none := I₂.fresh (Nat.le_refl _)
  have sz2 : It ≤ s₂.heap.objs.size := hIt ▸ st₂.size
  have itlt : It < s₂.heap.objs.size := by
    obtain ⟨⟨o, _, _, h1, _⟩, _⟩ := wk.own _ _ _ hst₂
    exact Heap.lt_size h1
  generalize hDa : s₂.heap.objs.size = Da at *
  generalize hs3 : ({ s₂ with heap := s₂.heap.push { cls := .type "list", data := .seq ([] : List Value).toArray } } : Shared) = s₃ at *
  obtain ⟨st₃, I₃⟩ := mL
  refine wpAny_newFunctionEnv ok.nocell (by intro y hy; cases hy) (fun h₁ hns hsb => ?_) ok.kind
  generalize hCa : s₃.heap.objs.size = C at *
  have up₁ : ∀ b o, s₃.heap.get? b = some o → h₁.get? b = some o := fun b o e => (hsb.2 b (fun z => by have := Heap.lt_size e; rw [hCa, z] at this; exact Nat.lt_irrefl _ this)).trans (Heap.get?_push_of_some _ e)
  have szh₁ : s₃.heap.objs.size ≤ h₁.objs.size := by rw [hsb.1]; show _ ≤ (s₃.heap.push _).objs.size; rw [Heap.size_push]; exact Nat.le_succ _
  have gr := I₃.grow (s' := { s₃ with heap := h₁, toks := s₃.toks + ([] : List (Str × Value)).length }) szh₁ up₁ rfl rfl
  generalize hs4 : ({ s₃ with heap := h₁, toks := s₃.toks + ([] : List (Str × Value)).length } : Shared) = s₄ at *
  have hh4 : s₄.heap = h₁ := by rw [← hs4]
  have lowD : g.h₀.objs.size ≤ Da := hDa ▸ base_le G₀ I₂
  have sz3 : Da < C := by rw [← hCa, ← hs3, ← hDa]; show _ < (s₂.heap.push _).objs.size; rw [Heap.size_push]; exact Nat.lt_succ_self _
  have eC : upd σ Da (.list []) C = none := I₃.fresh (by rw [hCa]; exact Nat.le_refl _)
  have ItC : It ≠ C := fun z => by rw [z] at itlt; exact Nat.lt_asymm itlt sz3
  have st04 : Stp σ s (upd σ Da (.list [])) s₄ := (st₂.trans st₃).trans gr.1
  have I₄ := gr.2
  have st₄ : St 0 (upd σ Da (.list [])) s₄.heap := by
    refine wk.keep 0 σ s₂ _ s₄ hst₂ I₄ (fun b o e n hd => ?_) fun d hd => upd_ne fun z => hD d hd (z ▸ eD)
    have nb : b ≠ Da := fun z => by have := Heap.lt_size e; rw [hDa, z] at this; exact Nat.lt_irrefl _ this
    exact ⟨hh4 ▸ up₁ b o (by rw [← hs3]; exact Heap.get?_push_of_some _ e), (upd_ne nb).trans n⟩
  show codeAny _ A (.compStart _ 0 (.ref It) (.ref Da) (cfc c scope cl C).env) (RR (.ref Da) C) s₄
  have loop : codeAny (model prog g.w) A (.compLoop (.ListComp elt [⟨.Name (Str.ofString x) px, iter, ifs, 0⟩] scope pos) 0 (.ref It) (.ref Da) (cfc c scope cl C).env) (RR (.ref Da) C) s₄ := by
    refine codeAny_compLoop_tests (CInv g J vs f σ s Da C St) ?_ vs.length
      ⟨0, vs, _, _, Nat.zero_le _, rfl, rfl, st04, I₄, (Same.refl σ).upd eD, JL _ _ _ J0, upd_self .., by rw [hh4]; exact hns, eC, st₄⟩
    rintro n s₅ ⟨i, ws, σ₅, m, hi, rfl, hw, st₅, I₅, sm₅, j₅, hd₅, hn₅, eC₅, hst₅⟩
    obtain ⟨isit, nI⟩ := wk.own i σ₅ _ hst₅
    have off : ∀ h' : Heap, (∀ b o, b ≠ It → s₅.heap.get? b = some o → h'.get? b = some o) → Off It s₅.heap h' := fun h' k => ⟨isit.off, k⟩
    cases ws with
    | nil =>
      have e : i = vs.length := by have := congrArg List.length hw; simp at this; lia
      subst e
      refine wpAny_size (wk.done σ₅ s₅ _ _ I₅ hst₅ fun h' tk hk' sz => ?_)
      have stT := st₅.touch (h' := h') (tk := tk) (hIt ▸ Nat.le_refl _) sz hk'
      have IT : Inv g σ₅ { s₅ with heap := h', toks := tk } := I₅.touch nI (off h' hk') low rfl
      obtain ⟨sF, IF, rF⟩ := IT.freeze hd₅
      rw [List.take_length] at rF hd₅
      have nCD : C ≠ Da := Nat.ne_of_gt sz3
      exact hRR Da C _ _ m (stT.trans sF) IF (sm₅.del eD) rF (ns_keep hn₅ fun o e => hk' _ o (Ne.symm ItC) e) ((del_ne nCD).trans eC₅) (Nat.le_of_lt (Nat.lt_of_le_of_lt lowD sz3)) (Nat.le_of_lt (Nat.lt_trans itlt sz3))
    | cons w ws =>
      have hv : vs[i]? = some w := by have := congrArg (·[0]?) hw; simpa using this
      have hlt := (List.getElem?_eq_some_iff.mp hv).1
      refine wpAny_size (wk.item i σ₅ s₅ w _ _ hv I₅ hst₅ fun u' h' tk hk' ru hst' sz => ?_)
      have stT := st₅.touch (h' := h') (tk := tk) (hIt ▸ Nat.le_refl _) sz hk'
      have IT : Inv g σ₅ { s₅ with heap := h', toks := tk } := I₅.touch nI (off h' hk') low rfl
      have nT : h'.Ns C m := ns_keep hn₅ fun o e => hk' _ o (Ne.symm ItC) e
      have kl : (cfc c scope cl C).env.kindOf (Str.ofString x) = some .local := lookup_relabel_local ok.hx
      refine wpAny_assign_Name (wpAny_storeName_local kl nT (fun h₂ hn₂ hs₂ => ?_) (by show (scope.kind == .class || (scope.kind == .module && C != mainGlobals)) = false; rw [ok.kind]; rfl))
      have offC : Off C h' h₂ := ⟨fun o e fz => by obtain ⟨o', es, ep, e', d', _⟩ := nT; rw [e] at e'; cases e'; exact fz.dict _ _ d', fun y o n e => (hs₂.2 y n).trans e⟩
      have I₆ : Inv g σ₅ { s₅ with heap := h₂, toks := tk + 1 } := IT.touch eC₅ offC (Nat.le_of_lt (Nat.lt_of_le_of_lt lowD sz3)) rfl
      have st₆ : Stp σ s σ₅ { s₅ with heap := h₂, toks := tk + 1 } := stT.touch (h' := h₂) (tk := tk + 1) (by rw [hIt]; exact Nat.le_of_lt (Nat.lt_trans itlt sz3)) (Nat.le_of_eq hs₂.1.symm) (fun b o n e => (hs₂.2 b n).trans e)
      have cx₆ := cx.step st₆ I₆
      have F₆ := F.step st₆
      have stS : St (i + 1) σ₅ h₂ := wk.keep (i + 1) σ₅ { s₅ with heap := h', toks := tk } σ₅ { s₅ with heap := h₂, toks := tk + 1 } hst' I₆ (fun b o e n hd => ⟨(hs₂.2 b fun z => by
        obtain ⟨o', es, ep, e', d', _⟩ := nT
        rw [z] at e
        rw [show h'.get? C = some o from e] at e'; cases e'
        rcases hd with ⟨_, _, q⟩ | ⟨_, q⟩ <;> rw [d'] at q <;> cases q).trans e, n⟩) fun _ _ => rfl
      have Fc : Fm g (cfc c scope cl C) envs (SetL x w loc') σ₅ h₂ := by
        refine ⟨ok.kind, Nat.le_of_lt (Nat.lt_of_le_of_lt lowD sz3), eC₅, F₆.hd, fun p hp => F₆.cl p (ok.sub p hp), _, hn₂, fun y z hy => ?_⟩
        rcases List.mem_cons.mp hy with hy | hy
        · cases hy
          exact ⟨u', .inl ⟨kl, if_pos rfl⟩, ru.touch offC⟩
        · obtain ⟨hy, ne⟩ := List.mem_filter.mp hy
          obtain ⟨h1, h2, h3, h4⟩ := ok.free y z hy
          obtain ⟨m', _, hl'⟩ := F₆.ns
          obtain ⟨u'', t, r'⟩ := hl' y z h1
          rcases t with ⟨t1, _⟩ | ⟨_, a, t2, t3, t4⟩
          · exact absurd t1 h2
          · exact ⟨u'', .inr ⟨h3, a, h4 a t2, t3, t4⟩, r'⟩
      have tn := turn C w σ₅ (List.mem_iff_getElem?.mpr ⟨i, hv⟩) sm₅ j₅
      have next : ∀ (r : Option V) (σ₇ : Store) (s₇ : Shared), f w = r → Stp σ₅ { s₅ with heap := h₂, toks := tk + 1 } σ₇ s₇ → Inv g σ₇ s₇ → Same σ₅ σ₇ → J σ₇ → ∀ (σ₈ : Store) (s₈ : Shared), Stp σ₇ s₇ σ₈ s₈ → Inv g σ₈ s₈ → σ₈ = (match r with | some y => upd σ₇ Da (.list ((vs.take i).filterMap f ++ [y])) | none => σ₇) →
          ∃ n', n' < vs.length - i ∧ CInv g J vs f σ s Da C St n' s₈ := by
        intro r σ₇ s₇ hr st₇ I₇ sm₇ j₇ σ₈ s₈ st₈ I₈ e8
        have st78 := st₇.trans st₈
        have sm8 : Same σ σ₈ := by subst e8; cases r with
          | none => exact sm₅.trans sm₇
          | some y => exact (sm₅.trans sm₇).upd eD
        have j8 : J σ₈ := by subst e8; cases r with
          | none => exact j₇
          | some y => exact JL _ _ _ j₇
        refine ⟨vs.length - (i + 1), by lia, i + 1, ws, σ₈, _, hlt, rfl, ?_, st₆.trans st78, I₈, sm8, j8, ?_, st78.ns C _ hn₂ eC₅, st78.new C (ns_lt hn₂) eC₅, ?_⟩
        · rw [← List.drop_drop, hw]; rfl
        · have e1 : (vs.take (i + 1)).filterMap f = (vs.take i).filterMap f ++ (match r with | some y => [y] | none => []) := by
            rw [List.take_add_one, hv, List.filterMap_append]
            cases r <;> simp [hr]
          rw [e1]
          subst e8
          cases r with
          | none => simp only [List.append_nil]; exact sm₇.get hd₅
          | some y => exact upd_self ..
        · refine wk.keep (i + 1) σ₅ { s₅ with heap := h₂, toks := tk + 1 } σ₈ s₈ stS I₈ (fun b o e n hd => ⟨st78.keep b o e n fun es nn z => ?_, st78.new b (Heap.lt_size e) n⟩) fun d hd => ?_
          · rcases hd with ⟨_, _, q⟩ | ⟨_, q⟩ <;> rw [z] at q <;> cases q
          · exact (sm8 d (hD d hd)).trans (sm₅ d (hD d hd)).symm
      have el : ∀ (σ₇ : Store) (s₇ : Shared) (E' : Value → Shared → Prop), Stp σ₅ { s₅ with heap := h₂, toks := tk + 1 } σ₇ s₇ → Inv g σ₇ s₇ → Same σ₅ σ₇ → Fm g (cfc c scope cl C) envs (SetL x w loc') σ₇ s₇.heap → TE prog g k (cfc c scope cl C) (SetL x w loc') elt (fun y σ' => f w = some y ∧ Same σ₇ σ' ∧ J σ') (fun _ => False) σ₇ →
          wpAny (model prog g.w) A (eval elt (cfc c scope cl C).env) (fun y s₈ => wpAny (model prog g.w) A (call (.builtin "list.append") [.ref Da, y]) (fun _ s₉ => ∃ n', n' < vs.length - i ∧ CInv g J vs f σ s Da C St n' s₉) E' s₈) E' s₇ := by
        intro σ₇ s₇ E' st₇ I₇ sm₇ F₇ te
        have cx₇ := cx₆.step st₇ I₇
        refine wpAny_mono (te A envs b s₇ cx₇ F₇) (fun y s₈ hy => ?_) fun e s' hx => (px_no hx).elim
        obtain ⟨y', σ₈, st₈, I₈, r₈, hf, sm₈, j₈⟩ := hy
        have sm78 := sm₇.trans sm₈
        have hd₈ := sm78.get hd₅
        have cx₈ := cx₇.step st₈ I₈
        have ll : ((vs.take i).filterMap f).length ≤ 1000000 := by
          have e1 := List.length_filterMap_le f (vs.take i)
          have e2 : (vs.take i).length ≤ vs.length := by rw [List.length_take]; lia
          lia
        have ca := c_append (prog := prog) (g := g) (k := k) (Q := fun v σ' => σ' = upd σ₈ Da (.list ((vs.take i).filterMap f ++ [y']))) (X := fun _ => False) (v := y') hd₈ ll rfl
        refine wpAny_mono (ca A envs b s₈ (.builtin "list.append") [.ref Da, y] cx₈ (by rw [VR]) (VRs2 (by rw [VR]) r₈)) (fun z s₉ hz => ?_) fun e s' hx => (px_no hx).elim
        obtain ⟨_, σ₉, st₉, I₉, _, e9⟩ := hz
        exact next (some y') σ₈ s₈ hf (st₇.trans st₈) I₈ sm78 j₈ σ₉ s₉ st₉ I₉ e9
      match ifs, tn with
      | [], tn => exact wpAny_tests_nil (by rw [if_pos rfl]; exact el σ₅ _ _ (Stp.refl ..) I₆ (Same.refl _) Fc tn)
      | [t], tn =>
        refine wpAny_tests_one (wpAny_mono (tn A envs b _ cx₆ Fc) (fun bb s₇ hb => ?_) fun e s' hx => (px_no hx).elim)
        obtain ⟨σ₇, st₇, I₇, sm₇, j₇, hb⟩ := hb
        cases bb with
        | true => rw [if_pos rfl]; exact el σ₇ s₇ _ st₇ I₇ sm₇ (Fc.step st₇) hb
        | false => rw [if_neg (by decide)]; exact next none σ₇ s₇ hb st₇ I₇ sm₇ j₇ σ₇ s₇ (Stp.refl ..) I₇ rfl
      | _ :: _ :: _, tn => exact tn.elim
  exact codeAny_compStart_list loop (wk.self 0 _ _ _ _ st₄ loop)
theorem wp_comp (G₀ : GOk g) {elt iter : Expr} {x : String} {px : Pos} {ifs : List Expr} {scope : Scope} {cl : List (Str × Addr)} {pos : Pos} {loc' : Loc} {A : Around} {envs : List Env} {b : Heap} {s : Shared} {v : V} {u : Value} {vs : List V} {D : List Addr} {f : V → Option V}
    (ok : CompOk c scope cl x loc loc') (cx : Cx g k A envs b σ s) (F : Fm g c envs loc σ s.heap) (r : VR σ s.heap v u) (src : Src prog g v vs D σ) (hD : ∀ d ∈ D, σ d ≠ none) (hl : vs.length ≤ 100000)
    (turn : ∀ C w σ₂, w ∈ vs → Same σ σ₂ → Turn prog g k (cfc c scope cl C) (SetL x w loc') ifs elt (f w) σ₂) {RR : Value → Addr → Result → Shared → Prop} {E : Value → Shared → Prop}
    (hRR : ∀ (a C : Addr) σ' s' m, Stp σ s σ' s' → Inv g σ' s' → Same σ σ' → VR σ' s'.heap (.lst (vs.filterMap f)) (.ref a) → s'.heap.Ns C m → σ' C = none → g.h₀.objs.size ≤ C → s.heap.objs.size ≤ C → RR (.ref a) C (.ok .next) s') :
    wpAny (model prog g.w) A (pyIter u) (fun it s₂ => wpAny (model prog g.w) A (newList []) (fun acc s₃ => wpAny (model prog g.w) A (newFunctionEnv scope c.env.globals cl [] c.env.qual none .none (some c.env)) (fun cenv s₄ =>
      codeAny (model prog g.w) A (.compStart (.ListComp elt [⟨.Name (Str.ofString x) px, iter, ifs, 0⟩] scope pos) 0 it acc { cenv with scope := relabel scope c.env }) (RR acc cenv.locals) s₄) E s₃) E s₂) E s := wp_compJ (J := fun _ => True) trivial (fun _ _ _ _ => trivial) G₀ ok cx F r src hD hl (fun C w σ₂ hw sm _ => (turn C w σ₂ hw sm).toJ) hRR
end
end
section
section
variable {k : Nat} {c : FC} {loc : Loc} {P : Post} {Q : V → Store → Prop} {X : Addr → Prop} {σ : Store}
theorem off_ns {C : Addr} {h h' : Heap} {m : Str → Option Value} (n : h.Ns C m) (hs : Heap.SameBut C h h') : Off C h h' :=
  ⟨fun o e fz => by obtain ⟨o', es, ep, e', d', _⟩ := n; rw [e] at e'; cases e'; exact fz.dict _ _ d', fun y o n e => (hs.2 y n).trans e⟩
theorem e_comp (G₀ : GOk g) {elt iter : Expr} {x : String} {px : Pos} {ifs : List Expr} {scope : Scope} {cl : List (Str × Addr)} {pos : Pos} {loc' : Loc} (ok : CompOk c scope cl x loc loc')
    (h : TE prog g k c loc iter (fun v σ₁ => ∃ vs D f, Src prog g v vs D σ₁ ∧ (∀ d ∈ D, σ₁ d ≠ none) ∧ vs.length ≤ 100000 ∧
      (∀ C w σ₂, w ∈ vs → Same σ₁ σ₂ → Turn prog g k (cfc c scope cl C) (SetL x w loc') ifs elt (f w) σ₂) ∧ ∀ σ₂, Same σ₁ σ₂ → Q (.lst (vs.filterMap f)) σ₂) X σ)
    (hs : ∀ env x, foldedSetIterable iter env x = pure x := by intro _ _; rfl) : TE prog g k c loc (.ListComp elt [⟨.Name (Str.ofString x) px, iter, ifs, 0⟩] scope pos) Q X σ := by
  intro A envs b s cx F
  show wpAny _ A (eval _ _) _ _ _
  rw [eval_ListComp]
  refine wpAny_comprehension_free (use := none) rfl (hs _) ok.clos ok.kind ok.names (wp_then h cx F fun u v σ₁ s₁ st₁ cx₁ F₁ r q => ?_)
  obtain ⟨vs, D, f, src, hD, hl, turn, q⟩ := q
  refine wp_comp G₀ ok cx₁ F₁ r src hD hl turn fun a C σ' s' m st' I' sm ra hn eC lowC newC => ?_
  refine ⟨m, hn, fun h' hs' => ?_⟩
  have off := off_ns hn hs'
  have st2 := (st₁.trans st').touch (h' := h') (a := C) (tk := s'.toks) (Nat.le_trans st₁.size newC) (Nat.le_of_eq hs'.1.symm) off.2
  exact ⟨_, σ', st2, I'.touch eC off lowC rfl, ra.touch off, q σ' sm⟩
theorem e_compJ {J : Store → Prop} (JL : ∀ σ' a vs, J σ' → J (upd σ' a (.list vs))) (G₀ : GOk g) {elt iter : Expr} {x : String} {px : Pos} {ifs : List Expr} {scope : Scope} {cl : List (Str × Addr)} {pos : Pos} {loc' : Loc} (ok : CompOk c scope cl x loc loc')
    (h : TE prog g k c loc iter (fun v σ₁ => ∃ vs D f, Src prog g v vs D σ₁ ∧ (∀ d ∈ D, σ₁ d ≠ none) ∧ vs.length ≤ 100000 ∧
      J σ₁ ∧ (∀ C w σ₂, w ∈ vs → Same σ₁ σ₂ → J σ₂ → TurnJ J prog g k (cfc c scope cl C) (SetL x w loc') ifs elt (f w) σ₂) ∧ ∀ σ₂, Same σ₁ σ₂ → Q (.lst (vs.filterMap f)) σ₂) X σ)
    (hs : ∀ env x, foldedSetIterable iter env x = pure x := by intro _ _; rfl) : TE prog g k c loc (.ListComp elt [⟨.Name (Str.ofString x) px, iter, ifs, 0⟩] scope pos) Q X σ := by
  intro A envs b s cx F
  show wpAny _ A (eval _ _) _ _ _
  rw [eval_ListComp]
  refine wpAny_comprehension_free (use := none) rfl (hs _) ok.clos ok.kind ok.names (wp_then h cx F fun u v σ₁ s₁ st₁ cx₁ F₁ r q => ?_)
  obtain ⟨vs, D, f, src, hD, hl, J0, turn, q⟩ := q
  refine wp_compJ J0 JL G₀ ok cx₁ F₁ r src hD hl turn fun a C σ' s' m st' I' sm ra hn eC lowC newC => ?_
  refine ⟨m, hn, fun h' hs' => ?_⟩
  have off := off_ns hn hs'
  have st2 := (st₁.trans st').touch (h' := h') (a := C) (tk := s'.toks) (Nat.le_trans st₁.size newC) (Nat.le_of_eq hs'.1.symm) off.2
  exact ⟨_, σ', st2, I'.touch eC off lowC rfl, ra.touch off, q σ' sm⟩
theorem s_assign_comp (G₀ : GOk g) {y : String} {py pos' : Pos} {elt iter : Expr} {x : String} {px : Pos} {ifs : List Expr} {scope : Scope} {cl : List (Str × Addr)} {pos : Pos} {loc' : Loc} (hl : c.sc.names.lookup (Str.ofString y) = some .local) (ok : CompOk c scope cl x loc loc')
    (hsw : swapsWith (.ListComp elt [⟨.Name (Str.ofString x) px, iter, ifs, 0⟩] scope pos) (some (.Name (Str.ofString y) py)) pos'.line c.env = pure true)
    (h : TE prog g k c loc iter (fun v σ₁ => ∃ vs D f, Src prog g v vs D σ₁ ∧ (∀ d ∈ D, σ₁ d ≠ none) ∧ vs.length ≤ 100000 ∧
      (∀ C w σ₂, w ∈ vs → Same σ₁ σ₂ → Turn prog g k (cfc c scope cl C) (SetL x w loc') ifs elt (f w) σ₂) ∧ ∀ σ₂, Same σ₁ σ₂ → P.nx (SetL y (.lst (vs.filterMap f)) loc) σ₂) X σ)
    (hs : ∀ env x, foldedSetIterable iter env x = pure x := by intro _ _; rfl) : TS prog g k c loc (.Assign [.Name (Str.ofString y) py] (.ListComp elt [⟨.Name (Str.ofString x) px, iter, ifs, 0⟩] scope pos) pos') P X σ := by
  intro A envs b s W cx F
  rw [exec_Assign_Name_used _ _ _ _ hsw]
  refine wpAny_bind (wpAny_standAt (wpAny_bind ?_))
  show wpAny _ A (do let _ ← comprehension (.ListComp elt [⟨.Name (Str.ofString x) px, iter, ifs, 0⟩] scope pos) scope c.env _ (newList []) false (eval iter c.env) (some (assign (.Name (Str.ofString y) py) c.env))) _ _ s
  refine wpAny_bind (wpAny_mono (wpAny_comprehension_free (use := some (assign (.Name (Str.ofString y) py) c.env)) (Q := fun _ s' => PF g c envs P σ s .next s') rfl (hs _) ok.clos ok.kind ok.names (wp_then h cx F fun u v σ₁ s₁ st₁ cx₁ F₁ r q => ?_)) (fun _ s' hq => wpAny_pure (wpAny_pure hq)) fun _ _ e => e)
  obtain ⟨vs, D, f, src, hD, hl', turn, q⟩ := q
  refine wp_comp G₀ ok cx₁ F₁ r src hD hl' turn fun a C σ' s' m st' I' sm ra hn eC lowC newC => ?_
  have F' := F₁.step st'
  have nCL : C ≠ c.L := fun z => by
    obtain ⟨m', hn', _⟩ := F₁.ns
    have := ns_lt hn'
    rw [← z] at this
    exact absurd this (Nat.not_lt.mpr newC)
  have nCC : ∀ p ∈ c.cl, p.2 ≠ C := fun p hp z => by
    obtain ⟨_, _, v, o, e, _⟩ := F₁.cl p hp
    have := Heap.lt_size e
    rw [z] at this
    exact absurd this (Nat.not_lt.mpr newC)
  show wpAny _ A (assign (.Name (Str.ofString y) py) c.env (.ref a)) _ _ _
  refine wpAny_assign_Name (wp_bind I' F' hl ra fun s₃ st₃ I₃ F₃ keep => ?_)
  have hn₃ := st₃.ns C m hn eC nCL
  refine ⟨m, hn₃, fun h' hs' => ?_⟩
  have off := off_ns hn₃ hs'
  have stA := ((st₁.trans st').toF F.fr).trans st₃
  have cell : ∀ {p : Addr} {w : Option Value}, p ≠ C → s₃.heap.IsCell p w → h'.IsCell p w := fun {p w} n e => by
    obtain ⟨o, ho, hd⟩ := e
    exact ⟨o, off.2 p o n ho, hd⟩
  have clne : ∀ {y : Str} {p : Addr}, c.cl.lookup y = some p → p ≠ C := fun {y p} e => by
    have : (y, p) ∈ c.cl := by
      revert e
      induction c.cl with
      | nil => intro e; cases e
      | cons z r ih =>
        intro e
        obtain ⟨z1, z2⟩ := z
        rw [List.lookup_cons] at e
        split at e
        · rename_i h; cases e; rw [eq_of_beq h]; exact .head _
        · exact .tail _ (ih e)
    exact nCC _ this
  refine ⟨σ', _, ⟨Nat.le_trans stA.size (Nat.le_of_eq hs'.1.symm), fun z o e n d nc => off.2 z o (fun w => ?_) (stA.keep z o e n d nc), fun l m' hm n nl => ns_keep (stA.ns l m' hm n nl) fun o e => off.2 l o (fun w => ?_) e, fun m' hm => ?_, stA.new, stA.gens, stA.os⟩, I₃.touch eC off lowC rfl, ⟨F₃.kind, F₃.low, F₃.fr, F₃.hd, fun p hp => ?_, ?_⟩, q σ' sm⟩
  · have := Heap.lt_size e; rw [w] at this; exact absurd this (Nat.not_lt.mpr (Nat.le_trans st₁.size newC))
  · have := ns_lt hm; rw [w] at this; exact absurd this (Nat.not_lt.mpr (Nat.le_trans st₁.size newC))
  · obtain ⟨m₂, h₂⟩ := stA.there m' hm
    exact ⟨m₂, ns_keep h₂ fun o e => off.2 _ o (Ne.symm nCL) e⟩
  · obtain ⟨a1, a2, w, a3⟩ := F₃.cl p hp
    exact ⟨a1, a2, w, cell (nCC p hp) a3⟩
  · obtain ⟨m₂, h₂, l₂⟩ := F₃.ns
    refine ⟨m₂, ns_keep h₂ fun o e => off.2 _ o (Ne.symm nCL) e, fun z w hz => ?_⟩
    obtain ⟨u', t, r'⟩ := l₂ z w hz
    refine ⟨u', ?_, r'.touch off⟩
    rcases t with t1 | ⟨t1, p, t2, t3, t4⟩
    · exact .inl t1
    · exact .inr ⟨t1, p, t2, t3, cell (clne t2) t4⟩
end
end
section
noncomputable section
noncomputable def fT (i : Nat) : Arguments × List Stmt × Scope := match PySem.Challenge.pw_pc0154_01.main.body[i]? with
  | some (.FunctionDef _ args body _ _ _ scope _ _ _) => (args, body, scope)
  | _ => (⟨[], [], none, [], [], none, []⟩, [], ⟨.function, [], false, false, []⟩)
noncomputable def mT (i j : Nat) : Arguments × List Stmt × Scope := match PySem.Challenge.pw_pc0154_01.main.body[i]? with
  | some (.ClassDef _ _ _ body _ _ _ _ _ _ _) => (match body[j]? with
    | some (.FunctionDef _ args body _ _ _ scope _ _ _) => (args, body, scope)
    | _ => (⟨[], [], none, [], [], none, []⟩, [], ⟨.function, [], false, false, []⟩))
  | _ => (⟨[], [], none, [], [], none, []⟩, [], ⟨.function, [], false, false, []⟩)
noncomputable def resStr : Str := match PySem.Challenge.pw_pc0154_01.main.body[(59 : Nat)]? with
  | some (.Assign _ (.Constant (.str x) _ _) _) => x
  | _ => Str.ofString ""
noncomputable def arg_LedgerError_init : Arguments := (mT 2 0).1
noncomputable def b_LedgerError_init : List Stmt := (mT 2 0).2.1
noncomputable def s_LedgerError_init : Scope := (mT 2 0).2.2
noncomputable def arg_Named_init : Arguments := (mT 11 0).1
noncomputable def b_Named_init : List Stmt := (mT 11 0).2.1
noncomputable def s_Named_init : Scope := (mT 11 0).2.2
noncomputable def arg_Named_told : Arguments := (mT 11 1).1
noncomputable def b_Named_told : List Stmt := (mT 11 1).2.1
noncomputable def s_Named_told : Scope := (mT 11 1).2.2
noncomputable def arg_Item_init : Arguments := (mT 12 0).1
noncomputable def b_Item_init : List Stmt := (mT 12 0).2.1
noncomputable def s_Item_init : Scope := (mT 12 0).2.2
noncomputable def arg_Item_add : Arguments := (mT 12 1).1
noncomputable def b_Item_add : List Stmt := (mT 12 1).2.1
noncomputable def s_Item_add : Scope := (mT 12 1).2.2
noncomputable def arg_Data_init : Arguments := (mT 13 0).1
noncomputable def b_Data_init : List Stmt := (mT 13 0).2.1
noncomputable def s_Data_init : Scope := (mT 13 0).2.2
noncomputable def arg_Data_told : Arguments := (mT 13 1).1
noncomputable def b_Data_told : List Stmt := (mT 13 1).2.1
noncomputable def s_Data_told : Scope := (mT 13 1).2.2
noncomputable def arg_read_figure : Arguments := (fT 22).1
noncomputable def b_read_figure : List Stmt := (fT 22).2.1
noncomputable def s_read_figure : Scope := (fT 22).2.2
noncomputable def arg_read_operand : Arguments := (fT 23).1
noncomputable def b_read_operand : List Stmt := (fT 23).2.1
noncomputable def s_read_operand : Scope := (fT 23).2.2
noncomputable def arg_read_literal : Arguments := (fT 30).1
noncomputable def b_read_literal : List Stmt := (fT 30).2.1
noncomputable def s_read_literal : Scope := (fT 30).2.2
noncomputable def arg_read_named_clause : Arguments := (fT 33).1
noncomputable def b_read_named_clause : List Stmt := (fT 33).2.1
noncomputable def s_read_named_clause : Scope := (fT 33).2.2
noncomputable def arg_clause_word : Arguments := (fT 34).1
noncomputable def b_clause_word : List Stmt := (fT 34).2.1
noncomputable def s_clause_word : Scope := (fT 34).2.2
noncomputable def arg_read_bare_clause : Arguments := (fT 35).1
noncomputable def b_read_bare_clause : List Stmt := (fT 35).2.1
noncomputable def s_read_bare_clause : Scope := (fT 35).2.2
noncomputable def arg_read_clauses : Arguments := (fT 36).1
noncomputable def b_read_clauses : List Stmt := (fT 36).2.1
noncomputable def s_read_clauses : Scope := (fT 36).2.2
noncomputable def arg_read_worths : Arguments := (fT 37).1
noncomputable def b_read_worths : List Stmt := (fT 37).2.1
noncomputable def s_read_worths : Scope := (fT 37).2.2
noncomputable def arg_read_renames : Arguments := (fT 38).1
noncomputable def b_read_renames : List Stmt := (fT 38).2.1
noncomputable def s_read_renames : Scope := (fT 38).2.2
noncomputable def arg_read_entry : Arguments := (fT 39).1
noncomputable def b_read_entry : List Stmt := (fT 39).2.1
noncomputable def s_read_entry : Scope := (fT 39).2.2
noncomputable def arg_is_level_here : Arguments := (fT 40).1
noncomputable def b_is_level_here : List Stmt := (fT 40).2.1
noncomputable def s_is_level_here : Scope := (fT 40).2.2
noncomputable def arg_put_beneath : Arguments := (fT 41).1
noncomputable def b_put_beneath : List Stmt := (fT 41).2.1
noncomputable def s_put_beneath : Scope := (fT 41).2.2
noncomputable def arg_nested : Arguments := (fT 42).1
noncomputable def b_nested : List Stmt := (fT 42).2.1
noncomputable def s_nested : Scope := (fT 42).2.2
noncomputable def arg_read_entries : Arguments := (fT 43).1
noncomputable def b_read_entries : List Stmt := (fT 43).2.1
noncomputable def s_read_entries : Scope := (fT 43).2.2
noncomputable def arg_read_file_entry : Arguments := (fT 44).1
noncomputable def b_read_file_entry : List Stmt := (fT 44).2.1
noncomputable def s_read_file_entry : Scope := (fT 44).2.2
noncomputable def arg_skip_heading : Arguments := (fT 45).1
noncomputable def b_skip_heading : List Stmt := (fT 45).2.1
noncomputable def s_skip_heading : Scope := (fT 45).2.2
noncomputable def arg_read_data : Arguments := (fT 46).1
noncomputable def b_read_data : List Stmt := (fT 46).2.1
noncomputable def s_read_data : Scope := (fT 46).2.2
noncomputable def arg_decimal : Arguments := (fT 50).1
noncomputable def b_decimal : List Stmt := (fT 50).2.1
noncomputable def s_decimal : Scope := (fT 50).2.2
noncomputable def arg_units_at : Arguments := (fT 52).1
noncomputable def b_units_at : List Stmt := (fT 52).2.1
noncomputable def s_units_at : Scope := (fT 52).2.2
noncomputable def arg_is_whole : Arguments := (fT 53).1
noncomputable def b_is_whole : List Stmt := (fT 53).2.1
noncomputable def s_is_whole : Scope := (fT 53).2.2
noncomputable def arg_whole_of : Arguments := (fT 54).1
noncomputable def b_whole_of : List Stmt := (fT 54).2.1
noncomputable def s_whole_of : Scope := (fT 54).2.2
noncomputable def arg_worth_of : Arguments := (fT 55).1
noncomputable def b_worth_of : List Stmt := (fT 55).2.1
noncomputable def s_worth_of : Scope := (fT 55).2.2
noncomputable def arg_read_decimal : Arguments := (fT 56).1
noncomputable def b_read_decimal : List Stmt := (fT 56).2.1
noncomputable def s_read_decimal : Scope := (fT 56).2.2
noncomputable def arg_is_reserved : Arguments := (fT 60).1
noncomputable def b_is_reserved : List Stmt := (fT 60).2.1
noncomputable def s_is_reserved : Scope := (fT 60).2.2
noncomputable def arg_octets_of_text : Arguments := (fT 61).1
noncomputable def b_octets_of_text : List Stmt := (fT 61).2.1
noncomputable def s_octets_of_text : Scope := (fT 61).2.2
noncomputable def arg_Reader_init : Arguments := (mT 62 0).1
noncomputable def b_Reader_init : List Stmt := (mT 62 0).2.1
noncomputable def s_Reader_init : Scope := (mT 62 0).2.2
noncomputable def arg_Reader_peek : Arguments := (mT 62 1).1
noncomputable def b_Reader_peek : List Stmt := (mT 62 1).2.1
noncomputable def s_Reader_peek : Scope := (mT 62 1).2.2
noncomputable def arg_Reader_is_done : Arguments := (mT 62 2).1
noncomputable def b_Reader_is_done : List Stmt := (mT 62 2).2.1
noncomputable def s_Reader_is_done : Scope := (mT 62 2).2.2
noncomputable def arg_Reader_fault : Arguments := (mT 62 3).1
noncomputable def b_Reader_fault : List Stmt := (mT 62 3).2.1
noncomputable def s_Reader_fault : Scope := (mT 62 3).2.2
noncomputable def arg_Reader_take : Arguments := (mT 62 4).1
noncomputable def b_Reader_take : List Stmt := (mT 62 4).2.1
noncomputable def s_Reader_take : Scope := (mT 62 4).2.2
noncomputable def arg_Reader_is_kind : Arguments := (mT 62 5).1
noncomputable def b_Reader_is_kind : List Stmt := (mT 62 5).2.1
noncomputable def s_Reader_is_kind : Scope := (mT 62 5).2.2
noncomputable def arg_Reader_is_word : Arguments := (mT 62 6).1
noncomputable def b_Reader_is_word : List Stmt := (mT 62 6).2.1
noncomputable def s_Reader_is_word : Scope := (mT 62 6).2.2
noncomputable def arg_Reader_skip : Arguments := (mT 62 7).1
noncomputable def b_Reader_skip : List Stmt := (mT 62 7).2.1
noncomputable def s_Reader_skip : Scope := (mT 62 7).2.2
noncomputable def arg_Reader_need : Arguments := (mT 62 8).1
noncomputable def b_Reader_need : List Stmt := (mT 62 8).2.1
noncomputable def s_Reader_need : Scope := (mT 62 8).2.2
noncomputable def arg_Reader_one_of : Arguments := (mT 62 9).1
noncomputable def b_Reader_one_of : List Stmt := (mT 62 9).2.1
noncomputable def s_Reader_one_of : Scope := (mT 62 9).2.2
noncomputable def arg_Reader_is_name : Arguments := (mT 62 11).1
noncomputable def b_Reader_is_name : List Stmt := (mT 62 11).2.1
noncomputable def s_Reader_is_name : Scope := (mT 62 11).2.2
noncomputable def arg_Reader_name : Arguments := (mT 62 12).1
noncomputable def b_Reader_name : List Stmt := (mT 62 12).2.1
noncomputable def s_Reader_name : Scope := (mT 62 12).2.2
noncomputable def arg_Reader_is_sign : Arguments := (mT 62 14).1
noncomputable def b_Reader_is_sign : List Stmt := (mT 62 14).2.1
noncomputable def s_Reader_is_sign : Scope := (mT 62 14).2.2
noncomputable def arg_Reader_skip_sign : Arguments := (mT 62 15).1
noncomputable def b_Reader_skip_sign : List Stmt := (mT 62 15).2.1
noncomputable def s_Reader_skip_sign : Scope := (mT 62 15).2.2
noncomputable def arg_Reader_need_sign : Arguments := (mT 62 16).1
noncomputable def b_Reader_need_sign : List Stmt := (mT 62 16).2.1
noncomputable def s_Reader_need_sign : Scope := (mT 62 16).2.2
noncomputable def arg_Reader_is_number : Arguments := (mT 62 17).1
noncomputable def b_Reader_is_number : List Stmt := (mT 62 17).2.1
noncomputable def s_Reader_is_number : Scope := (mT 62 17).2.2
noncomputable def arg_Reader_signed : Arguments := (mT 62 18).1
noncomputable def b_Reader_signed : List Stmt := (mT 62 18).2.1
noncomputable def s_Reader_signed : Scope := (mT 62 18).2.2
noncomputable def arg_Reader_whole : Arguments := (mT 62 19).1
noncomputable def b_Reader_whole : List Stmt := (mT 62 19).2.1
noncomputable def s_Reader_whole : Scope := (mT 62 19).2.2
noncomputable def arg_Reader_octets : Arguments := (mT 62 21).1
noncomputable def b_Reader_octets : List Stmt := (mT 62 21).2.1
noncomputable def s_Reader_octets : Scope := (mT 62 21).2.2
noncomputable def arg_Token_init : Arguments := (mT 64 0).1
noncomputable def b_Token_init : List Stmt := (mT 64 0).2.1
noncomputable def s_Token_init : Scope := (mT 64 0).2.2
noncomputable def arg__law_draw : Arguments := (fT 66).1
noncomputable def b__law_draw : List Stmt := (fT 66).2.1
noncomputable def s__law_draw : Scope := (fT 66).2.2
noncomputable def arg__law_tokens : Arguments := (fT 67).1
noncomputable def b__law_tokens : List Stmt := (fT 67).2.1
noncomputable def s__law_tokens : Scope := (fT 67).2.2
noncomputable def arg__law_record : Arguments := (fT 68).1
noncomputable def b__law_record : List Stmt := (fT 68).2.1
noncomputable def s__law_record : Scope := (fT 68).2.2
noncomputable def arg__law_records : Arguments := (fT 69).1
noncomputable def b__law_records : List Stmt := (fT 69).2.1
noncomputable def s__law_records : Scope := (fT 69).2.2
noncomputable def arg__law_seen : Arguments := (fT 70).1
noncomputable def b__law_seen : List Stmt := (fT 70).2.1
noncomputable def s__law_seen : Scope := (fT 70).2.2
noncomputable def arg__law_refused : Arguments := (fT 71).1
noncomputable def b__law_refused : List Stmt := (fT 71).2.1
noncomputable def s__law_refused : Scope := (fT 71).2.2
noncomputable def arg_law : Arguments := (fT 72).1
noncomputable def b_law : List Stmt := (fT 72).2.1
noncomputable def s_law : Scope := (fT 72).2.2
noncomputable abbrev kh (P : Params) (x : String) := PyData.keyHash P (Str.ofString x)
noncomputable abbrev ks (x : String) (n : Tok) : Value := .str (Str.ofString x) n
noncomputable abbrev coA (n q : String) (t : Tok) (L A : Int) (r : Nat) (u v : Tok) : List Value := [ks n t, ks q (t + 1), ks "/claim/cut.py" (t + 2), .int L 0, .int A 0, .int 0 0, .int 0 0, .int 3 0, .ref r, .bool true, .int 181 0, .ref (r + 1), .none, .ref (r + 2), .ref (r + 3), .ref (r + 4), .int u 0, .int L 0, ks "/claim/cut.py" v]
noncomputable def o_3 (P : Params) : Obj := ⟨.type "dict", none, .dict (Array.mk [⟨kh P "__name__", ks "__name__" 165, ks "law_pc0154_01" 1137⟩, ⟨kh P "__doc__", ks "__doc__" 166, .none⟩, ⟨kh P "__package__", ks "__package__" 167, .none⟩, ⟨kh P "__loader__", ks "__loader__" 168, .builtin "__main__.__loader__#opaque"⟩, ⟨kh P "__spec__", ks "__spec__" 169, .none⟩, ⟨kh P "__annotations__", ks "__annotations__" 170, .ref 6⟩, ⟨kh P "__builtins__", ks "__builtins__" 171, .ref 4⟩, ⟨kh P "__file__", ks "__file__" 173, ks "/claim/cut.py" 172⟩, ⟨kh P "__cached__", ks "__cached__" 174, .none⟩, ⟨kh P "_wall", ks "_wall" 193, .ref 21⟩, ⟨kh P "LedgerError", ks "LedgerError" 235, .ref 47⟩, ⟨kh P "TokenFault", ks "TokenFault" 251, .ref 60⟩, ⟨kh P "DataFault", ks "DataFault" 267, .ref 72⟩, ⟨kh P "GrammarFault", ks "GrammarFault" 283, .ref 84⟩, ⟨kh P "FILLER", ks "FILLER" 287, ks "FILLER" 286⟩, ⟨kh P "RENAMING", ks "RENAMING" 289, .int 66 288⟩, ⟨kh P "ALONE", ks "ALONE" 291, .int 77 290⟩, ⟨kh P "Occurs", ks "Occurs" 335, .ref 113⟩, ⟨kh P "Named", ks "Named" 373, .ref 141⟩, ⟨kh P "Item", ks "Item" 451, .ref 188⟩, ⟨kh P "Data", ks "Data" 490, .ref 214⟩, ⟨kh P "MOST_SUBSCRIPTS", ks "MOST_SUBSCRIPTS" 494, .int 7 493⟩, ⟨kh P "FIGURE_NAMES", ks "FIGURE_NAMES" 528, .ref 219⟩, ⟨kh P "is_part_next", ks "is_part_next" 537, .ref 226⟩, ⟨kh P "read_subscripts", ks "read_subscripts" 546, .ref 233⟩, ⟨kh P "read_part", ks "read_part" 556, .ref 240⟩, ⟨kh P "read_ref", ks "read_ref" 568, .ref 247⟩, ⟨kh P "read_all", ks "read_all" 576, .ref 254⟩, ⟨kh P "read_figure", ks "read_figure" 583, .ref 261⟩, ⟨kh P "read_operand", ks "read_operand" 592, .ref 268⟩, ⟨kh P "NAMING", ks "NAMING" 596, .int 88 595⟩, ⟨kh P "MOST_LEVEL", ks "MOST_LEVEL" 598, .int 49 597⟩, ⟨kh P "MOST_NESTED", ks "MOST_NESTED" 600, .int 20 599⟩, ⟨kh P "USAGE_WORDS", ks "USAGE_WORDS" 625, .ref 269⟩, ⟨kh P "no_expression", ks "no_expression" 632, .ref 276⟩, ⟨kh P "read_literal", ks "read_literal" 639, .ref 283⟩, ⟨kh P "read_occurs", ks "read_occurs" 645, .ref 288⟩, ⟨kh P "read_sign", ks "read_sign" 654, .ref 295⟩, ⟨kh P "read_named_clause", ks "read_named_clause" 665, .ref 302⟩, ⟨kh P "clause_word", ks "clause_word" 673, .ref 309⟩, ⟨kh P "read_bare_clause", ks "read_bare_clause" 683, .ref 316⟩, ⟨kh P "read_clauses", ks "read_clauses" 694, .ref 323⟩, ⟨kh P "read_worths", ks "read_worths" 704, .ref 330⟩, ⟨kh P "read_renames", ks "read_renames" 713, .ref 337⟩, ⟨kh P "read_entry", ks "read_entry" 723, .ref 344⟩, ⟨kh P "is_level_here", ks "is_level_here" 731, .ref 351⟩, ⟨kh P "put_beneath", ks "put_beneath" 740, .ref 358⟩, ⟨kh P "nested", ks "nested" 753, .ref 365⟩, ⟨kh P "read_entries", ks "read_entries" 761, .ref 372⟩, ⟨kh P "read_file_entry", ks "read_file_entry" 773, .ref 379⟩, ⟨kh P "skip_heading", ks "skip_heading" 781, .ref 386⟩, ⟨kh P "read_data", ks "read_data" 789, .ref 393⟩, ⟨kh P "FIGURES", ks "FIGURES" 793, ks "0123456789" 792⟩, ⟨kh P "cut_quotient", ks "cut_quotient" 801, .ref 400⟩, ⟨kh P "decimal", ks "decimal" 810, .ref 408⟩, ⟨kh P "negated", ks "negated" 817, .ref 415⟩, ⟨kh P "units_at", ks "units_at" 828, .ref 422⟩, ⟨kh P "is_whole", ks "is_whole" 835, .ref 429⟩, ⟨kh P "whole_of", ks "whole_of" 842, .ref 436⟩, ⟨kh P "worth_of", ks "worth_of" 851, .ref 443⟩, ⟨kh P "read_decimal", ks "read_decimal" 864, .ref 450⟩, ⟨kh P "MOST_OCTET", ks "MOST_OCTET" 868, .int 255 867⟩, ⟨kh P "RESERVED", ks "RESERVED" 870, .str resStr 869⟩, ⟨kh P "is_reserved", ks "is_reserved" 877, .ref 457⟩, ⟨kh P "octets_of_text", ks "octets_of_text" 883, .ref 462⟩, ⟨kh P "Reader", ks "Reader" 1090, .ref 631⟩, ⟨kh P "Token", ks "Token" 1136, .ref 661⟩, ⟨kh P "_law_draw", ks "_law_draw" 1148, .ref 672⟩, ⟨kh P "_law_tokens", ks "_law_tokens" 1157, .ref 679⟩, ⟨kh P "_law_record", ks "_law_record" 1171, .ref 686⟩, ⟨kh P "_law_records", ks "_law_records" 1185, .ref 693⟩, ⟨kh P "_law_seen", ks "_law_seen" 1191, .ref 698⟩, ⟨kh P "_law_refused", ks "_law_refused" 1198, .ref 705⟩, ⟨kh P "law", ks "law" 1204, .ref 710⟩]) 74, Array.mk []⟩
noncomputable def o_46 (P : Params) : Obj := ⟨.type "dict", none, .dict (Array.mk [⟨kh P "__module__", ks "__module__" 203, ks "ledgerspeak.errors" 194⟩, ⟨kh P "__firstlineno__", ks "__firstlineno__" 207, .int 5 206⟩, ⟨kh P "__init__", ks "__init__" 218, .ref 37⟩, ⟨kh P "told", ks "told" 225, .ref 44⟩, ⟨kh P "__static_attributes__", ks "__static_attributes__" 228, .ref 45⟩, ⟨kh P "__weakref__", ks "__weakref__" 230, .ref 48⟩, ⟨kh P "__doc__", ks "__doc__" 231, .none⟩]) 3, Array.mk []⟩
noncomputable def o_47 (P : Params) : Obj := ⟨.type "type", none, .cls { name := (Str.ofString "LedgerError"), bases := [.type "Exception"], mro := [.ref 47, .type "Exception", .type "BaseException", .type "object"], ns := 46, qualname := (Str.ofString "LedgerError"), hasDict := true, slotNames := [], subclasses := [.ref 60, .ref 72, .ref 84], abstract := false, collection := none, hasDel := false }, Array.mk [some (.ref 22), none, some (ks "LedgerError" 196), some (ks "LedgerError" 204), some (.builtin "Exception.__new__"), some (.bool true)]⟩
noncomputable def o_83 (P : Params) : Obj := ⟨.type "dict", none, .dict (Array.mk [⟨kh P "__module__", ks "__module__" 275, ks "ledgerspeak.errors" 194⟩, ⟨kh P "__firstlineno__", ks "__firstlineno__" 279, .int 18 278⟩, ⟨kh P "__static_attributes__", ks "__static_attributes__" 280, .ref 82⟩, ⟨kh P "__doc__", ks "__doc__" 281, .none⟩]) 2, Array.mk []⟩
noncomputable def o_84 (P : Params) : Obj := ⟨.type "type", none, .cls { name := (Str.ofString "GrammarFault"), bases := [.ref 47], mro := [.ref 84, .ref 47, .type "Exception", .type "BaseException", .type "object"], ns := 83, qualname := (Str.ofString "GrammarFault"), hasDict := true, slotNames := [], subclasses := [], abstract := false, collection := none, hasDel := false }, Array.mk [some (.ref 75), none, some (ks "GrammarFault" 268), some (ks "GrammarFault" 276), some (.builtin "Exception.__new__"), some (.bool true)]⟩
noncomputable def o_140 (P : Params) : Obj := ⟨.type "dict", none, .dict (Array.mk [⟨kh P "__module__", ks "__module__" 343, ks "ledgerspeak.items" 284⟩, ⟨kh P "__firstlineno__", ks "__firstlineno__" 347, .int 35 346⟩, ⟨kh P "__init__", ks "__init__" 356, .ref 131⟩, ⟨kh P "told", ks "told" 363, .ref 138⟩, ⟨kh P "__static_attributes__", ks "__static_attributes__" 366, .ref 139⟩, ⟨kh P "__dict__", ks "__dict__" 368, .ref 142⟩, ⟨kh P "__weakref__", ks "__weakref__" 370, .ref 143⟩, ⟨kh P "__doc__", ks "__doc__" 371, .none⟩]) 4, Array.mk []⟩
noncomputable def o_141 (P : Params) : Obj := ⟨.type "type", none, .cls { name := (Str.ofString "Named"), bases := [.type "object"], mro := [.ref 141, .type "object"], ns := 140, qualname := (Str.ofString "Named"), hasDict := true, slotNames := [], subclasses := [], abstract := false, collection := none, hasDel := false }, Array.mk [none, none, some (ks "Named" 336), some (ks "Named" 344), some (.builtin "object.__new__"), some (.bool true)]⟩
noncomputable def o_187 (P : Params) : Obj := ⟨.type "dict", none, .dict (Array.mk [⟨kh P "__module__", ks "__module__" 381, ks "ledgerspeak.items" 284⟩, ⟨kh P "__firstlineno__", ks "__firstlineno__" 385, .int 43 384⟩, ⟨kh P "__init__", ks "__init__" 394, .ref 159⟩, ⟨kh P "add", ks "add" 402, .ref 166⟩, ⟨kh P "count", ks "count" 409, .ref 173⟩, ⟨kh P "clauses", ks "clauses" 418, .ref 180⟩, ⟨kh P "told", ks "told" 424, .ref 185⟩, ⟨kh P "__static_attributes__", ks "__static_attributes__" 444, .ref 186⟩, ⟨kh P "__dict__", ks "__dict__" 446, .ref 189⟩, ⟨kh P "__weakref__", ks "__weakref__" 448, .ref 190⟩, ⟨kh P "__doc__", ks "__doc__" 449, .none⟩]) 4, Array.mk []⟩
noncomputable def o_188 (P : Params) : Obj := ⟨.type "type", none, .cls { name := (Str.ofString "Item"), bases := [.type "object"], mro := [.ref 188, .type "object"], ns := 187, qualname := (Str.ofString "Item"), hasDict := true, slotNames := [], subclasses := [], abstract := false, collection := none, hasDel := false }, Array.mk [none, none, some (ks "Item" 374), some (ks "Item" 382), some (.builtin "object.__new__"), some (.bool true)]⟩
noncomputable def o_213 (P : Params) : Obj := ⟨.type "dict", none, .dict (Array.mk [⟨kh P "__module__", ks "__module__" 459, ks "ledgerspeak.items" 284⟩, ⟨kh P "__firstlineno__", ks "__firstlineno__" 463, .int 81 462⟩, ⟨kh P "__init__", ks "__init__" 470, .ref 206⟩, ⟨kh P "told", ks "told" 476, .ref 211⟩, ⟨kh P "__static_attributes__", ks "__static_attributes__" 483, .ref 212⟩, ⟨kh P "__dict__", ks "__dict__" 485, .ref 215⟩, ⟨kh P "__weakref__", ks "__weakref__" 487, .ref 216⟩, ⟨kh P "__doc__", ks "__doc__" 488, .none⟩]) 4, Array.mk []⟩
noncomputable def o_214 (P : Params) : Obj := ⟨.type "type", none, .cls { name := (Str.ofString "Data"), bases := [.type "object"], mro := [.ref 214, .type "object"], ns := 213, qualname := (Str.ofString "Data"), hasDict := true, slotNames := [], subclasses := [], abstract := false, collection := none, hasDel := false }, Array.mk [none, none, some (ks "Data" 452), some (ks "Data" 460), some (.builtin "object.__new__"), some (.bool true)]⟩
noncomputable def o_630 (P : Params) : Obj := ⟨.type "dict", none, .dict (Array.mk [⟨kh P "__module__", ks "__module__" 891, ks "ledgerspeak.reader" 865⟩, ⟨kh P "__firstlineno__", ks "__firstlineno__" 895, .int 425 894⟩, ⟨kh P "__init__", ks "__init__" 905, .ref 477⟩, ⟨kh P "peek", ks "peek" 914, .ref 485⟩, ⟨kh P "is_done", ks "is_done" 921, .ref 492⟩, ⟨kh P "fault", ks "fault" 929, .ref 499⟩, ⟨kh P "take", ks "take" 937, .ref 506⟩, ⟨kh P "is_kind", ks "is_kind" 948, .ref 514⟩, ⟨kh P "is_word", ks "is_word" 958, .ref 521⟩, ⟨kh P "skip", ks "skip" 966, .ref 528⟩, ⟨kh P "need", ks "need" 974, .ref 535⟩, ⟨kh P "one_of", ks "one_of" 983, .ref 542⟩, ⟨kh P "word", ks "word" 990, .ref 549⟩, ⟨kh P "is_name", ks "is_name" 999, .ref 557⟩, ⟨kh P "name", ks "name" 1006, .ref 564⟩, ⟨kh P "names", ks "names" 1014, .ref 571⟩, ⟨kh P "is_sign", ks "is_sign" 1024, .ref 579⟩, ⟨kh P "skip_sign", ks "skip_sign" 1032, .ref 586⟩, ⟨kh P "need_sign", ks "need_sign" 1040, .ref 593⟩, ⟨kh P "is_number", ks "is_number" 1047, .ref 600⟩, ⟨kh P "signed", ks "signed" 1056, .ref 607⟩, ⟨kh P "whole", ks "whole" 1064, .ref 614⟩, ⟨kh P "literal", ks "literal" 1071, .ref 621⟩, ⟨kh P "octets", ks "octets" 1079, .ref 628⟩, ⟨kh P "__static_attributes__", ks "__static_attributes__" 1083, .ref 629⟩, ⟨kh P "__dict__", ks "__dict__" 1085, .ref 632⟩, ⟨kh P "__weakref__", ks "__weakref__" 1087, .ref 633⟩, ⟨kh P "__doc__", ks "__doc__" 1088, .none⟩]) 4, Array.mk []⟩
noncomputable def o_631 (P : Params) : Obj := ⟨.type "type", none, .cls { name := (Str.ofString "Reader"), bases := [.type "object"], mro := [.ref 631, .type "object"], ns := 630, qualname := (Str.ofString "Reader"), hasDict := true, slotNames := [], subclasses := [], abstract := false, collection := none, hasDel := false }, Array.mk [none, none, some (ks "Reader" 884), some (ks "Reader" 892), some (.builtin "object.__new__"), some (.bool true)]⟩
noncomputable def o_660 (P : Params) : Obj := ⟨.type "dict", none, .dict (Array.mk [⟨kh P "__module__", ks "__module__" 1100, ks "ledgerspeak.tokens" 1091⟩, ⟨kh P "__firstlineno__", ks "__firstlineno__" 1104, .int 549 1103⟩, ⟨kh P "__init__", ks "__init__" 1117, .ref 651⟩, ⟨kh P "told", ks "told" 1124, .ref 658⟩, ⟨kh P "__static_attributes__", ks "__static_attributes__" 1129, .ref 659⟩, ⟨kh P "__dict__", ks "__dict__" 1131, .ref 662⟩, ⟨kh P "__weakref__", ks "__weakref__" 1133, .ref 663⟩, ⟨kh P "__doc__", ks "__doc__" 1134, .none⟩]) 4, Array.mk []⟩
noncomputable def o_661 (P : Params) : Obj := ⟨.type "type", none, .cls { name := (Str.ofString "Token"), bases := [.type "object"], mro := [.ref 661, .type "object"], ns := 660, qualname := (Str.ofString "Token"), hasDict := true, slotNames := [], subclasses := [], abstract := false, collection := none, hasDel := false }, Array.mk [none, none, some (ks "Token" 1093), some (ks "Token" 1101), some (.builtin "object.__new__"), some (.bool true)]⟩
noncomputable def o_219 (P : Params) : Obj := ⟨.type "dict", none, .dict (Array.mk [⟨kh P "ZERO", ks "ZERO" 495, ks "ZERO" 496⟩, ⟨kh P "ZEROS", ks "ZEROS" 497, ks "ZERO" 498⟩, ⟨kh P "ZEROES", ks "ZEROES" 499, ks "ZERO" 500⟩, ⟨kh P "SPACE", ks "SPACE" 501, ks "SPACE" 502⟩, ⟨kh P "SPACES", ks "SPACES" 503, ks "SPACE" 504⟩, ⟨kh P "HIGH-VALUE", ks "HIGH-VALUE" 505, ks "HIGH" 506⟩, ⟨kh P "HIGH-VALUES", ks "HIGH-VALUES" 507, ks "HIGH" 508⟩, ⟨kh P "LOW-VALUE", ks "LOW-VALUE" 509, ks "LOW" 510⟩, ⟨kh P "LOW-VALUES", ks "LOW-VALUES" 511, ks "LOW" 512⟩, ⟨kh P "QUOTE", ks "QUOTE" 513, ks "QUOTE" 514⟩, ⟨kh P "QUOTES", ks "QUOTES" 515, ks "QUOTE" 516⟩]) 11, Array.mk []⟩
noncomputable def o_269 (P : Params) : Obj := ⟨.type "dict", none, .dict (Array.mk [⟨kh P "DISPLAY", ks "DISPLAY" 601, ks "display" 602⟩, ⟨kh P "COMP", ks "COMP" 603, ks "binary" 604⟩, ⟨kh P "COMPUTATIONAL", ks "COMPUTATIONAL" 605, ks "binary" 606⟩, ⟨kh P "BINARY", ks "BINARY" 607, ks "binary" 608⟩, ⟨kh P "PACKED-DECIMAL", ks "PACKED-DECIMAL" 609, ks "packed" 610⟩, ⟨kh P "COMP-3", ks "COMP-3" 611, ks "packed" 612⟩, ⟨kh P "COMPUTATIONAL-3", ks "COMPUTATIONAL-3" 613, ks "packed" 614⟩, ⟨kh P "INDEX", ks "INDEX" 615, ks "index" 616⟩]) 8, Array.mk []⟩
noncomputable def o_37 (P : Params) : Obj := ⟨.type "function", none, .func (fnOf (Str.ofString "__init__") (Str.ofString "LedgerError.__init__") (arg_LedgerError_init) (b_LedgerError_init) (s_LedgerError_init) (.ref 30) (.none) (.none) (ks "ledgerspeak.errors" 194) none (.ref 36) (.none)), Array.mk []⟩
noncomputable def o_36 (P : Params) : Obj := ⟨.type "code", none, .fields (Array.mk (coA "__init__" "LedgerError.__init__" 210 7 3 31 216 217)), Array.mk []⟩
noncomputable def o_30 (P : Params) : Obj := ⟨.type "tuple", none, .seq (Array.mk [.ref 29]) 0, Array.mk []⟩
noncomputable def o_29 (P : Params) : Obj := ⟨.type "tuple", none, .seq (Array.mk [.int 0 208, .int 0 209]) 0, Array.mk []⟩
noncomputable def o_131 (P : Params) : Obj := ⟨.type "function", none, .func (fnOf (Str.ofString "__init__") (Str.ofString "Named.__init__") (arg_Named_init) (b_Named_init) (s_Named_init) (.none) (.none) (.none) (ks "ledgerspeak.items" 284) none (.ref 130) (.none)), Array.mk []⟩
noncomputable def o_130 (P : Params) : Obj := ⟨.type "code", none, .fields (Array.mk (coA "__init__" "Named.__init__" 348 37 3 125 354 355)), Array.mk []⟩
noncomputable def o_138 (P : Params) : Obj := ⟨.type "function", none, .func (fnOf (Str.ofString "told") (Str.ofString "Named.told") (arg_Named_told) (b_Named_told) (s_Named_told) (.none) (.none) (.none) (ks "ledgerspeak.items" 284) none (.ref 137) (.none)), Array.mk []⟩
noncomputable def o_137 (P : Params) : Obj := ⟨.type "code", none, .fields (Array.mk (coA "told" "Named.told" 357 41 1 132 361 362)), Array.mk []⟩
noncomputable def o_159 (P : Params) : Obj := ⟨.type "function", none, .func (fnOf (Str.ofString "__init__") (Str.ofString "Item.__init__") (arg_Item_init) (b_Item_init) (s_Item_init) (.none) (.none) (.none) (ks "ledgerspeak.items" 284) none (.ref 158) (.none)), Array.mk []⟩
noncomputable def o_158 (P : Params) : Obj := ⟨.type "code", none, .fields (Array.mk (coA "__init__" "Item.__init__" 386 45 3 153 392 393)), Array.mk []⟩
noncomputable def o_166 (P : Params) : Obj := ⟨.type "function", none, .func (fnOf (Str.ofString "add") (Str.ofString "Item.add") (arg_Item_add) (b_Item_add) (s_Item_add) (.none) (.none) (.none) (ks "ledgerspeak.items" 284) none (.ref 165) (.none)), Array.mk []⟩
noncomputable def o_165 (P : Params) : Obj := ⟨.type "code", none, .fields (Array.mk (coA "add" "Item.add" 395 66 2 160 400 401)), Array.mk []⟩
noncomputable def o_206 (P : Params) : Obj := ⟨.type "function", none, .func (fnOf (Str.ofString "__init__") (Str.ofString "Data.__init__") (arg_Data_init) (b_Data_init) (s_Data_init) (.none) (.none) (.none) (ks "ledgerspeak.items" 284) none (.ref 205) (.none)), Array.mk []⟩
noncomputable def o_205 (P : Params) : Obj := ⟨.type "code", none, .fields (Array.mk (coA "__init__" "Data.__init__" 464 83 1 200 468 469)), Array.mk []⟩
noncomputable def o_211 (P : Params) : Obj := ⟨.type "function", none, .func (fnOf (Str.ofString "told") (Str.ofString "Data.told") (arg_Data_told) (b_Data_told) (s_Data_told) (.none) (.none) (.none) (ks "ledgerspeak.items" 284) none (.ref 210) (.none)), Array.mk []⟩
noncomputable def o_210 (P : Params) : Obj := ⟨.type "code", none, .fields (Array.mk [ks "told" 471, ks "Data.told" 472, ks "/claim/cut.py" 473, .int 91 0, .int 1 0, .int 0 0, .int 0 0, .int 3 0, .ref 207, .bool true, .int 181 0, .ref 208, .none, .none, .none, .ref 209, .int 474 0, .int 91 0, ks "/claim/cut.py" 475]), Array.mk []⟩
noncomputable def o_261 (P : Params) : Obj := ⟨.type "function", none, .func (fnOf (Str.ofString "read_figure") (Str.ofString "read_figure") (arg_read_figure) (b_read_figure) (s_read_figure) (.none) (.none) (.none) (ks "ledgerspeak.references" 491) none (.ref 260) (.none)), Array.mk []⟩
noncomputable def o_260 (P : Params) : Obj := ⟨.type "code", none, .fields (Array.mk (coA "read_figure" "read_figure" 577 142 1 255 581 582)), Array.mk []⟩
noncomputable def o_268 (P : Params) : Obj := ⟨.type "function", none, .func (fnOf (Str.ofString "read_operand") (Str.ofString "read_operand") (arg_read_operand) (b_read_operand) (s_read_operand) (.none) (.none) (.none) (ks "ledgerspeak.references" 491) none (.ref 267) (.none)), Array.mk []⟩
noncomputable def o_267 (P : Params) : Obj := ⟨.type "code", none, .fields (Array.mk (coA "read_operand" "read_operand" 584 146 2 262 590 591)), Array.mk []⟩
noncomputable def o_283 (P : Params) : Obj := ⟨.type "function", none, .func (fnOf (Str.ofString "read_literal") (Str.ofString "read_literal") (arg_read_literal) (b_read_literal) (s_read_literal) (.none) (.none) (.none) (ks "ledgerspeak.dataread" 593) none (.ref 282) (.none)), Array.mk []⟩
noncomputable def o_282 (P : Params) : Obj := ⟨.type "code", none, .fields (Array.mk (coA "read_literal" "read_literal" 633 162 1 277 637 638)), Array.mk []⟩
noncomputable def o_302 (P : Params) : Obj := ⟨.type "function", none, .func (fnOf (Str.ofString "read_named_clause") (Str.ofString "read_named_clause") (arg_read_named_clause) (b_read_named_clause) (s_read_named_clause) (.none) (.none) (.none) (ks "ledgerspeak.dataread" 593) none (.ref 301) (.none)), Array.mk []⟩
noncomputable def o_301 (P : Params) : Obj := ⟨.type "code", none, .fields (Array.mk (coA "read_named_clause" "read_named_clause" 655 192 3 296 663 664)), Array.mk []⟩
noncomputable def o_309 (P : Params) : Obj := ⟨.type "function", none, .func (fnOf (Str.ofString "clause_word") (Str.ofString "clause_word") (arg_clause_word) (b_clause_word) (s_clause_word) (.none) (.none) (.none) (ks "ledgerspeak.dataread" 593) none (.ref 308) (.none)), Array.mk []⟩
noncomputable def o_308 (P : Params) : Obj := ⟨.type "code", none, .fields (Array.mk (coA "clause_word" "clause_word" 666 220 1 303 671 672)), Array.mk []⟩
noncomputable def o_316 (P : Params) : Obj := ⟨.type "function", none, .func (fnOf (Str.ofString "read_bare_clause") (Str.ofString "read_bare_clause") (arg_read_bare_clause) (b_read_bare_clause) (s_read_bare_clause) (.none) (.none) (.none) (ks "ledgerspeak.dataread" 593) none (.ref 315) (.none)), Array.mk []⟩
noncomputable def o_315 (P : Params) : Obj := ⟨.type "code", none, .fields (Array.mk (coA "read_bare_clause" "read_bare_clause" 674 230 2 310 681 682)), Array.mk []⟩
noncomputable def o_323 (P : Params) : Obj := ⟨.type "function", none, .func (fnOf (Str.ofString "read_clauses") (Str.ofString "read_clauses") (arg_read_clauses) (b_read_clauses) (s_read_clauses) (.none) (.none) (.none) (ks "ledgerspeak.dataread" 593) none (.ref 322) (.none)), Array.mk []⟩
noncomputable def o_322 (P : Params) : Obj := ⟨.type "code", none, .fields (Array.mk (coA "read_clauses" "read_clauses" 684 245 2 317 692 693)), Array.mk []⟩
noncomputable def o_330 (P : Params) : Obj := ⟨.type "function", none, .func (fnOf (Str.ofString "read_worths") (Str.ofString "read_worths") (arg_read_worths) (b_read_worths) (s_read_worths) (.none) (.none) (.none) (ks "ledgerspeak.dataread" 593) none (.ref 329) (.none)), Array.mk []⟩
noncomputable def o_329 (P : Params) : Obj := ⟨.type "code", none, .fields (Array.mk (coA "read_worths" "read_worths" 695 258 1 324 702 703)), Array.mk []⟩
noncomputable def o_337 (P : Params) : Obj := ⟨.type "function", none, .func (fnOf (Str.ofString "read_renames") (Str.ofString "read_renames") (arg_read_renames) (b_read_renames) (s_read_renames) (.none) (.none) (.none) (ks "ledgerspeak.dataread" 593) none (.ref 336) (.none)), Array.mk []⟩
noncomputable def o_336 (P : Params) : Obj := ⟨.type "code", none, .fields (Array.mk (coA "read_renames" "read_renames" 705 269 1 331 711 712)), Array.mk []⟩
noncomputable def o_344 (P : Params) : Obj := ⟨.type "function", none, .func (fnOf (Str.ofString "read_entry") (Str.ofString "read_entry") (arg_read_entry) (b_read_entry) (s_read_entry) (.none) (.none) (.none) (ks "ledgerspeak.dataread" 593) none (.ref 343) (.none)), Array.mk []⟩
noncomputable def o_343 (P : Params) : Obj := ⟨.type "code", none, .fields (Array.mk (coA "read_entry" "read_entry" 714 275 1 338 721 722)), Array.mk []⟩
noncomputable def o_351 (P : Params) : Obj := ⟨.type "function", none, .func (fnOf (Str.ofString "is_level_here") (Str.ofString "is_level_here") (arg_is_level_here) (b_is_level_here) (s_is_level_here) (.none) (.none) (.none) (ks "ledgerspeak.dataread" 593) none (.ref 350) (.none)), Array.mk []⟩
noncomputable def o_350 (P : Params) : Obj := ⟨.type "code", none, .fields (Array.mk (coA "is_level_here" "is_level_here" 724 293 1 345 729 730)), Array.mk []⟩
noncomputable def o_358 (P : Params) : Obj := ⟨.type "function", none, .func (fnOf (Str.ofString "put_beneath") (Str.ofString "put_beneath") (arg_put_beneath) (b_put_beneath) (s_put_beneath) (.none) (.none) (.none) (ks "ledgerspeak.dataread" 593) none (.ref 357) (.none)), Array.mk []⟩
noncomputable def o_357 (P : Params) : Obj := ⟨.type "code", none, .fields (Array.mk (coA "put_beneath" "put_beneath" 732 296 2 352 738 739)), Array.mk []⟩
noncomputable def o_365 (P : Params) : Obj := ⟨.type "function", none, .func (fnOf (Str.ofString "nested") (Str.ofString "nested") (arg_nested) (b_nested) (s_nested) (.none) (.none) (.none) (ks "ledgerspeak.dataread" 593) none (.ref 364) (.none)), Array.mk []⟩
noncomputable def o_364 (P : Params) : Obj := ⟨.type "code", none, .fields (Array.mk (coA "nested" "nested" 741 308 1 359 751 752)), Array.mk []⟩
noncomputable def o_372 (P : Params) : Obj := ⟨.type "function", none, .func (fnOf (Str.ofString "read_entries") (Str.ofString "read_entries") (arg_read_entries) (b_read_entries) (s_read_entries) (.none) (.none) (.none) (ks "ledgerspeak.dataread" 593) none (.ref 371) (.none)), Array.mk []⟩
noncomputable def o_371 (P : Params) : Obj := ⟨.type "code", none, .fields (Array.mk (coA "read_entries" "read_entries" 754 331 1 366 759 760)), Array.mk []⟩
noncomputable def o_379 (P : Params) : Obj := ⟨.type "function", none, .func (fnOf (Str.ofString "read_file_entry") (Str.ofString "read_file_entry") (arg_read_file_entry) (b_read_file_entry) (s_read_file_entry) (.none) (.none) (.none) (ks "ledgerspeak.dataread" 593) none (.ref 378) (.none)), Array.mk []⟩
noncomputable def o_378 (P : Params) : Obj := ⟨.type "code", none, .fields (Array.mk (coA "read_file_entry" "read_file_entry" 762 336 3 373 771 772)), Array.mk []⟩
noncomputable def o_386 (P : Params) : Obj := ⟨.type "function", none, .func (fnOf (Str.ofString "skip_heading") (Str.ofString "skip_heading") (arg_skip_heading) (b_skip_heading) (s_skip_heading) (.none) (.none) (.none) (ks "ledgerspeak.dataread" 593) none (.ref 385) (.none)), Array.mk []⟩
noncomputable def o_385 (P : Params) : Obj := ⟨.type "code", none, .fields (Array.mk (coA "skip_heading" "skip_heading" 774 349 2 380 779 780)), Array.mk []⟩
noncomputable def o_393 (P : Params) : Obj := ⟨.type "function", none, .func (fnOf (Str.ofString "read_data") (Str.ofString "read_data") (arg_read_data) (b_read_data) (s_read_data) (.none) (.none) (.none) (ks "ledgerspeak.dataread" 593) none (.ref 392) (.none)), Array.mk []⟩
noncomputable def o_392 (P : Params) : Obj := ⟨.type "code", none, .fields (Array.mk (coA "read_data" "read_data" 782 354 1 387 787 788)), Array.mk []⟩
noncomputable def o_408 (P : Params) : Obj := ⟨.type "function", none, .func (fnOf (Str.ofString "decimal") (Str.ofString "decimal") (arg_decimal) (b_decimal) (s_decimal) (.ref 401) (.none) (.none) (ks "ledgerspeak.decimals" 790) none (.ref 407) (.none)), Array.mk []⟩
noncomputable def o_407 (P : Params) : Obj := ⟨.type "code", none, .fields (Array.mk (coA "decimal" "decimal" 803 374 2 402 808 809)), Array.mk []⟩
noncomputable def o_401 (P : Params) : Obj := ⟨.type "tuple", none, .seq (Array.mk [.int 0 802]) 0, Array.mk []⟩
noncomputable def o_422 (P : Params) : Obj := ⟨.type "function", none, .func (fnOf (Str.ofString "units_at") (Str.ofString "units_at") (arg_units_at) (b_units_at) (s_units_at) (.none) (.none) (.none) (ks "ledgerspeak.decimals" 790) none (.ref 421) (.none)), Array.mk []⟩
noncomputable def o_421 (P : Params) : Obj := ⟨.type "code", none, .fields (Array.mk (coA "units_at" "units_at" 818 383 3 416 826 827)), Array.mk []⟩
noncomputable def o_429 (P : Params) : Obj := ⟨.type "function", none, .func (fnOf (Str.ofString "is_whole") (Str.ofString "is_whole") (arg_is_whole) (b_is_whole) (s_is_whole) (.none) (.none) (.none) (ks "ledgerspeak.decimals" 790) none (.ref 428) (.none)), Array.mk []⟩
noncomputable def o_428 (P : Params) : Obj := ⟨.type "code", none, .fields (Array.mk (coA "is_whole" "is_whole" 829 391 1 423 833 834)), Array.mk []⟩
noncomputable def o_436 (P : Params) : Obj := ⟨.type "function", none, .func (fnOf (Str.ofString "whole_of") (Str.ofString "whole_of") (arg_whole_of) (b_whole_of) (s_whole_of) (.none) (.none) (.none) (ks "ledgerspeak.decimals" 790) none (.ref 435) (.none)), Array.mk []⟩
noncomputable def o_435 (P : Params) : Obj := ⟨.type "code", none, .fields (Array.mk (coA "whole_of" "whole_of" 836 393 1 430 840 841)), Array.mk []⟩
noncomputable def o_443 (P : Params) : Obj := ⟨.type "function", none, .func (fnOf (Str.ofString "worth_of") (Str.ofString "worth_of") (arg_worth_of) (b_worth_of) (s_worth_of) (.none) (.none) (.none) (ks "ledgerspeak.decimals" 790) none (.ref 442) (.none)), Array.mk []⟩
noncomputable def o_442 (P : Params) : Obj := ⟨.type "code", none, .fields (Array.mk (coA "worth_of" "worth_of" 843 395 1 437 849 850)), Array.mk []⟩
noncomputable def o_450 (P : Params) : Obj := ⟨.type "function", none, .func (fnOf (Str.ofString "read_decimal") (Str.ofString "read_decimal") (arg_read_decimal) (b_read_decimal) (s_read_decimal) (.none) (.none) (.none) (ks "ledgerspeak.decimals" 790) none (.ref 449) (.none)), Array.mk []⟩
noncomputable def o_449 (P : Params) : Obj := ⟨.type "code", none, .fields (Array.mk (coA "read_decimal" "read_decimal" 852 400 1 444 862 863)), Array.mk []⟩
noncomputable def o_457 (P : Params) : Obj := ⟨.type "function", none, .func (fnOf (Str.ofString "is_reserved") (Str.ofString "is_reserved") (arg_is_reserved) (b_is_reserved) (s_is_reserved) (.none) (.none) (.none) (ks "ledgerspeak.reader" 865) none (.ref 456) (.none)), Array.mk []⟩
noncomputable def o_456 (P : Params) : Obj := ⟨.type "code", none, .fields (Array.mk (coA "is_reserved" "is_reserved" 871 418 1 451 875 876)), Array.mk []⟩
noncomputable def o_462 (P : Params) : Obj := ⟨.type "function", none, .func (fnOf (Str.ofString "octets_of_text") (Str.ofString "octets_of_text") (arg_octets_of_text) (b_octets_of_text) (s_octets_of_text) (.none) (.none) (.none) (ks "ledgerspeak.reader" 865) none (.ref 461) (.none)), Array.mk []⟩
noncomputable def o_461 (P : Params) : Obj := ⟨.type "code", none, .fields (Array.mk [ks "octets_of_text" 878, ks "octets_of_text" 879, ks "/claim/cut.py" 880, .int 420 0, .int 1 0, .int 0 0, .int 0 0, .int 3 0, .ref 458, .bool true, .int 181 0, .ref 459, .none, .none, .none, .ref 460, .int 881 0, .int 420 0, ks "/claim/cut.py" 882]), Array.mk []⟩
noncomputable def o_477 (P : Params) : Obj := ⟨.type "function", none, .func (fnOf (Str.ofString "__init__") (Str.ofString "Reader.__init__") (arg_Reader_init) (b_Reader_init) (s_Reader_init) (.ref 470) (.none) (.none) (ks "ledgerspeak.reader" 865) none (.ref 476) (.none)), Array.mk []⟩
noncomputable def o_476 (P : Params) : Obj := ⟨.type "code", none, .fields (Array.mk (coA "__init__" "Reader.__init__" 897 427 3 471 903 904)), Array.mk []⟩
noncomputable def o_470 (P : Params) : Obj := ⟨.type "tuple", none, .seq (Array.mk [.int 0 896]) 0, Array.mk []⟩
noncomputable def o_485 (P : Params) : Obj := ⟨.type "function", none, .func (fnOf (Str.ofString "peek") (Str.ofString "Reader.peek") (arg_Reader_peek) (b_Reader_peek) (s_Reader_peek) (.ref 478) (.none) (.none) (ks "ledgerspeak.reader" 865) none (.ref 484) (.none)), Array.mk []⟩
noncomputable def o_484 (P : Params) : Obj := ⟨.type "code", none, .fields (Array.mk (coA "peek" "Reader.peek" 907 432 2 479 912 913)), Array.mk []⟩
noncomputable def o_478 (P : Params) : Obj := ⟨.type "tuple", none, .seq (Array.mk [.int 0 906]) 0, Array.mk []⟩
noncomputable def o_492 (P : Params) : Obj := ⟨.type "function", none, .func (fnOf (Str.ofString "is_done") (Str.ofString "Reader.is_done") (arg_Reader_is_done) (b_Reader_is_done) (s_Reader_is_done) (.none) (.none) (.none) (ks "ledgerspeak.reader" 865) none (.ref 491) (.none)), Array.mk []⟩
noncomputable def o_491 (P : Params) : Obj := ⟨.type "code", none, .fields (Array.mk (coA "is_done" "Reader.is_done" 915 437 1 486 919 920)), Array.mk []⟩
noncomputable def o_499 (P : Params) : Obj := ⟨.type "function", none, .func (fnOf (Str.ofString "fault") (Str.ofString "Reader.fault") (arg_Reader_fault) (b_Reader_fault) (s_Reader_fault) (.none) (.none) (.none) (ks "ledgerspeak.reader" 865) none (.ref 498) (.none)), Array.mk []⟩
noncomputable def o_498 (P : Params) : Obj := ⟨.type "code", none, .fields (Array.mk (coA "fault" "Reader.fault" 922 440 2 493 927 928)), Array.mk []⟩
noncomputable def o_506 (P : Params) : Obj := ⟨.type "function", none, .func (fnOf (Str.ofString "take") (Str.ofString "Reader.take") (arg_Reader_take) (b_Reader_take) (s_Reader_take) (.none) (.none) (.none) (ks "ledgerspeak.reader" 865) none (.ref 505) (.none)), Array.mk []⟩
noncomputable def o_505 (P : Params) : Obj := ⟨.type "code", none, .fields (Array.mk (coA "take" "Reader.take" 930 445 1 500 935 936)), Array.mk []⟩
noncomputable def o_514 (P : Params) : Obj := ⟨.type "function", none, .func (fnOf (Str.ofString "is_kind") (Str.ofString "Reader.is_kind") (arg_Reader_is_kind) (b_Reader_is_kind) (s_Reader_is_kind) (.ref 507) (.none) (.none) (ks "ledgerspeak.reader" 865) none (.ref 513) (.none)), Array.mk []⟩
noncomputable def o_513 (P : Params) : Obj := ⟨.type "code", none, .fields (Array.mk (coA "is_kind" "Reader.is_kind" 939 452 3 508 946 947)), Array.mk []⟩
noncomputable def o_507 (P : Params) : Obj := ⟨.type "tuple", none, .seq (Array.mk [.int 0 938]) 0, Array.mk []⟩
noncomputable def o_521 (P : Params) : Obj := ⟨.type "function", none, .func (fnOf (Str.ofString "is_word") (Str.ofString "Reader.is_word") (arg_Reader_is_word) (b_Reader_is_word) (s_Reader_is_word) (.none) (.none) (.none) (ks "ledgerspeak.reader" 865) none (.ref 520) (.none)), Array.mk []⟩
noncomputable def o_520 (P : Params) : Obj := ⟨.type "code", none, .fields (Array.mk (coA "is_word" "Reader.is_word" 949 456 2 515 956 957)), Array.mk []⟩
noncomputable def o_528 (P : Params) : Obj := ⟨.type "function", none, .func (fnOf (Str.ofString "skip") (Str.ofString "Reader.skip") (arg_Reader_skip) (b_Reader_skip) (s_Reader_skip) (.none) (.none) (.none) (ks "ledgerspeak.reader" 865) none (.ref 527) (.none)), Array.mk []⟩
noncomputable def o_527 (P : Params) : Obj := ⟨.type "code", none, .fields (Array.mk (coA "skip" "Reader.skip" 959 464 2 522 964 965)), Array.mk []⟩
noncomputable def o_535 (P : Params) : Obj := ⟨.type "function", none, .func (fnOf (Str.ofString "need") (Str.ofString "Reader.need") (arg_Reader_need) (b_Reader_need) (s_Reader_need) (.none) (.none) (.none) (ks "ledgerspeak.reader" 865) none (.ref 534) (.none)), Array.mk []⟩
noncomputable def o_534 (P : Params) : Obj := ⟨.type "code", none, .fields (Array.mk (coA "need" "Reader.need" 967 470 2 529 972 973)), Array.mk []⟩
noncomputable def o_542 (P : Params) : Obj := ⟨.type "function", none, .func (fnOf (Str.ofString "one_of") (Str.ofString "Reader.one_of") (arg_Reader_one_of) (b_Reader_one_of) (s_Reader_one_of) (.none) (.none) (.none) (ks "ledgerspeak.reader" 865) none (.ref 541) (.none)), Array.mk []⟩
noncomputable def o_541 (P : Params) : Obj := ⟨.type "code", none, .fields (Array.mk (coA "one_of" "Reader.one_of" 975 474 2 536 981 982)), Array.mk []⟩
noncomputable def o_557 (P : Params) : Obj := ⟨.type "function", none, .func (fnOf (Str.ofString "is_name") (Str.ofString "Reader.is_name") (arg_Reader_is_name) (b_Reader_is_name) (s_Reader_is_name) (.ref 550) (.none) (.none) (ks "ledgerspeak.reader" 865) none (.ref 556) (.none)), Array.mk []⟩
noncomputable def o_556 (P : Params) : Obj := ⟨.type "code", none, .fields (Array.mk (coA "is_name" "Reader.is_name" 992 485 2 551 997 998)), Array.mk []⟩
noncomputable def o_550 (P : Params) : Obj := ⟨.type "tuple", none, .seq (Array.mk [.int 0 991]) 0, Array.mk []⟩
noncomputable def o_564 (P : Params) : Obj := ⟨.type "function", none, .func (fnOf (Str.ofString "name") (Str.ofString "Reader.name") (arg_Reader_name) (b_Reader_name) (s_Reader_name) (.none) (.none) (.none) (ks "ledgerspeak.reader" 865) none (.ref 563) (.none)), Array.mk []⟩
noncomputable def o_563 (P : Params) : Obj := ⟨.type "code", none, .fields (Array.mk (coA "name" "Reader.name" 1000 488 1 558 1004 1005)), Array.mk []⟩
noncomputable def o_579 (P : Params) : Obj := ⟨.type "function", none, .func (fnOf (Str.ofString "is_sign") (Str.ofString "Reader.is_sign") (arg_Reader_is_sign) (b_Reader_is_sign) (s_Reader_is_sign) (.ref 572) (.none) (.none) (ks "ledgerspeak.reader" 865) none (.ref 578) (.none)), Array.mk []⟩
noncomputable def o_578 (P : Params) : Obj := ⟨.type "code", none, .fields (Array.mk (coA "is_sign" "Reader.is_sign" 1016 499 3 573 1022 1023)), Array.mk []⟩
noncomputable def o_572 (P : Params) : Obj := ⟨.type "tuple", none, .seq (Array.mk [.int 0 1015]) 0, Array.mk []⟩
noncomputable def o_586 (P : Params) : Obj := ⟨.type "function", none, .func (fnOf (Str.ofString "skip_sign") (Str.ofString "Reader.skip_sign") (arg_Reader_skip_sign) (b_Reader_skip_sign) (s_Reader_skip_sign) (.none) (.none) (.none) (ks "ledgerspeak.reader" 865) none (.ref 585) (.none)), Array.mk []⟩
noncomputable def o_585 (P : Params) : Obj := ⟨.type "code", none, .fields (Array.mk (coA "skip_sign" "Reader.skip_sign" 1025 502 2 580 1030 1031)), Array.mk []⟩
noncomputable def o_593 (P : Params) : Obj := ⟨.type "function", none, .func (fnOf (Str.ofString "need_sign") (Str.ofString "Reader.need_sign") (arg_Reader_need_sign) (b_Reader_need_sign) (s_Reader_need_sign) (.none) (.none) (.none) (ks "ledgerspeak.reader" 865) none (.ref 592) (.none)), Array.mk []⟩
noncomputable def o_592 (P : Params) : Obj := ⟨.type "code", none, .fields (Array.mk (coA "need_sign" "Reader.need_sign" 1033 508 2 587 1038 1039)), Array.mk []⟩
noncomputable def o_600 (P : Params) : Obj := ⟨.type "function", none, .func (fnOf (Str.ofString "is_number") (Str.ofString "Reader.is_number") (arg_Reader_is_number) (b_Reader_is_number) (s_Reader_is_number) (.none) (.none) (.none) (ks "ledgerspeak.reader" 865) none (.ref 599) (.none)), Array.mk []⟩
noncomputable def o_599 (P : Params) : Obj := ⟨.type "code", none, .fields (Array.mk (coA "is_number" "Reader.is_number" 1041 512 1 594 1045 1046)), Array.mk []⟩
noncomputable def o_607 (P : Params) : Obj := ⟨.type "function", none, .func (fnOf (Str.ofString "signed") (Str.ofString "Reader.signed") (arg_Reader_signed) (b_Reader_signed) (s_Reader_signed) (.none) (.none) (.none) (ks "ledgerspeak.reader" 865) none (.ref 606) (.none)), Array.mk []⟩
noncomputable def o_606 (P : Params) : Obj := ⟨.type "code", none, .fields (Array.mk (coA "signed" "Reader.signed" 1048 517 1 601 1054 1055)), Array.mk []⟩
noncomputable def o_614 (P : Params) : Obj := ⟨.type "function", none, .func (fnOf (Str.ofString "whole") (Str.ofString "Reader.whole") (arg_Reader_whole) (b_Reader_whole) (s_Reader_whole) (.none) (.none) (.none) (ks "ledgerspeak.reader" 865) none (.ref 613) (.none)), Array.mk []⟩
noncomputable def o_613 (P : Params) : Obj := ⟨.type "code", none, .fields (Array.mk (coA "whole" "Reader.whole" 1057 526 1 608 1062 1063)), Array.mk []⟩
noncomputable def o_628 (P : Params) : Obj := ⟨.type "function", none, .func (fnOf (Str.ofString "octets") (Str.ofString "Reader.octets") (arg_Reader_octets) (b_Reader_octets) (s_Reader_octets) (.none) (.none) (.none) (ks "ledgerspeak.reader" 865) none (.ref 627) (.none)), Array.mk []⟩
noncomputable def o_627 (P : Params) : Obj := ⟨.type "code", none, .fields (Array.mk (coA "octets" "Reader.octets" 1072 540 1 622 1077 1078)), Array.mk []⟩
noncomputable def o_651 (P : Params) : Obj := ⟨.type "function", none, .func (fnOf (Str.ofString "__init__") (Str.ofString "Token.__init__") (arg_Token_init) (b_Token_init) (s_Token_init) (.ref 644) (.none) (.none) (ks "ledgerspeak.tokens" 1091) none (.ref 650) (.none)), Array.mk []⟩
noncomputable def o_650 (P : Params) : Obj := ⟨.type "code", none, .fields (Array.mk (coA "__init__" "Token.__init__" 1107 551 5 645 1115 1116)), Array.mk []⟩
noncomputable def o_644 (P : Params) : Obj := ⟨.type "tuple", none, .seq (Array.mk [.ref 643, .bool false]) 0, Array.mk []⟩
noncomputable def o_643 (P : Params) : Obj := ⟨.type "tuple", none, .seq (Array.mk [.int 0 1105, .int 0 1106]) 0, Array.mk []⟩
noncomputable def o_672 (P : Params) : Obj := ⟨.type "function", none, .func (fnOf (Str.ofString "_law_draw") (Str.ofString "_law_draw") (arg__law_draw) (b__law_draw) (s__law_draw) (.none) (.none) (.none) (ks "law_pc0154_01" 1137) none (.ref 671) (.none)), Array.mk []⟩
noncomputable def o_671 (P : Params) : Obj := ⟨.type "code", none, .fields (Array.mk (coA "_law_draw" "_law_draw" 1139 560 2 666 1146 1147)), Array.mk []⟩
noncomputable def o_679 (P : Params) : Obj := ⟨.type "function", none, .func (fnOf (Str.ofString "_law_tokens") (Str.ofString "_law_tokens") (arg__law_tokens) (b__law_tokens) (s__law_tokens) (.none) (.none) (.none) (ks "law_pc0154_01" 1137) none (.ref 678) (.none)), Array.mk []⟩
noncomputable def o_678 (P : Params) : Obj := ⟨.type "code", none, .fields (Array.mk (coA "_law_tokens" "_law_tokens" 1149 564 1 673 1155 1156)), Array.mk []⟩
noncomputable def o_686 (P : Params) : Obj := ⟨.type "function", none, .func (fnOf (Str.ofString "_law_record") (Str.ofString "_law_record") (arg__law_record) (b__law_record) (s__law_record) (.none) (.none) (.none) (ks "law_pc0154_01" 1137) none (.ref 685) (.none)), Array.mk []⟩
noncomputable def o_685 (P : Params) : Obj := ⟨.type "code", none, .fields (Array.mk (coA "_law_record" "_law_record" 1158 574 2 680 1169 1170)), Array.mk []⟩
noncomputable def o_693 (P : Params) : Obj := ⟨.type "function", none, .func (fnOf (Str.ofString "_law_records") (Str.ofString "_law_records") (arg__law_records) (b__law_records) (s__law_records) (.none) (.none) (.none) (ks "law_pc0154_01" 1137) none (.ref 692) (.none)), Array.mk []⟩
noncomputable def o_692 (P : Params) : Obj := ⟨.type "code", none, .fields (Array.mk (coA "_law_records" "_law_records" 1172 589 3 687 1183 1184)), Array.mk []⟩
noncomputable def o_698 (P : Params) : Obj := ⟨.type "function", none, .func (fnOf (Str.ofString "_law_seen") (Str.ofString "_law_seen") (arg__law_seen) (b__law_seen) (s__law_seen) (.none) (.none) (.none) (ks "law_pc0154_01" 1137) none (.ref 697) (.none)), Array.mk []⟩
noncomputable def o_697 (P : Params) : Obj := ⟨.type "code", none, .fields (Array.mk [ks "_law_seen" 1186, ks "_law_seen" 1187, ks "/claim/cut.py" 1188, .int 595 0, .int 1 0, .int 0 0, .int 0 0, .int 3 0, .ref 694, .bool true, .int 181 0, .ref 695, .none, .none, .none, .ref 696, .int 1189 0, .int 595 0, ks "/claim/cut.py" 1190]), Array.mk []⟩
noncomputable def o_705 (P : Params) : Obj := ⟨.type "function", none, .func (fnOf (Str.ofString "_law_refused") (Str.ofString "_law_refused") (arg__law_refused) (b__law_refused) (s__law_refused) (.none) (.none) (.none) (ks "law_pc0154_01" 1137) none (.ref 704) (.none)), Array.mk []⟩
noncomputable def o_704 (P : Params) : Obj := ⟨.type "code", none, .fields (Array.mk (coA "_law_refused" "_law_refused" 1192 598 1 699 1196 1197)), Array.mk []⟩
noncomputable def o_710 (P : Params) : Obj := ⟨.type "function", none, .func (fnOf (Str.ofString "law") (Str.ofString "law") (arg_law) (b_law) (s_law) (.none) (.none) (.none) (ks "law_pc0154_01" 1137) none (.ref 709) (.none)), Array.mk []⟩
noncomputable def o_709 (P : Params) : Obj := ⟨.type "code", none, .fields (Array.mk [ks "law" 1199, ks "law" 1200, ks "/claim/cut.py" 1201, .int 604 0, .int 1 0, .int 0 0, .int 0 0, .int 3 0, .ref 706, .bool true, .int 181 0, .ref 707, .none, .none, .none, .ref 708, .int 1202 0, .int 604 0, ks "/claim/cut.py" 1203]), Array.mk []⟩
noncomputable def K0 (P : Params) : Frag := [(0, boot_o_0 P), (3, o_3 P), (46, o_46 P), (47, o_47 P), (83, o_83 P), (84, o_84 P), (140, o_140 P), (141, o_141 P), (187, o_187 P), (188, o_188 P), (213, o_213 P), (214, o_214 P), (630, o_630 P), (631, o_631 P), (660, o_660 P), (661, o_661 P), (219, o_219 P), (269, o_269 P), (37, o_37 P), (36, o_36 P), (30, o_30 P), (29, o_29 P), (131, o_131 P), (130, o_130 P), (138, o_138 P), (137, o_137 P), (159, o_159 P), (158, o_158 P), (166, o_166 P), (165, o_165 P), (206, o_206 P), (205, o_205 P), (211, o_211 P), (210, o_210 P), (261, o_261 P), (260, o_260 P), (268, o_268 P), (267, o_267 P), (283, o_283 P), (282, o_282 P), (302, o_302 P), (301, o_301 P), (309, o_309 P), (308, o_308 P), (316, o_316 P), (315, o_315 P), (323, o_323 P), (322, o_322 P), (330, o_330 P), (329, o_329 P), (337, o_337 P), (336, o_336 P), (344, o_344 P), (343, o_343 P), (351, o_351 P), (350, o_350 P), (358, o_358 P), (357, o_357 P), (365, o_365 P), (364, o_364 P), (372, o_372 P), (371, o_371 P), (379, o_379 P), (378, o_378 P), (386, o_386 P), (385, o_385 P), (393, o_393 P), (392, o_392 P), (408, o_408 P), (407, o_407 P), (401, o_401 P), (422, o_422 P), (421, o_421 P), (429, o_429 P), (428, o_428 P), (436, o_436 P), (435, o_435 P), (443, o_443 P), (442, o_442 P), (450, o_450 P), (449, o_449 P), (457, o_457 P), (456, o_456 P), (462, o_462 P), (461, o_461 P), (477, o_477 P), (476, o_476 P), (470, o_470 P), (485, o_485 P), (484, o_484 P), (478, o_478 P), (492, o_492 P), (491, o_491 P), (499, o_499 P), (498, o_498 P), (506, o_506 P), (505, o_505 P), (514, o_514 P), (513, o_513 P), (507, o_507 P), (521, o_521 P), (520, o_520 P), (528, o_528 P), (527, o_527 P), (535, o_535 P), (534, o_534 P), (542, o_542 P), (541, o_541 P), (557, o_557 P), (556, o_556 P), (550, o_550 P), (564, o_564 P), (563, o_563 P), (579, o_579 P), (578, o_578 P), (572, o_572 P), (586, o_586 P), (585, o_585 P), (593, o_593 P), (592, o_592 P), (600, o_600 P), (599, o_599 P), (607, o_607 P), (606, o_606 P), (614, o_614 P), (613, o_613 P), (628, o_628 P), (627, o_627 P), (651, o_651 P), (650, o_650 P), (644, o_644 P), (643, o_643 P), (672, o_672 P), (671, o_671 P), (679, o_679 P), (678, o_678 P), (686, o_686 P), (685, o_685 P), (693, o_693 P), (692, o_692 P), (698, o_698 P), (697, o_697 P), (705, o_705 P), (704, o_704 P), (710, o_710 P), (709, o_709 P)]
end
end
section
set_option tactic.hygienic true
structure Top (g : G) : Prop where
  ok : GOk g
  K : g.K = K0 g.w.params
theorem Top.inK (T : Top g) {σ : Store} {s : Shared} (I : Inv g σ s) : g.K.In s.heap := T.ok.K.keeps I.base
theorem Top.base (T : Top g) {a : Addr} {o : Obj} (e : (K0 g.w.params).lookup a = some o) : g.h₀.get? a = some o := T.ok.K a o (by rw [T.K]; exact e)
theorem Top.hb (T : Top g) : sysModules < g.h₀.objs.size := Nat.lt_trans (show sysModules < 3 by decide) (Heap.lt_size (T.base (a := 3) rfl))
theorem binds_of (T : Top g) {fd : FuncData} {args : Args} {binds : List (Str × Value)} {σ : Store} {s : Shared} (I : Inv g σ s) (e : ∀ S, peek (K0 g.w.params) S (bindArgs fd args) = some binds) : BindsTo s fd args binds :=
  fun M A E Q q => (Looks.of_peek (M := M) (K := K0 g.w.params) (by rw [← T.K]; exact T.inK I) (e _)).here q
theorem c_fn' (T : Top g) {k : Nat} {Q : V → Store → Prop} {X : Addr → Prop} {σ : Store} {f : Addr} {fd : FuncData} {body : List Stmt} {vs ws : List V} {ps : List String} (hf : FnIs g f fd body) (bind : Binds g fd vs ps ws σ)
    (hcell : (fd.scope.names.all fun x => decide (x.2 ≠ .cell)) = true) (hloc : (ps.all fun p => decide (fd.scope.names.lookup (Str.ofString p) = some .local)) = true) (nd : ps.Nodup)
    (h : ∀ c : FC, c.sc = fd.scope → c.cl = [] → TSs prog g k c (ps.zip ws) body ⟨fun _ σ' => Q .none σ', Q, fun _ _ => False⟩ X σ) : CF prog g (k + 1) (.ref f) vs Q X σ := by
  refine c_fn T.ok hf bind (fun x hx => ?_) (fun p hp => ?_) nd h
  · exact of_decide_eq_true (List.all_eq_true.mp hcell x hx)
  · exact of_decide_eq_true (List.all_eq_true.mp hloc p hp)
theorem VRs.nil' {σ : Store} {h : Heap} {us : List Value} (r : VRs σ h [] us) : us = [] := by rw [VRs] at r; exact r
theorem VRs.cons' {σ : Store} {h : Heap} {v : V} {vs : List V} {us : List Value} (r : VRs σ h (v :: vs) us) : ConsE (VR σ h v) (VRs σ h vs) us := by rw [VRs] at r; exact r
theorem VRs.cons'' {σ : Store} {h : Heap} {v : V} {vs : List V} {x : Value} {xs : List Value} (a : VR σ h v x) (b : VRs σ h vs xs) : VRs σ h (v :: vs) (x :: xs) := by rw [VRs]; exact ⟨x, xs, rfl, a, b⟩
theorem VR.tup00 (T : Top g) {σ : Store} {s : Shared} (I : Inv g σ s) {a : Addr} {t t' : Tok} (e : (K0 g.w.params).lookup a = some ⟨.type "tuple", none, .seq (Array.mk [.int 0 t, .int 0 t']) 0, Array.mk []⟩) : VR σ s.heap (.tup [.int 0, .int 0]) (.ref a) := by
  rw [VR]
  exact ⟨a, _, rfl, I.lo' (T.base e), ⟨_, I.base _ _ (T.base e), rfl, 0, rfl⟩, VRs2 vint vint⟩
theorem nsIn_find {K : Frag} {a : Addr} {o : Obj} {es : Array DictEntry} {n : Nat} {x : Str} {r : Option Value} (hl : K.lookup a = some o) (hd : o.data = .dict es n) (e : nsIn K a x = some r) : nsFind es x = r := by
  obtain ⟨cl, d, dt, sl⟩ := o
  obtain rfl : dt = .dict es n := hd
  obtain ⟨l⟩ := es
  unfold nsIn at e
  rw [hl] at e
  dsimp only at e
  unfold nsFind findBy
  rw [List.find?_toArray]
  split at e
  · rename_i e' h'; rw [h']; exact Option.some.inj e
  · rename_i h'
    rw [h']
    split at e
    · cases e
    · exact Option.some.inj e
theorem Top.mg (T : Top g) {x : Str} {r : Option Value} (e : nsIn (K0 g.w.params) 3 x = some r) : g.mg x = r := by
  obtain ⟨o, es, ep, h1, h2, h3, h4⟩ := T.ok.mg
  have hl : (K0 g.w.params).lookup 3 = some (o_3 g.w.params) := rfl
  have := T.base hl
  rw [show mainGlobals = 3 from rfl, this] at h1
  obtain rfl := Option.some.inj h1
  rw [← h4]
  exact nsIn_find hl h2 e
theorem Top.mb (T : Top g) {x : Str} {r : Option Value} (e : nsIn (K0 g.w.params) 0 x = some r) : g.mb x = r := by
  obtain ⟨o, es, ep, h1, h2, h3, h4⟩ := T.ok.mb
  have hl : (K0 g.w.params).lookup 0 = some (boot_o_0 g.w.params) := rfl
  have := T.base hl
  rw [show builtinsNs = 0 from rfl, this] at h1
  obtain rfl := Option.some.inj h1
  rw [← h4]
  exact nsIn_find hl h2 e
theorem bind1 (T : Top g) {fd : FuncData} {ps : List String} {σ : Store} {x0 : V} {ds : List V} {du : List Value} (hd : ∀ s, Inv g σ s → VRs σ s.heap ds du) (e : ∀ S u0, peek (K0 g.w.params) S (bindArgs fd ⟨[u0], []⟩) = some ((ps.map Str.ofString).zip ([u0] ++ du))) : Binds g fd [x0] ps ([x0] ++ ds) σ := fun s us I r => by
  obtain ⟨u0, us, rfl, r0, q0⟩ := r.cons'
  obtain rfl := q0.nil'
  exact ⟨[u0] ++ du, binds_of T I fun S => e S u0, VRs.cons'' r0 (hd s I)⟩
theorem bind2 (T : Top g) {fd : FuncData} {ps : List String} {σ : Store} {x0 x1 : V} {ds : List V} {du : List Value} (hd : ∀ s, Inv g σ s → VRs σ s.heap ds du) (e : ∀ S u0 u1, peek (K0 g.w.params) S (bindArgs fd ⟨[u0, u1], []⟩) = some ((ps.map Str.ofString).zip ([u0, u1] ++ du))) : Binds g fd [x0, x1] ps ([x0, x1] ++ ds) σ := fun s us I r => by
  obtain ⟨u0, us, rfl, r0, q0⟩ := r.cons'
  obtain ⟨u1, us, rfl, r1, q1⟩ := q0.cons'
  obtain rfl := q1.nil'
  exact ⟨[u0, u1] ++ du, binds_of T I fun S => e S u0 u1, VRs.cons'' r0 (VRs.cons'' r1 (hd s I))⟩
theorem bind3 (T : Top g) {fd : FuncData} {ps : List String} {σ : Store} {x0 x1 x2 : V} {ds : List V} {du : List Value} (hd : ∀ s, Inv g σ s → VRs σ s.heap ds du) (e : ∀ S u0 u1 u2, peek (K0 g.w.params) S (bindArgs fd ⟨[u0, u1, u2], []⟩) = some ((ps.map Str.ofString).zip ([u0, u1, u2] ++ du))) : Binds g fd [x0, x1, x2] ps ([x0, x1, x2] ++ ds) σ := fun s us I r => by
  obtain ⟨u0, us, rfl, r0, q0⟩ := r.cons'
  obtain ⟨u1, us, rfl, r1, q1⟩ := q0.cons'
  obtain ⟨u2, us, rfl, r2, q2⟩ := q1.cons'
  obtain rfl := q2.nil'
  exact ⟨[u0, u1, u2] ++ du, binds_of T I fun S => e S u0 u1 u2, VRs.cons'' r0 (VRs.cons'' r1 (VRs.cons'' r2 (hd s I)))⟩
theorem nm_RESERVED (T : Top g) : Nm g "RESERVED" (.str resStr) := ⟨.str resStr 869, .inl (T.mg (by kernel_rfl)), fun σ s I => vstr⟩
noncomputable abbrev nmTab : List (String × V) := [("ALONE", (.int 77)), ("Data", (.ref 214)), ("DataFault", (.ref 72)), ("Exception", (.typ "Exception")), ("FIGURES", (.str (Str.ofString "0123456789"))), ("FIGURE_NAMES", (.ref 219)), ("FILLER", (.str (Str.ofString "FILLER"))), ("GrammarFault", (.ref 84)), ("Item", (.ref 188)), ("MOST_LEVEL", (.int 49)), ("MOST_NESTED", (.int 20)), ("MOST_OCTET", (.int 255)), ("NAMING", (.int 88)), ("Named", (.ref 141)), ("RENAMING", (.int 66)), ("Reader", (.ref 631)), ("Token", (.ref 661)), ("TokenFault", (.ref 60)), ("USAGE_WORDS", (.ref 269)), ("_law_draw", (.ref 672)), ("_law_record", (.ref 686)), ("_law_records", (.ref 693)), ("_law_refused", (.ref 705)), ("_law_seen", (.ref 698)), ("_law_tokens", (.ref 679)), ("abs", (.bi "abs")), ("bytes", (.typ "bytes")), ("clause_word", (.ref 309)), ("cut_quotient", (.ref 400)), ("decimal", (.ref 408)), ("is_level_here", (.ref 351)), ("is_reserved", (.ref 457)), ("is_whole", (.ref 429)), ("len", (.bi "len")), ("list", (.typ "list")), ("min", (.bi "min")), ("negated", (.ref 415)), ("nested", (.ref 365)), ("no_expression", (.ref 276)), ("octets_of_text", (.ref 462)), ("ord", (.bi "ord")), ("put_beneath", (.ref 358)), ("range", (.typ "range")), ("read_all", (.ref 254)), ("read_bare_clause", (.ref 316)), ("read_clauses", (.ref 323)), ("read_data", (.ref 393)), ("read_decimal", (.ref 450)), ("read_entries", (.ref 372)), ("read_entry", (.ref 344)), ("read_figure", (.ref 261)), ("read_file_entry", (.ref 379)), ("read_literal", (.ref 283)), ("read_named_clause", (.ref 302)), ("read_occurs", (.ref 288)), ("read_operand", (.ref 268)), ("read_ref", (.ref 247)), ("read_renames", (.ref 337)), ("read_sign", (.ref 295)), ("read_worths", (.ref 330)), ("skip_heading", (.ref 386)), ("str", (.typ "str")), ("tuple", (.typ "tuple")), ("units_at", (.ref 422)), ("whole_of", (.ref 436)), ("worth_of", (.ref 443))]
noncomputable def okV : V → Value → Bool
  | .ref b, u => u == .ref b
  | .int j, .int i _ => i == j
  | .str t, .str s _ => s == t
  | .typ m, u => u == .type m
  | .bi m, u => u == .builtin m
  | _, _ => false
theorem okV_vr {v : V} {u : Value} (h : okV v u = true) {σ : Store} {hh : Heap} : VR σ hh v u := by
  cases v with
  | ref b => rw [VR]; exact eq_of_beq h
  | int j => cases u with
    | int i t => rw [eq_of_beq (show (i == j) = true from h)]; exact vint
    | _ => exact absurd (show false = true from h) Bool.false_ne_true
  | str j => cases u with
    | str i t => rw [eq_of_beq (show (i == j) = true from h)]; exact vstr
    | _ => exact absurd (show false = true from h) Bool.false_ne_true
  | typ m => rw [VR]; exact eq_of_beq h
  | bi m => rw [VR]; exact eq_of_beq h
  | _ => exact absurd (show false = true from h) Bool.false_ne_true
noncomputable def nmB (P : Params) (p : String × V) : Bool := match nsIn (K0 P) 3 (Str.ofString p.1) with
  | some (some u) => okV p.2 u
  | some none => (match nsIn (K0 P) 0 (Str.ofString p.1) with
    | some (some u) => okV p.2 u
    | _ => false)
  | none => false
theorem nm_all (P : Params) : nmTab.all (nmB P) = true := by kernel_rfl
theorem nm_of (T : Top g) {x : String} {v : V} (h : (x, v) ∈ nmTab) : Nm g x v := by
  have e := List.all_eq_true.mp (nm_all g.w.params) _ h
  revert e
  delta nmB
  dsimp only
  rcases h1 : nsIn (K0 g.w.params) 3 (Str.ofString x) with _ | _ | u
  · exact fun e => absurd e Bool.false_ne_true
  · rcases h2 : nsIn (K0 g.w.params) 0 (Str.ofString x) with _ | _ | u
    · exact fun e => absurd e Bool.false_ne_true
    · exact fun e => absurd e Bool.false_ne_true
    · exact fun e => ⟨u, .inr ⟨T.mg h1, T.mb h2⟩, fun σ s _ => okV_vr e⟩
  · exact fun e => ⟨u, .inl (T.mg h1), fun σ s _ => okV_vr e⟩
theorem FnIs.of_T (T : Top g) {f : Addr} {oc : Value} {od : Option Addr} {osl : Array (Option Value)} {name qual : Str} {params : Arguments} {body : List Stmt} {scope : Scope} {dV kV doc pm cdv ct : Value} {an : Option Addr}
    (h : (K0 g.w.params).lookup f = some ⟨oc, od, .func (fnOf name qual params body scope dV kV doc pm an cdv ct), osl⟩) (hc : codeIn (K0 g.w.params) cdv qual = true) (hco : scope.isCoroutine = false) (hgen : scope.isGenerator = false) (hk : scope.kind = .function) :
    FnIs g f (fnOf name qual params body scope dV kV doc pm an cdv ct) body := FnIs.of_K T.ok (by rw [T.K]; exact h) (by rw [T.K]; exact hc) hco hgen hk
section
variable (T : Top g) {k : Nat} {Q : V → Store → Prop} {X : Addr → Prop} {σ : Store} {x0 x1 x2 x3 x4 x5 : V}
include T
noncomputable def fd_LedgerError_init : FuncData := fnOf (Str.ofString "__init__") (Str.ofString "LedgerError.__init__") (arg_LedgerError_init) (b_LedgerError_init) (s_LedgerError_init) (.ref 30) (.none) (.none) (.str (Str.ofString "ledgerspeak.errors") 194) none (.ref 36) (.none)
theorem fn_LedgerError_init : FnIs g 37 fd_LedgerError_init b_LedgerError_init := FnIs.of_T (oc := .type "function") (od := none) (osl := Array.mk []) T rfl rfl rfl rfl rfl
theorem call_LedgerError_init_3 (h : ∀ c : FC, c.sc = s_LedgerError_init → c.cl = [] → TSs prog g k c [("self", x0), ("what", x1), ("at", x2)] b_LedgerError_init ⟨fun _ σ' => Q .none σ', Q, fun _ _ => False⟩ X σ) : CF prog g (k + 1) (.ref 37) [x0, x1, x2] Q X σ := by
  exact c_fn' T (fn_LedgerError_init T) (ps := ["self", "what", "at"]) (bind3 T (fun s I => VRs0) fun S u0 u1 u2 => by kernel_rfl) (by kernel_rfl) (by kernel_rfl) (by decide +kernel) h
noncomputable def fd_Named_init : FuncData := fnOf (Str.ofString "__init__") (Str.ofString "Named.__init__") (arg_Named_init) (b_Named_init) (s_Named_init) (.none) (.none) (.none) (.str (Str.ofString "ledgerspeak.items") 284) none (.ref 130) (.none)
theorem fn_Named_init : FnIs g 131 fd_Named_init b_Named_init := FnIs.of_T (oc := .type "function") (od := none) (osl := Array.mk []) T rfl rfl rfl rfl rfl
theorem call_Named_init_3 (h : ∀ c : FC, c.sc = s_Named_init → c.cl = [] → TSs prog g k c [("self", x0), ("name", x1), ("rows", x2)] b_Named_init ⟨fun _ σ' => Q .none σ', Q, fun _ _ => False⟩ X σ) : CF prog g (k + 1) (.ref 131) [x0, x1, x2] Q X σ := by
  exact c_fn' T (fn_Named_init T) (ps := ["self", "name", "rows"]) (bind3 T (fun s I => VRs0) fun S u0 u1 u2 => by kernel_rfl) (by kernel_rfl) (by kernel_rfl) (by decide +kernel) h
noncomputable def fd_Named_told : FuncData := fnOf (Str.ofString "told") (Str.ofString "Named.told") (arg_Named_told) (b_Named_told) (s_Named_told) (.none) (.none) (.none) (.str (Str.ofString "ledgerspeak.items") 284) none (.ref 137) (.none)
theorem fn_Named_told : FnIs g 138 fd_Named_told b_Named_told := FnIs.of_T (oc := .type "function") (od := none) (osl := Array.mk []) T rfl rfl rfl rfl rfl
theorem call_Named_told_1 (h : ∀ c : FC, c.sc = s_Named_told → c.cl = [] → TSs prog g k c [("self", x0)] b_Named_told ⟨fun _ σ' => Q .none σ', Q, fun _ _ => False⟩ X σ) : CF prog g (k + 1) (.ref 138) [x0] Q X σ := by
  exact c_fn' T (fn_Named_told T) (ps := ["self"]) (bind1 T (fun s I => VRs0) fun S u0 => by kernel_rfl) (by kernel_rfl) (by kernel_rfl) (by decide +kernel) h
noncomputable def fd_Item_init : FuncData := fnOf (Str.ofString "__init__") (Str.ofString "Item.__init__") (arg_Item_init) (b_Item_init) (s_Item_init) (.none) (.none) (.none) (.str (Str.ofString "ledgerspeak.items") 284) none (.ref 158) (.none)
theorem fn_Item_init : FnIs g 159 fd_Item_init b_Item_init := FnIs.of_T (oc := .type "function") (od := none) (osl := Array.mk []) T rfl rfl rfl rfl rfl
theorem call_Item_init_3 (h : ∀ c : FC, c.sc = s_Item_init → c.cl = [] → TSs prog g k c [("self", x0), ("level", x1), ("name", x2)] b_Item_init ⟨fun _ σ' => Q .none σ', Q, fun _ _ => False⟩ X σ) : CF prog g (k + 1) (.ref 159) [x0, x1, x2] Q X σ := by
  exact c_fn' T (fn_Item_init T) (ps := ["self", "level", "name"]) (bind3 T (fun s I => VRs0) fun S u0 u1 u2 => by kernel_rfl) (by kernel_rfl) (by kernel_rfl) (by decide +kernel) h
noncomputable def fd_Item_add : FuncData := fnOf (Str.ofString "add") (Str.ofString "Item.add") (arg_Item_add) (b_Item_add) (s_Item_add) (.none) (.none) (.none) (.str (Str.ofString "ledgerspeak.items") 284) none (.ref 165) (.none)
theorem fn_Item_add : FnIs g 166 fd_Item_add b_Item_add := FnIs.of_T (oc := .type "function") (od := none) (osl := Array.mk []) T rfl rfl rfl rfl rfl
theorem call_Item_add_2 (h : ∀ c : FC, c.sc = s_Item_add → c.cl = [] → TSs prog g k c [("self", x0), ("kid", x1)] b_Item_add ⟨fun _ σ' => Q .none σ', Q, fun _ _ => False⟩ X σ) : CF prog g (k + 1) (.ref 166) [x0, x1] Q X σ := by
  exact c_fn' T (fn_Item_add T) (ps := ["self", "kid"]) (bind2 T (fun s I => VRs0) fun S u0 u1 => by kernel_rfl) (by kernel_rfl) (by kernel_rfl) (by decide +kernel) h
noncomputable def fd_Data_init : FuncData := fnOf (Str.ofString "__init__") (Str.ofString "Data.__init__") (arg_Data_init) (b_Data_init) (s_Data_init) (.none) (.none) (.none) (.str (Str.ofString "ledgerspeak.items") 284) none (.ref 205) (.none)
theorem fn_Data_init : FnIs g 206 fd_Data_init b_Data_init := FnIs.of_T (oc := .type "function") (od := none) (osl := Array.mk []) T rfl rfl rfl rfl rfl
theorem call_Data_init_1 (h : ∀ c : FC, c.sc = s_Data_init → c.cl = [] → TSs prog g k c [("self", x0)] b_Data_init ⟨fun _ σ' => Q .none σ', Q, fun _ _ => False⟩ X σ) : CF prog g (k + 1) (.ref 206) [x0] Q X σ := by
  exact c_fn' T (fn_Data_init T) (ps := ["self"]) (bind1 T (fun s I => VRs0) fun S u0 => by kernel_rfl) (by kernel_rfl) (by kernel_rfl) (by decide +kernel) h
noncomputable def fd_Data_told : FuncData := fnOf (Str.ofString "told") (Str.ofString "Data.told") (arg_Data_told) (b_Data_told) (s_Data_told) (.none) (.none) (.none) (.str (Str.ofString "ledgerspeak.items") 284) none (.ref 210) (.none)
theorem fn_Data_told : FnIs g 211 fd_Data_told b_Data_told := FnIs.of_T (oc := .type "function") (od := none) (osl := Array.mk []) T rfl rfl rfl rfl rfl
noncomputable def fd_read_figure : FuncData := fnOf (Str.ofString "read_figure") (Str.ofString "read_figure") (arg_read_figure) (b_read_figure) (s_read_figure) (.none) (.none) (.none) (.str (Str.ofString "ledgerspeak.references") 491) none (.ref 260) (.none)
theorem fn_read_figure : FnIs g 261 fd_read_figure b_read_figure := FnIs.of_T (oc := .type "function") (od := none) (osl := Array.mk []) T rfl rfl rfl rfl rfl
theorem call_read_figure_1 (h : ∀ c : FC, c.sc = s_read_figure → c.cl = [] → TSs prog g k c [("reader", x0)] b_read_figure ⟨fun _ σ' => Q .none σ', Q, fun _ _ => False⟩ X σ) : CF prog g (k + 1) (.ref 261) [x0] Q X σ := by
  exact c_fn' T (fn_read_figure T) (ps := ["reader"]) (bind1 T (fun s I => VRs0) fun S u0 => by kernel_rfl) (by kernel_rfl) (by kernel_rfl) (by decide +kernel) h
noncomputable def fd_read_operand : FuncData := fnOf (Str.ofString "read_operand") (Str.ofString "read_operand") (arg_read_operand) (b_read_operand) (s_read_operand) (.none) (.none) (.none) (.str (Str.ofString "ledgerspeak.references") 491) none (.ref 267) (.none)
theorem fn_read_operand : FnIs g 268 fd_read_operand b_read_operand := FnIs.of_T (oc := .type "function") (od := none) (osl := Array.mk []) T rfl rfl rfl rfl rfl
theorem call_read_operand_2 (h : ∀ c : FC, c.sc = s_read_operand → c.cl = [] → TSs prog g k c [("reader", x0), ("read_expr", x1)] b_read_operand ⟨fun _ σ' => Q .none σ', Q, fun _ _ => False⟩ X σ) : CF prog g (k + 1) (.ref 268) [x0, x1] Q X σ := by
  exact c_fn' T (fn_read_operand T) (ps := ["reader", "read_expr"]) (bind2 T (fun s I => VRs0) fun S u0 u1 => by kernel_rfl) (by kernel_rfl) (by kernel_rfl) (by decide +kernel) h
noncomputable def fd_read_literal : FuncData := fnOf (Str.ofString "read_literal") (Str.ofString "read_literal") (arg_read_literal) (b_read_literal) (s_read_literal) (.none) (.none) (.none) (.str (Str.ofString "ledgerspeak.dataread") 593) none (.ref 282) (.none)
theorem fn_read_literal : FnIs g 283 fd_read_literal b_read_literal := FnIs.of_T (oc := .type "function") (od := none) (osl := Array.mk []) T rfl rfl rfl rfl rfl
theorem call_read_literal_1 (h : ∀ c : FC, c.sc = s_read_literal → c.cl = [] → TSs prog g k c [("reader", x0)] b_read_literal ⟨fun _ σ' => Q .none σ', Q, fun _ _ => False⟩ X σ) : CF prog g (k + 1) (.ref 283) [x0] Q X σ := by
  exact c_fn' T (fn_read_literal T) (ps := ["reader"]) (bind1 T (fun s I => VRs0) fun S u0 => by kernel_rfl) (by kernel_rfl) (by kernel_rfl) (by decide +kernel) h
noncomputable def fd_read_named_clause : FuncData := fnOf (Str.ofString "read_named_clause") (Str.ofString "read_named_clause") (arg_read_named_clause) (b_read_named_clause) (s_read_named_clause) (.none) (.none) (.none) (.str (Str.ofString "ledgerspeak.dataread") 593) none (.ref 301) (.none)
theorem fn_read_named_clause : FnIs g 302 fd_read_named_clause b_read_named_clause := FnIs.of_T (oc := .type "function") (od := none) (osl := Array.mk []) T rfl rfl rfl rfl rfl
theorem call_read_named_clause_3 (h : ∀ c : FC, c.sc = s_read_named_clause → c.cl = [] → TSs prog g k c [("reader", x0), ("item", x1), ("word", x2)] b_read_named_clause ⟨fun _ σ' => Q .none σ', Q, fun _ _ => False⟩ X σ) : CF prog g (k + 1) (.ref 302) [x0, x1, x2] Q X σ := by
  exact c_fn' T (fn_read_named_clause T) (ps := ["reader", "item", "word"]) (bind3 T (fun s I => VRs0) fun S u0 u1 u2 => by kernel_rfl) (by kernel_rfl) (by kernel_rfl) (by decide +kernel) h
noncomputable def fd_clause_word : FuncData := fnOf (Str.ofString "clause_word") (Str.ofString "clause_word") (arg_clause_word) (b_clause_word) (s_clause_word) (.none) (.none) (.none) (.str (Str.ofString "ledgerspeak.dataread") 593) none (.ref 308) (.none)
theorem fn_clause_word : FnIs g 309 fd_clause_word b_clause_word := FnIs.of_T (oc := .type "function") (od := none) (osl := Array.mk []) T rfl rfl rfl rfl rfl
theorem call_clause_word_1 (h : ∀ c : FC, c.sc = s_clause_word → c.cl = [] → TSs prog g k c [("reader", x0)] b_clause_word ⟨fun _ σ' => Q .none σ', Q, fun _ _ => False⟩ X σ) : CF prog g (k + 1) (.ref 309) [x0] Q X σ := by
  exact c_fn' T (fn_clause_word T) (ps := ["reader"]) (bind1 T (fun s I => VRs0) fun S u0 => by kernel_rfl) (by kernel_rfl) (by kernel_rfl) (by decide +kernel) h
noncomputable def fd_read_bare_clause : FuncData := fnOf (Str.ofString "read_bare_clause") (Str.ofString "read_bare_clause") (arg_read_bare_clause) (b_read_bare_clause) (s_read_bare_clause) (.none) (.none) (.none) (.str (Str.ofString "ledgerspeak.dataread") 593) none (.ref 315) (.none)
theorem fn_read_bare_clause : FnIs g 316 fd_read_bare_clause b_read_bare_clause := FnIs.of_T (oc := .type "function") (od := none) (osl := Array.mk []) T rfl rfl rfl rfl rfl
theorem call_read_bare_clause_2 (h : ∀ c : FC, c.sc = s_read_bare_clause → c.cl = [] → TSs prog g k c [("reader", x0), ("item", x1)] b_read_bare_clause ⟨fun _ σ' => Q .none σ', Q, fun _ _ => False⟩ X σ) : CF prog g (k + 1) (.ref 316) [x0, x1] Q X σ := by
  exact c_fn' T (fn_read_bare_clause T) (ps := ["reader", "item"]) (bind2 T (fun s I => VRs0) fun S u0 u1 => by kernel_rfl) (by kernel_rfl) (by kernel_rfl) (by decide +kernel) h
noncomputable def fd_read_clauses : FuncData := fnOf (Str.ofString "read_clauses") (Str.ofString "read_clauses") (arg_read_clauses) (b_read_clauses) (s_read_clauses) (.none) (.none) (.none) (.str (Str.ofString "ledgerspeak.dataread") 593) none (.ref 322) (.none)
theorem fn_read_clauses : FnIs g 323 fd_read_clauses b_read_clauses := FnIs.of_T (oc := .type "function") (od := none) (osl := Array.mk []) T rfl rfl rfl rfl rfl
theorem call_read_clauses_2 (h : ∀ c : FC, c.sc = s_read_clauses → c.cl = [] → TSs prog g k c [("reader", x0), ("item", x1)] b_read_clauses ⟨fun _ σ' => Q .none σ', Q, fun _ _ => False⟩ X σ) : CF prog g (k + 1) (.ref 323) [x0, x1] Q X σ := by
  exact c_fn' T (fn_read_clauses T) (ps := ["reader", "item"]) (bind2 T (fun s I => VRs0) fun S u0 u1 => by kernel_rfl) (by kernel_rfl) (by kernel_rfl) (by decide +kernel) h
noncomputable def fd_read_worths : FuncData := fnOf (Str.ofString "read_worths") (Str.ofString "read_worths") (arg_read_worths) (b_read_worths) (s_read_worths) (.none) (.none) (.none) (.str (Str.ofString "ledgerspeak.dataread") 593) none (.ref 329) (.none)
theorem fn_read_worths : FnIs g 330 fd_read_worths b_read_worths := FnIs.of_T (oc := .type "function") (od := none) (osl := Array.mk []) T rfl rfl rfl rfl rfl
theorem call_read_worths_1 (h : ∀ c : FC, c.sc = s_read_worths → c.cl = [] → TSs prog g k c [("reader", x0)] b_read_worths ⟨fun _ σ' => Q .none σ', Q, fun _ _ => False⟩ X σ) : CF prog g (k + 1) (.ref 330) [x0] Q X σ := by
  exact c_fn' T (fn_read_worths T) (ps := ["reader"]) (bind1 T (fun s I => VRs0) fun S u0 => by kernel_rfl) (by kernel_rfl) (by kernel_rfl) (by decide +kernel) h
noncomputable def fd_read_renames : FuncData := fnOf (Str.ofString "read_renames") (Str.ofString "read_renames") (arg_read_renames) (b_read_renames) (s_read_renames) (.none) (.none) (.none) (.str (Str.ofString "ledgerspeak.dataread") 593) none (.ref 336) (.none)
theorem fn_read_renames : FnIs g 337 fd_read_renames b_read_renames := FnIs.of_T (oc := .type "function") (od := none) (osl := Array.mk []) T rfl rfl rfl rfl rfl
theorem call_read_renames_1 (h : ∀ c : FC, c.sc = s_read_renames → c.cl = [] → TSs prog g k c [("reader", x0)] b_read_renames ⟨fun _ σ' => Q .none σ', Q, fun _ _ => False⟩ X σ) : CF prog g (k + 1) (.ref 337) [x0] Q X σ := by
  exact c_fn' T (fn_read_renames T) (ps := ["reader"]) (bind1 T (fun s I => VRs0) fun S u0 => by kernel_rfl) (by kernel_rfl) (by kernel_rfl) (by decide +kernel) h
noncomputable def fd_read_entry : FuncData := fnOf (Str.ofString "read_entry") (Str.ofString "read_entry") (arg_read_entry) (b_read_entry) (s_read_entry) (.none) (.none) (.none) (.str (Str.ofString "ledgerspeak.dataread") 593) none (.ref 343) (.none)
theorem fn_read_entry : FnIs g 344 fd_read_entry b_read_entry := FnIs.of_T (oc := .type "function") (od := none) (osl := Array.mk []) T rfl rfl rfl rfl rfl
theorem call_read_entry_1 (h : ∀ c : FC, c.sc = s_read_entry → c.cl = [] → TSs prog g k c [("reader", x0)] b_read_entry ⟨fun _ σ' => Q .none σ', Q, fun _ _ => False⟩ X σ) : CF prog g (k + 1) (.ref 344) [x0] Q X σ := by
  exact c_fn' T (fn_read_entry T) (ps := ["reader"]) (bind1 T (fun s I => VRs0) fun S u0 => by kernel_rfl) (by kernel_rfl) (by kernel_rfl) (by decide +kernel) h
noncomputable def fd_is_level_here : FuncData := fnOf (Str.ofString "is_level_here") (Str.ofString "is_level_here") (arg_is_level_here) (b_is_level_here) (s_is_level_here) (.none) (.none) (.none) (.str (Str.ofString "ledgerspeak.dataread") 593) none (.ref 350) (.none)
theorem fn_is_level_here : FnIs g 351 fd_is_level_here b_is_level_here := FnIs.of_T (oc := .type "function") (od := none) (osl := Array.mk []) T rfl rfl rfl rfl rfl
theorem call_is_level_here_1 (h : ∀ c : FC, c.sc = s_is_level_here → c.cl = [] → TSs prog g k c [("reader", x0)] b_is_level_here ⟨fun _ σ' => Q .none σ', Q, fun _ _ => False⟩ X σ) : CF prog g (k + 1) (.ref 351) [x0] Q X σ := by
  exact c_fn' T (fn_is_level_here T) (ps := ["reader"]) (bind1 T (fun s I => VRs0) fun S u0 => by kernel_rfl) (by kernel_rfl) (by kernel_rfl) (by decide +kernel) h
noncomputable def fd_put_beneath : FuncData := fnOf (Str.ofString "put_beneath") (Str.ofString "put_beneath") (arg_put_beneath) (b_put_beneath) (s_put_beneath) (.none) (.none) (.none) (.str (Str.ofString "ledgerspeak.dataread") 593) none (.ref 357) (.none)
theorem fn_put_beneath : FnIs g 358 fd_put_beneath b_put_beneath := FnIs.of_T (oc := .type "function") (od := none) (osl := Array.mk []) T rfl rfl rfl rfl rfl
theorem call_put_beneath_2 (h : ∀ c : FC, c.sc = s_put_beneath → c.cl = [] → TSs prog g k c [("open_items", x0), ("item", x1)] b_put_beneath ⟨fun _ σ' => Q .none σ', Q, fun _ _ => False⟩ X σ) : CF prog g (k + 1) (.ref 358) [x0, x1] Q X σ := by
  exact c_fn' T (fn_put_beneath T) (ps := ["open_items", "item"]) (bind2 T (fun s I => VRs0) fun S u0 u1 => by kernel_rfl) (by kernel_rfl) (by kernel_rfl) (by decide +kernel) h
noncomputable def fd_nested : FuncData := fnOf (Str.ofString "nested") (Str.ofString "nested") (arg_nested) (b_nested) (s_nested) (.none) (.none) (.none) (.str (Str.ofString "ledgerspeak.dataread") 593) none (.ref 364) (.none)
theorem fn_nested : FnIs g 365 fd_nested b_nested := FnIs.of_T (oc := .type "function") (od := none) (osl := Array.mk []) T rfl rfl rfl rfl rfl
theorem call_nested_1 (h : ∀ c : FC, c.sc = s_nested → c.cl = [] → TSs prog g k c [("entries", x0)] b_nested ⟨fun _ σ' => Q .none σ', Q, fun _ _ => False⟩ X σ) : CF prog g (k + 1) (.ref 365) [x0] Q X σ := by
  exact c_fn' T (fn_nested T) (ps := ["entries"]) (bind1 T (fun s I => VRs0) fun S u0 => by kernel_rfl) (by kernel_rfl) (by kernel_rfl) (by decide +kernel) h
noncomputable def fd_read_entries : FuncData := fnOf (Str.ofString "read_entries") (Str.ofString "read_entries") (arg_read_entries) (b_read_entries) (s_read_entries) (.none) (.none) (.none) (.str (Str.ofString "ledgerspeak.dataread") 593) none (.ref 371) (.none)
theorem fn_read_entries : FnIs g 372 fd_read_entries b_read_entries := FnIs.of_T (oc := .type "function") (od := none) (osl := Array.mk []) T rfl rfl rfl rfl rfl
theorem call_read_entries_1 (h : ∀ c : FC, c.sc = s_read_entries → c.cl = [] → TSs prog g k c [("reader", x0)] b_read_entries ⟨fun _ σ' => Q .none σ', Q, fun _ _ => False⟩ X σ) : CF prog g (k + 1) (.ref 372) [x0] Q X σ := by
  exact c_fn' T (fn_read_entries T) (ps := ["reader"]) (bind1 T (fun s I => VRs0) fun S u0 => by kernel_rfl) (by kernel_rfl) (by kernel_rfl) (by decide +kernel) h
noncomputable def fd_read_file_entry : FuncData := fnOf (Str.ofString "read_file_entry") (Str.ofString "read_file_entry") (arg_read_file_entry) (b_read_file_entry) (s_read_file_entry) (.none) (.none) (.none) (.str (Str.ofString "ledgerspeak.dataread") 593) none (.ref 378) (.none)
theorem fn_read_file_entry : FnIs g 379 fd_read_file_entry b_read_file_entry := FnIs.of_T (oc := .type "function") (od := none) (osl := Array.mk []) T rfl rfl rfl rfl rfl
theorem call_read_file_entry_3 (h : ∀ c : FC, c.sc = s_read_file_entry → c.cl = [] → TSs prog g k c [("reader", x0), ("data", x1), ("is_sort", x2)] b_read_file_entry ⟨fun _ σ' => Q .none σ', Q, fun _ _ => False⟩ X σ) : CF prog g (k + 1) (.ref 379) [x0, x1, x2] Q X σ := by
  exact c_fn' T (fn_read_file_entry T) (ps := ["reader", "data", "is_sort"]) (bind3 T (fun s I => VRs0) fun S u0 u1 u2 => by kernel_rfl) (by kernel_rfl) (by kernel_rfl) (by decide +kernel) h
noncomputable def fd_skip_heading : FuncData := fnOf (Str.ofString "skip_heading") (Str.ofString "skip_heading") (arg_skip_heading) (b_skip_heading) (s_skip_heading) (.none) (.none) (.none) (.str (Str.ofString "ledgerspeak.dataread") 593) none (.ref 385) (.none)
theorem fn_skip_heading : FnIs g 386 fd_skip_heading b_skip_heading := FnIs.of_T (oc := .type "function") (od := none) (osl := Array.mk []) T rfl rfl rfl rfl rfl
theorem call_skip_heading_2 (h : ∀ c : FC, c.sc = s_skip_heading → c.cl = [] → TSs prog g k c [("reader", x0), ("words", x1)] b_skip_heading ⟨fun _ σ' => Q .none σ', Q, fun _ _ => False⟩ X σ) : CF prog g (k + 1) (.ref 386) [x0, x1] Q X σ := by
  exact c_fn' T (fn_skip_heading T) (ps := ["reader", "words"]) (bind2 T (fun s I => VRs0) fun S u0 u1 => by kernel_rfl) (by kernel_rfl) (by kernel_rfl) (by decide +kernel) h
noncomputable def fd_read_data : FuncData := fnOf (Str.ofString "read_data") (Str.ofString "read_data") (arg_read_data) (b_read_data) (s_read_data) (.none) (.none) (.none) (.str (Str.ofString "ledgerspeak.dataread") 593) none (.ref 392) (.none)
theorem fn_read_data : FnIs g 393 fd_read_data b_read_data := FnIs.of_T (oc := .type "function") (od := none) (osl := Array.mk []) T rfl rfl rfl rfl rfl
theorem call_read_data_1 (h : ∀ c : FC, c.sc = s_read_data → c.cl = [] → TSs prog g k c [("reader", x0)] b_read_data ⟨fun _ σ' => Q .none σ', Q, fun _ _ => False⟩ X σ) : CF prog g (k + 1) (.ref 393) [x0] Q X σ := by
  exact c_fn' T (fn_read_data T) (ps := ["reader"]) (bind1 T (fun s I => VRs0) fun S u0 => by kernel_rfl) (by kernel_rfl) (by kernel_rfl) (by decide +kernel) h
noncomputable def fd_decimal : FuncData := fnOf (Str.ofString "decimal") (Str.ofString "decimal") (arg_decimal) (b_decimal) (s_decimal) (.ref 401) (.none) (.none) (.str (Str.ofString "ledgerspeak.decimals") 790) none (.ref 407) (.none)
theorem fn_decimal : FnIs g 408 fd_decimal b_decimal := FnIs.of_T (oc := .type "function") (od := none) (osl := Array.mk []) T rfl rfl rfl rfl rfl
theorem call_decimal_2 (h : ∀ c : FC, c.sc = s_decimal → c.cl = [] → TSs prog g k c [("units", x0), ("scale", x1)] b_decimal ⟨fun _ σ' => Q .none σ', Q, fun _ _ => False⟩ X σ) : CF prog g (k + 1) (.ref 408) [x0, x1] Q X σ := by
  exact c_fn' T (fn_decimal T) (ps := ["units", "scale"]) (bind2 T (fun s I => VRs0) fun S u0 u1 => by kernel_rfl) (by kernel_rfl) (by kernel_rfl) (by decide +kernel) h
noncomputable def fd_units_at : FuncData := fnOf (Str.ofString "units_at") (Str.ofString "units_at") (arg_units_at) (b_units_at) (s_units_at) (.none) (.none) (.none) (.str (Str.ofString "ledgerspeak.decimals") 790) none (.ref 421) (.none)
theorem fn_units_at : FnIs g 422 fd_units_at b_units_at := FnIs.of_T (oc := .type "function") (od := none) (osl := Array.mk []) T rfl rfl rfl rfl rfl
theorem call_units_at_3 (h : ∀ c : FC, c.sc = s_units_at → c.cl = [] → TSs prog g k c [("a", x0), ("scale", x1), ("is_rounded", x2)] b_units_at ⟨fun _ σ' => Q .none σ', Q, fun _ _ => False⟩ X σ) : CF prog g (k + 1) (.ref 422) [x0, x1, x2] Q X σ := by
  exact c_fn' T (fn_units_at T) (ps := ["a", "scale", "is_rounded"]) (bind3 T (fun s I => VRs0) fun S u0 u1 u2 => by kernel_rfl) (by kernel_rfl) (by kernel_rfl) (by decide +kernel) h
noncomputable def fd_is_whole : FuncData := fnOf (Str.ofString "is_whole") (Str.ofString "is_whole") (arg_is_whole) (b_is_whole) (s_is_whole) (.none) (.none) (.none) (.str (Str.ofString "ledgerspeak.decimals") 790) none (.ref 428) (.none)
theorem fn_is_whole : FnIs g 429 fd_is_whole b_is_whole := FnIs.of_T (oc := .type "function") (od := none) (osl := Array.mk []) T rfl rfl rfl rfl rfl
theorem call_is_whole_1 (h : ∀ c : FC, c.sc = s_is_whole → c.cl = [] → TSs prog g k c [("a", x0)] b_is_whole ⟨fun _ σ' => Q .none σ', Q, fun _ _ => False⟩ X σ) : CF prog g (k + 1) (.ref 429) [x0] Q X σ := by
  exact c_fn' T (fn_is_whole T) (ps := ["a"]) (bind1 T (fun s I => VRs0) fun S u0 => by kernel_rfl) (by kernel_rfl) (by kernel_rfl) (by decide +kernel) h
noncomputable def fd_whole_of : FuncData := fnOf (Str.ofString "whole_of") (Str.ofString "whole_of") (arg_whole_of) (b_whole_of) (s_whole_of) (.none) (.none) (.none) (.str (Str.ofString "ledgerspeak.decimals") 790) none (.ref 435) (.none)
theorem fn_whole_of : FnIs g 436 fd_whole_of b_whole_of := FnIs.of_T (oc := .type "function") (od := none) (osl := Array.mk []) T rfl rfl rfl rfl rfl
theorem call_whole_of_1 (h : ∀ c : FC, c.sc = s_whole_of → c.cl = [] → TSs prog g k c [("a", x0)] b_whole_of ⟨fun _ σ' => Q .none σ', Q, fun _ _ => False⟩ X σ) : CF prog g (k + 1) (.ref 436) [x0] Q X σ := by
  exact c_fn' T (fn_whole_of T) (ps := ["a"]) (bind1 T (fun s I => VRs0) fun S u0 => by kernel_rfl) (by kernel_rfl) (by kernel_rfl) (by decide +kernel) h
noncomputable def fd_worth_of : FuncData := fnOf (Str.ofString "worth_of") (Str.ofString "worth_of") (arg_worth_of) (b_worth_of) (s_worth_of) (.none) (.none) (.none) (.str (Str.ofString "ledgerspeak.decimals") 790) none (.ref 442) (.none)
theorem fn_worth_of : FnIs g 443 fd_worth_of b_worth_of := FnIs.of_T (oc := .type "function") (od := none) (osl := Array.mk []) T rfl rfl rfl rfl rfl
theorem call_worth_of_1 (h : ∀ c : FC, c.sc = s_worth_of → c.cl = [] → TSs prog g k c [("figures", x0)] b_worth_of ⟨fun _ σ' => Q .none σ', Q, fun _ _ => False⟩ X σ) : CF prog g (k + 1) (.ref 443) [x0] Q X σ := by
  exact c_fn' T (fn_worth_of T) (ps := ["figures"]) (bind1 T (fun s I => VRs0) fun S u0 => by kernel_rfl) (by kernel_rfl) (by kernel_rfl) (by decide +kernel) h
noncomputable def fd_read_decimal : FuncData := fnOf (Str.ofString "read_decimal") (Str.ofString "read_decimal") (arg_read_decimal) (b_read_decimal) (s_read_decimal) (.none) (.none) (.none) (.str (Str.ofString "ledgerspeak.decimals") 790) none (.ref 449) (.none)
theorem fn_read_decimal : FnIs g 450 fd_read_decimal b_read_decimal := FnIs.of_T (oc := .type "function") (od := none) (osl := Array.mk []) T rfl rfl rfl rfl rfl
theorem call_read_decimal_1 (h : ∀ c : FC, c.sc = s_read_decimal → c.cl = [] → TSs prog g k c [("text", x0)] b_read_decimal ⟨fun _ σ' => Q .none σ', Q, fun _ _ => False⟩ X σ) : CF prog g (k + 1) (.ref 450) [x0] Q X σ := by
  exact c_fn' T (fn_read_decimal T) (ps := ["text"]) (bind1 T (fun s I => VRs0) fun S u0 => by kernel_rfl) (by kernel_rfl) (by kernel_rfl) (by decide +kernel) h
noncomputable def fd_is_reserved : FuncData := fnOf (Str.ofString "is_reserved") (Str.ofString "is_reserved") (arg_is_reserved) (b_is_reserved) (s_is_reserved) (.none) (.none) (.none) (.str (Str.ofString "ledgerspeak.reader") 865) none (.ref 456) (.none)
theorem fn_is_reserved : FnIs g 457 fd_is_reserved b_is_reserved := FnIs.of_T (oc := .type "function") (od := none) (osl := Array.mk []) T rfl rfl rfl rfl rfl
theorem call_is_reserved_1 (h : ∀ c : FC, c.sc = s_is_reserved → c.cl = [] → TSs prog g k c [("word", x0)] b_is_reserved ⟨fun _ σ' => Q .none σ', Q, fun _ _ => False⟩ X σ) : CF prog g (k + 1) (.ref 457) [x0] Q X σ := by
  exact c_fn' T (fn_is_reserved T) (ps := ["word"]) (bind1 T (fun s I => VRs0) fun S u0 => by kernel_rfl) (by kernel_rfl) (by kernel_rfl) (by decide +kernel) h
noncomputable def fd_octets_of_text : FuncData := fnOf (Str.ofString "octets_of_text") (Str.ofString "octets_of_text") (arg_octets_of_text) (b_octets_of_text) (s_octets_of_text) (.none) (.none) (.none) (.str (Str.ofString "ledgerspeak.reader") 865) none (.ref 461) (.none)
theorem fn_octets_of_text : FnIs g 462 fd_octets_of_text b_octets_of_text := FnIs.of_T (oc := .type "function") (od := none) (osl := Array.mk []) T rfl rfl rfl rfl rfl
theorem call_octets_of_text_1 (h : ∀ c : FC, c.sc = s_octets_of_text → c.cl = [] → TSs prog g k c [("text", x0)] b_octets_of_text ⟨fun _ σ' => Q .none σ', Q, fun _ _ => False⟩ X σ) : CF prog g (k + 1) (.ref 462) [x0] Q X σ := by
  exact c_fn' T (fn_octets_of_text T) (ps := ["text"]) (bind1 T (fun s I => VRs0) fun S u0 => by kernel_rfl) (by kernel_rfl) (by kernel_rfl) (by decide +kernel) h
noncomputable def fd_Reader_init : FuncData := fnOf (Str.ofString "__init__") (Str.ofString "Reader.__init__") (arg_Reader_init) (b_Reader_init) (s_Reader_init) (.ref 470) (.none) (.none) (.str (Str.ofString "ledgerspeak.reader") 865) none (.ref 476) (.none)
theorem fn_Reader_init : FnIs g 477 fd_Reader_init b_Reader_init := FnIs.of_T (oc := .type "function") (od := none) (osl := Array.mk []) T rfl rfl rfl rfl rfl
theorem call_Reader_init_2 (h : ∀ c : FC, c.sc = s_Reader_init → c.cl = [] → TSs prog g k c [("self", x0), ("tokens", x1), ("at", (.int 0))] b_Reader_init ⟨fun _ σ' => Q .none σ', Q, fun _ _ => False⟩ X σ) : CF prog g (k + 1) (.ref 477) [x0, x1] Q X σ := by
  exact c_fn' T (fn_Reader_init T) (ps := ["self", "tokens", "at"]) (bind2 T (du := [(.int 0 896)]) (fun s I => VRs.cons'' (vint) (VRs0)) fun S u0 u1 => by kernel_rfl) (by kernel_rfl) (by kernel_rfl) (by decide +kernel) h
noncomputable def fd_Reader_peek : FuncData := fnOf (Str.ofString "peek") (Str.ofString "Reader.peek") (arg_Reader_peek) (b_Reader_peek) (s_Reader_peek) (.ref 478) (.none) (.none) (.str (Str.ofString "ledgerspeak.reader") 865) none (.ref 484) (.none)
theorem fn_Reader_peek : FnIs g 485 fd_Reader_peek b_Reader_peek := FnIs.of_T (oc := .type "function") (od := none) (osl := Array.mk []) T rfl rfl rfl rfl rfl
theorem call_Reader_peek_1 (h : ∀ c : FC, c.sc = s_Reader_peek → c.cl = [] → TSs prog g k c [("self", x0), ("ahead", (.int 0))] b_Reader_peek ⟨fun _ σ' => Q .none σ', Q, fun _ _ => False⟩ X σ) : CF prog g (k + 1) (.ref 485) [x0] Q X σ := by
  exact c_fn' T (fn_Reader_peek T) (ps := ["self", "ahead"]) (bind1 T (du := [(.int 0 906)]) (fun s I => VRs.cons'' (vint) (VRs0)) fun S u0 => by kernel_rfl) (by kernel_rfl) (by kernel_rfl) (by decide +kernel) h
theorem call_Reader_peek_2 (h : ∀ c : FC, c.sc = s_Reader_peek → c.cl = [] → TSs prog g k c [("self", x0), ("ahead", x1)] b_Reader_peek ⟨fun _ σ' => Q .none σ', Q, fun _ _ => False⟩ X σ) : CF prog g (k + 1) (.ref 485) [x0, x1] Q X σ := by
  exact c_fn' T (fn_Reader_peek T) (ps := ["self", "ahead"]) (bind2 T (fun s I => VRs0) fun S u0 u1 => by kernel_rfl) (by kernel_rfl) (by kernel_rfl) (by decide +kernel) h
noncomputable def fd_Reader_is_done : FuncData := fnOf (Str.ofString "is_done") (Str.ofString "Reader.is_done") (arg_Reader_is_done) (b_Reader_is_done) (s_Reader_is_done) (.none) (.none) (.none) (.str (Str.ofString "ledgerspeak.reader") 865) none (.ref 491) (.none)
theorem fn_Reader_is_done : FnIs g 492 fd_Reader_is_done b_Reader_is_done := FnIs.of_T (oc := .type "function") (od := none) (osl := Array.mk []) T rfl rfl rfl rfl rfl
theorem call_Reader_is_done_1 (h : ∀ c : FC, c.sc = s_Reader_is_done → c.cl = [] → TSs prog g k c [("self", x0)] b_Reader_is_done ⟨fun _ σ' => Q .none σ', Q, fun _ _ => False⟩ X σ) : CF prog g (k + 1) (.ref 492) [x0] Q X σ := by
  exact c_fn' T (fn_Reader_is_done T) (ps := ["self"]) (bind1 T (fun s I => VRs0) fun S u0 => by kernel_rfl) (by kernel_rfl) (by kernel_rfl) (by decide +kernel) h
noncomputable def fd_Reader_fault : FuncData := fnOf (Str.ofString "fault") (Str.ofString "Reader.fault") (arg_Reader_fault) (b_Reader_fault) (s_Reader_fault) (.none) (.none) (.none) (.str (Str.ofString "ledgerspeak.reader") 865) none (.ref 498) (.none)
theorem fn_Reader_fault : FnIs g 499 fd_Reader_fault b_Reader_fault := FnIs.of_T (oc := .type "function") (od := none) (osl := Array.mk []) T rfl rfl rfl rfl rfl
theorem call_Reader_fault_2 (h : ∀ c : FC, c.sc = s_Reader_fault → c.cl = [] → TSs prog g k c [("self", x0), ("what", x1)] b_Reader_fault ⟨fun _ σ' => Q .none σ', Q, fun _ _ => False⟩ X σ) : CF prog g (k + 1) (.ref 499) [x0, x1] Q X σ := by
  exact c_fn' T (fn_Reader_fault T) (ps := ["self", "what"]) (bind2 T (fun s I => VRs0) fun S u0 u1 => by kernel_rfl) (by kernel_rfl) (by kernel_rfl) (by decide +kernel) h
noncomputable def fd_Reader_take : FuncData := fnOf (Str.ofString "take") (Str.ofString "Reader.take") (arg_Reader_take) (b_Reader_take) (s_Reader_take) (.none) (.none) (.none) (.str (Str.ofString "ledgerspeak.reader") 865) none (.ref 505) (.none)
theorem fn_Reader_take : FnIs g 506 fd_Reader_take b_Reader_take := FnIs.of_T (oc := .type "function") (od := none) (osl := Array.mk []) T rfl rfl rfl rfl rfl
theorem call_Reader_take_1 (h : ∀ c : FC, c.sc = s_Reader_take → c.cl = [] → TSs prog g k c [("self", x0)] b_Reader_take ⟨fun _ σ' => Q .none σ', Q, fun _ _ => False⟩ X σ) : CF prog g (k + 1) (.ref 506) [x0] Q X σ := by
  exact c_fn' T (fn_Reader_take T) (ps := ["self"]) (bind1 T (fun s I => VRs0) fun S u0 => by kernel_rfl) (by kernel_rfl) (by kernel_rfl) (by decide +kernel) h
noncomputable def fd_Reader_is_kind : FuncData := fnOf (Str.ofString "is_kind") (Str.ofString "Reader.is_kind") (arg_Reader_is_kind) (b_Reader_is_kind) (s_Reader_is_kind) (.ref 507) (.none) (.none) (.str (Str.ofString "ledgerspeak.reader") 865) none (.ref 513) (.none)
theorem fn_Reader_is_kind : FnIs g 514 fd_Reader_is_kind b_Reader_is_kind := FnIs.of_T (oc := .type "function") (od := none) (osl := Array.mk []) T rfl rfl rfl rfl rfl
theorem call_Reader_is_kind_2 (h : ∀ c : FC, c.sc = s_Reader_is_kind → c.cl = [] → TSs prog g k c [("self", x0), ("kind", x1), ("ahead", (.int 0))] b_Reader_is_kind ⟨fun _ σ' => Q .none σ', Q, fun _ _ => False⟩ X σ) : CF prog g (k + 1) (.ref 514) [x0, x1] Q X σ := by
  exact c_fn' T (fn_Reader_is_kind T) (ps := ["self", "kind", "ahead"]) (bind2 T (du := [(.int 0 938)]) (fun s I => VRs.cons'' (vint) (VRs0)) fun S u0 u1 => by kernel_rfl) (by kernel_rfl) (by kernel_rfl) (by decide +kernel) h
theorem call_Reader_is_kind_3 (h : ∀ c : FC, c.sc = s_Reader_is_kind → c.cl = [] → TSs prog g k c [("self", x0), ("kind", x1), ("ahead", x2)] b_Reader_is_kind ⟨fun _ σ' => Q .none σ', Q, fun _ _ => False⟩ X σ) : CF prog g (k + 1) (.ref 514) [x0, x1, x2] Q X σ := by
  exact c_fn' T (fn_Reader_is_kind T) (ps := ["self", "kind", "ahead"]) (bind3 T (fun s I => VRs0) fun S u0 u1 u2 => by kernel_rfl) (by kernel_rfl) (by kernel_rfl) (by decide +kernel) h
noncomputable def fd_Reader_is_word : FuncData := fnOf (Str.ofString "is_word") (Str.ofString "Reader.is_word") (arg_Reader_is_word) (b_Reader_is_word) (s_Reader_is_word) (.none) (.none) (.none) (.str (Str.ofString "ledgerspeak.reader") 865) none (.ref 520) (.none)
theorem fn_Reader_is_word : FnIs g 521 fd_Reader_is_word b_Reader_is_word := FnIs.of_T (oc := .type "function") (od := none) (osl := Array.mk []) T rfl rfl rfl rfl rfl
theorem call_Reader_is_word_2 (h : ∀ c : FC, c.sc = s_Reader_is_word → c.cl = [] → TSs prog g k c [("self", x0), ("words", x1)] b_Reader_is_word ⟨fun _ σ' => Q .none σ', Q, fun _ _ => False⟩ X σ) : CF prog g (k + 1) (.ref 521) [x0, x1] Q X σ := by
  exact c_fn' T (fn_Reader_is_word T) (ps := ["self", "words"]) (bind2 T (fun s I => VRs0) fun S u0 u1 => by kernel_rfl) (by kernel_rfl) (by kernel_rfl) (by decide +kernel) h
noncomputable def fd_Reader_skip : FuncData := fnOf (Str.ofString "skip") (Str.ofString "Reader.skip") (arg_Reader_skip) (b_Reader_skip) (s_Reader_skip) (.none) (.none) (.none) (.str (Str.ofString "ledgerspeak.reader") 865) none (.ref 527) (.none)
theorem fn_Reader_skip : FnIs g 528 fd_Reader_skip b_Reader_skip := FnIs.of_T (oc := .type "function") (od := none) (osl := Array.mk []) T rfl rfl rfl rfl rfl
theorem call_Reader_skip_2 (h : ∀ c : FC, c.sc = s_Reader_skip → c.cl = [] → TSs prog g k c [("self", x0), ("words", x1)] b_Reader_skip ⟨fun _ σ' => Q .none σ', Q, fun _ _ => False⟩ X σ) : CF prog g (k + 1) (.ref 528) [x0, x1] Q X σ := by
  exact c_fn' T (fn_Reader_skip T) (ps := ["self", "words"]) (bind2 T (fun s I => VRs0) fun S u0 u1 => by kernel_rfl) (by kernel_rfl) (by kernel_rfl) (by decide +kernel) h
noncomputable def fd_Reader_need : FuncData := fnOf (Str.ofString "need") (Str.ofString "Reader.need") (arg_Reader_need) (b_Reader_need) (s_Reader_need) (.none) (.none) (.none) (.str (Str.ofString "ledgerspeak.reader") 865) none (.ref 534) (.none)
theorem fn_Reader_need : FnIs g 535 fd_Reader_need b_Reader_need := FnIs.of_T (oc := .type "function") (od := none) (osl := Array.mk []) T rfl rfl rfl rfl rfl
theorem call_Reader_need_2 (h : ∀ c : FC, c.sc = s_Reader_need → c.cl = [] → TSs prog g k c [("self", x0), ("words", x1)] b_Reader_need ⟨fun _ σ' => Q .none σ', Q, fun _ _ => False⟩ X σ) : CF prog g (k + 1) (.ref 535) [x0, x1] Q X σ := by
  exact c_fn' T (fn_Reader_need T) (ps := ["self", "words"]) (bind2 T (fun s I => VRs0) fun S u0 u1 => by kernel_rfl) (by kernel_rfl) (by kernel_rfl) (by decide +kernel) h
noncomputable def fd_Reader_one_of : FuncData := fnOf (Str.ofString "one_of") (Str.ofString "Reader.one_of") (arg_Reader_one_of) (b_Reader_one_of) (s_Reader_one_of) (.none) (.none) (.none) (.str (Str.ofString "ledgerspeak.reader") 865) none (.ref 541) (.none)
theorem fn_Reader_one_of : FnIs g 542 fd_Reader_one_of b_Reader_one_of := FnIs.of_T (oc := .type "function") (od := none) (osl := Array.mk []) T rfl rfl rfl rfl rfl
theorem call_Reader_one_of_2 (h : ∀ c : FC, c.sc = s_Reader_one_of → c.cl = [] → TSs prog g k c [("self", x0), ("words", x1)] b_Reader_one_of ⟨fun _ σ' => Q .none σ', Q, fun _ _ => False⟩ X σ) : CF prog g (k + 1) (.ref 542) [x0, x1] Q X σ := by
  exact c_fn' T (fn_Reader_one_of T) (ps := ["self", "words"]) (bind2 T (fun s I => VRs0) fun S u0 u1 => by kernel_rfl) (by kernel_rfl) (by kernel_rfl) (by decide +kernel) h
noncomputable def fd_Reader_is_name : FuncData := fnOf (Str.ofString "is_name") (Str.ofString "Reader.is_name") (arg_Reader_is_name) (b_Reader_is_name) (s_Reader_is_name) (.ref 550) (.none) (.none) (.str (Str.ofString "ledgerspeak.reader") 865) none (.ref 556) (.none)
theorem fn_Reader_is_name : FnIs g 557 fd_Reader_is_name b_Reader_is_name := FnIs.of_T (oc := .type "function") (od := none) (osl := Array.mk []) T rfl rfl rfl rfl rfl
theorem call_Reader_is_name_1 (h : ∀ c : FC, c.sc = s_Reader_is_name → c.cl = [] → TSs prog g k c [("self", x0), ("ahead", (.int 0))] b_Reader_is_name ⟨fun _ σ' => Q .none σ', Q, fun _ _ => False⟩ X σ) : CF prog g (k + 1) (.ref 557) [x0] Q X σ := by
  exact c_fn' T (fn_Reader_is_name T) (ps := ["self", "ahead"]) (bind1 T (du := [(.int 0 991)]) (fun s I => VRs.cons'' (vint) (VRs0)) fun S u0 => by kernel_rfl) (by kernel_rfl) (by kernel_rfl) (by decide +kernel) h
noncomputable def fd_Reader_name : FuncData := fnOf (Str.ofString "name") (Str.ofString "Reader.name") (arg_Reader_name) (b_Reader_name) (s_Reader_name) (.none) (.none) (.none) (.str (Str.ofString "ledgerspeak.reader") 865) none (.ref 563) (.none)
theorem fn_Reader_name : FnIs g 564 fd_Reader_name b_Reader_name := FnIs.of_T (oc := .type "function") (od := none) (osl := Array.mk []) T rfl rfl rfl rfl rfl
theorem call_Reader_name_1 (h : ∀ c : FC, c.sc = s_Reader_name → c.cl = [] → TSs prog g k c [("self", x0)] b_Reader_name ⟨fun _ σ' => Q .none σ', Q, fun _ _ => False⟩ X σ) : CF prog g (k + 1) (.ref 564) [x0] Q X σ := by
  exact c_fn' T (fn_Reader_name T) (ps := ["self"]) (bind1 T (fun s I => VRs0) fun S u0 => by kernel_rfl) (by kernel_rfl) (by kernel_rfl) (by decide +kernel) h
noncomputable def fd_Reader_is_sign : FuncData := fnOf (Str.ofString "is_sign") (Str.ofString "Reader.is_sign") (arg_Reader_is_sign) (b_Reader_is_sign) (s_Reader_is_sign) (.ref 572) (.none) (.none) (.str (Str.ofString "ledgerspeak.reader") 865) none (.ref 578) (.none)
theorem fn_Reader_is_sign : FnIs g 579 fd_Reader_is_sign b_Reader_is_sign := FnIs.of_T (oc := .type "function") (od := none) (osl := Array.mk []) T rfl rfl rfl rfl rfl
theorem call_Reader_is_sign_2 (h : ∀ c : FC, c.sc = s_Reader_is_sign → c.cl = [] → TSs prog g k c [("self", x0), ("sign", x1), ("ahead", (.int 0))] b_Reader_is_sign ⟨fun _ σ' => Q .none σ', Q, fun _ _ => False⟩ X σ) : CF prog g (k + 1) (.ref 579) [x0, x1] Q X σ := by
  exact c_fn' T (fn_Reader_is_sign T) (ps := ["self", "sign", "ahead"]) (bind2 T (du := [(.int 0 1015)]) (fun s I => VRs.cons'' (vint) (VRs0)) fun S u0 u1 => by kernel_rfl) (by kernel_rfl) (by kernel_rfl) (by decide +kernel) h
theorem call_Reader_is_sign_3 (h : ∀ c : FC, c.sc = s_Reader_is_sign → c.cl = [] → TSs prog g k c [("self", x0), ("sign", x1), ("ahead", x2)] b_Reader_is_sign ⟨fun _ σ' => Q .none σ', Q, fun _ _ => False⟩ X σ) : CF prog g (k + 1) (.ref 579) [x0, x1, x2] Q X σ := by
  exact c_fn' T (fn_Reader_is_sign T) (ps := ["self", "sign", "ahead"]) (bind3 T (fun s I => VRs0) fun S u0 u1 u2 => by kernel_rfl) (by kernel_rfl) (by kernel_rfl) (by decide +kernel) h
noncomputable def fd_Reader_skip_sign : FuncData := fnOf (Str.ofString "skip_sign") (Str.ofString "Reader.skip_sign") (arg_Reader_skip_sign) (b_Reader_skip_sign) (s_Reader_skip_sign) (.none) (.none) (.none) (.str (Str.ofString "ledgerspeak.reader") 865) none (.ref 585) (.none)
theorem fn_Reader_skip_sign : FnIs g 586 fd_Reader_skip_sign b_Reader_skip_sign := FnIs.of_T (oc := .type "function") (od := none) (osl := Array.mk []) T rfl rfl rfl rfl rfl
theorem call_Reader_skip_sign_2 (h : ∀ c : FC, c.sc = s_Reader_skip_sign → c.cl = [] → TSs prog g k c [("self", x0), ("sign", x1)] b_Reader_skip_sign ⟨fun _ σ' => Q .none σ', Q, fun _ _ => False⟩ X σ) : CF prog g (k + 1) (.ref 586) [x0, x1] Q X σ := by
  exact c_fn' T (fn_Reader_skip_sign T) (ps := ["self", "sign"]) (bind2 T (fun s I => VRs0) fun S u0 u1 => by kernel_rfl) (by kernel_rfl) (by kernel_rfl) (by decide +kernel) h
noncomputable def fd_Reader_need_sign : FuncData := fnOf (Str.ofString "need_sign") (Str.ofString "Reader.need_sign") (arg_Reader_need_sign) (b_Reader_need_sign) (s_Reader_need_sign) (.none) (.none) (.none) (.str (Str.ofString "ledgerspeak.reader") 865) none (.ref 592) (.none)
theorem fn_Reader_need_sign : FnIs g 593 fd_Reader_need_sign b_Reader_need_sign := FnIs.of_T (oc := .type "function") (od := none) (osl := Array.mk []) T rfl rfl rfl rfl rfl
theorem call_Reader_need_sign_2 (h : ∀ c : FC, c.sc = s_Reader_need_sign → c.cl = [] → TSs prog g k c [("self", x0), ("sign", x1)] b_Reader_need_sign ⟨fun _ σ' => Q .none σ', Q, fun _ _ => False⟩ X σ) : CF prog g (k + 1) (.ref 593) [x0, x1] Q X σ := by
  exact c_fn' T (fn_Reader_need_sign T) (ps := ["self", "sign"]) (bind2 T (fun s I => VRs0) fun S u0 u1 => by kernel_rfl) (by kernel_rfl) (by kernel_rfl) (by decide +kernel) h
noncomputable def fd_Reader_is_number : FuncData := fnOf (Str.ofString "is_number") (Str.ofString "Reader.is_number") (arg_Reader_is_number) (b_Reader_is_number) (s_Reader_is_number) (.none) (.none) (.none) (.str (Str.ofString "ledgerspeak.reader") 865) none (.ref 599) (.none)
theorem fn_Reader_is_number : FnIs g 600 fd_Reader_is_number b_Reader_is_number := FnIs.of_T (oc := .type "function") (od := none) (osl := Array.mk []) T rfl rfl rfl rfl rfl
theorem call_Reader_is_number_1 (h : ∀ c : FC, c.sc = s_Reader_is_number → c.cl = [] → TSs prog g k c [("self", x0)] b_Reader_is_number ⟨fun _ σ' => Q .none σ', Q, fun _ _ => False⟩ X σ) : CF prog g (k + 1) (.ref 600) [x0] Q X σ := by
  exact c_fn' T (fn_Reader_is_number T) (ps := ["self"]) (bind1 T (fun s I => VRs0) fun S u0 => by kernel_rfl) (by kernel_rfl) (by kernel_rfl) (by decide +kernel) h
noncomputable def fd_Reader_signed : FuncData := fnOf (Str.ofString "signed") (Str.ofString "Reader.signed") (arg_Reader_signed) (b_Reader_signed) (s_Reader_signed) (.none) (.none) (.none) (.str (Str.ofString "ledgerspeak.reader") 865) none (.ref 606) (.none)
theorem fn_Reader_signed : FnIs g 607 fd_Reader_signed b_Reader_signed := FnIs.of_T (oc := .type "function") (od := none) (osl := Array.mk []) T rfl rfl rfl rfl rfl
theorem call_Reader_signed_1 (h : ∀ c : FC, c.sc = s_Reader_signed → c.cl = [] → TSs prog g k c [("self", x0)] b_Reader_signed ⟨fun _ σ' => Q .none σ', Q, fun _ _ => False⟩ X σ) : CF prog g (k + 1) (.ref 607) [x0] Q X σ := by
  exact c_fn' T (fn_Reader_signed T) (ps := ["self"]) (bind1 T (fun s I => VRs0) fun S u0 => by kernel_rfl) (by kernel_rfl) (by kernel_rfl) (by decide +kernel) h
noncomputable def fd_Reader_whole : FuncData := fnOf (Str.ofString "whole") (Str.ofString "Reader.whole") (arg_Reader_whole) (b_Reader_whole) (s_Reader_whole) (.none) (.none) (.none) (.str (Str.ofString "ledgerspeak.reader") 865) none (.ref 613) (.none)
theorem fn_Reader_whole : FnIs g 614 fd_Reader_whole b_Reader_whole := FnIs.of_T (oc := .type "function") (od := none) (osl := Array.mk []) T rfl rfl rfl rfl rfl
theorem call_Reader_whole_1 (h : ∀ c : FC, c.sc = s_Reader_whole → c.cl = [] → TSs prog g k c [("self", x0)] b_Reader_whole ⟨fun _ σ' => Q .none σ', Q, fun _ _ => False⟩ X σ) : CF prog g (k + 1) (.ref 614) [x0] Q X σ := by
  exact c_fn' T (fn_Reader_whole T) (ps := ["self"]) (bind1 T (fun s I => VRs0) fun S u0 => by kernel_rfl) (by kernel_rfl) (by kernel_rfl) (by decide +kernel) h
noncomputable def fd_Reader_octets : FuncData := fnOf (Str.ofString "octets") (Str.ofString "Reader.octets") (arg_Reader_octets) (b_Reader_octets) (s_Reader_octets) (.none) (.none) (.none) (.str (Str.ofString "ledgerspeak.reader") 865) none (.ref 627) (.none)
theorem fn_Reader_octets : FnIs g 628 fd_Reader_octets b_Reader_octets := FnIs.of_T (oc := .type "function") (od := none) (osl := Array.mk []) T rfl rfl rfl rfl rfl
theorem call_Reader_octets_1 (h : ∀ c : FC, c.sc = s_Reader_octets → c.cl = [] → TSs prog g k c [("self", x0)] b_Reader_octets ⟨fun _ σ' => Q .none σ', Q, fun _ _ => False⟩ X σ) : CF prog g (k + 1) (.ref 628) [x0] Q X σ := by
  exact c_fn' T (fn_Reader_octets T) (ps := ["self"]) (bind1 T (fun s I => VRs0) fun S u0 => by kernel_rfl) (by kernel_rfl) (by kernel_rfl) (by decide +kernel) h
noncomputable def fd_Token_init : FuncData := fnOf (Str.ofString "__init__") (Str.ofString "Token.__init__") (arg_Token_init) (b_Token_init) (s_Token_init) (.ref 644) (.none) (.none) (.str (Str.ofString "ledgerspeak.tokens") 1091) none (.ref 650) (.none)
theorem fn_Token_init : FnIs g 651 fd_Token_init b_Token_init := FnIs.of_T (oc := .type "function") (od := none) (osl := Array.mk []) T rfl rfl rfl rfl rfl
theorem call_Token_init_3 (h : ∀ c : FC, c.sc = s_Token_init → c.cl = [] → TSs prog g k c [("self", x0), ("kind", x1), ("worth", x2), ("at", (.tup [.int 0, .int 0])), ("is_in_a", (.bool false))] b_Token_init ⟨fun _ σ' => Q .none σ', Q, fun _ _ => False⟩ X σ) : CF prog g (k + 1) (.ref 651) [x0, x1, x2] Q X σ := by
  exact c_fn' T (fn_Token_init T) (ps := ["self", "kind", "worth", "at", "is_in_a"]) (bind3 T (du := [(.ref 643), (.bool false)]) (fun s I => VRs.cons'' (VR.tup00 T I rfl) (VRs.cons'' (vbool) (VRs0))) fun S u0 u1 u2 => by kernel_rfl) (by kernel_rfl) (by kernel_rfl) (by decide +kernel) h
noncomputable def fd__law_draw : FuncData := fnOf (Str.ofString "_law_draw") (Str.ofString "_law_draw") (arg__law_draw) (b__law_draw) (s__law_draw) (.none) (.none) (.none) (.str (Str.ofString "law_pc0154_01") 1137) none (.ref 671) (.none)
theorem fn__law_draw : FnIs g 672 fd__law_draw b__law_draw := FnIs.of_T (oc := .type "function") (od := none) (osl := Array.mk []) T rfl rfl rfl rfl rfl
theorem call__law_draw_2 (h : ∀ c : FC, c.sc = s__law_draw → c.cl = [] → TSs prog g k c [("tape", x0), ("many", x1)] b__law_draw ⟨fun _ σ' => Q .none σ', Q, fun _ _ => False⟩ X σ) : CF prog g (k + 1) (.ref 672) [x0, x1] Q X σ := by
  exact c_fn' T (fn__law_draw T) (ps := ["tape", "many"]) (bind2 T (fun s I => VRs0) fun S u0 u1 => by kernel_rfl) (by kernel_rfl) (by kernel_rfl) (by decide +kernel) h
noncomputable def fd__law_tokens : FuncData := fnOf (Str.ofString "_law_tokens") (Str.ofString "_law_tokens") (arg__law_tokens) (b__law_tokens) (s__law_tokens) (.none) (.none) (.none) (.str (Str.ofString "law_pc0154_01") 1137) none (.ref 678) (.none)
theorem fn__law_tokens : FnIs g 679 fd__law_tokens b__law_tokens := FnIs.of_T (oc := .type "function") (od := none) (osl := Array.mk []) T rfl rfl rfl rfl rfl
theorem call__law_tokens_1 (h : ∀ c : FC, c.sc = s__law_tokens → c.cl = [] → TSs prog g k c [("text", x0)] b__law_tokens ⟨fun _ σ' => Q .none σ', Q, fun _ _ => False⟩ X σ) : CF prog g (k + 1) (.ref 679) [x0] Q X σ := by
  exact c_fn' T (fn__law_tokens T) (ps := ["text"]) (bind1 T (fun s I => VRs0) fun S u0 => by kernel_rfl) (by kernel_rfl) (by kernel_rfl) (by decide +kernel) h
noncomputable def fd__law_record : FuncData := fnOf (Str.ofString "_law_record") (Str.ofString "_law_record") (arg__law_record) (b__law_record) (s__law_record) (.none) (.none) (.none) (.str (Str.ofString "law_pc0154_01") 1137) none (.ref 685) (.none)
theorem fn__law_record : FnIs g 686 fd__law_record b__law_record := FnIs.of_T (oc := .type "function") (od := none) (osl := Array.mk []) T rfl rfl rfl rfl rfl
theorem call__law_record_2 (h : ∀ c : FC, c.sc = s__law_record → c.cl = [] → TSs prog g k c [("tape", x0), ("name", x1)] b__law_record ⟨fun _ σ' => Q .none σ', Q, fun _ _ => False⟩ X σ) : CF prog g (k + 1) (.ref 686) [x0, x1] Q X σ := by
  exact c_fn' T (fn__law_record T) (ps := ["tape", "name"]) (bind2 T (fun s I => VRs0) fun S u0 u1 => by kernel_rfl) (by kernel_rfl) (by kernel_rfl) (by decide +kernel) h
noncomputable def fd__law_records : FuncData := fnOf (Str.ofString "_law_records") (Str.ofString "_law_records") (arg__law_records) (b__law_records) (s__law_records) (.none) (.none) (.none) (.str (Str.ofString "law_pc0154_01") 1137) none (.ref 692) (.none)
theorem fn__law_records : FnIs g 693 fd__law_records b__law_records := FnIs.of_T (oc := .type "function") (od := none) (osl := Array.mk []) T rfl rfl rfl rfl rfl
theorem call__law_records_3 (h : ∀ c : FC, c.sc = s__law_records → c.cl = [] → TSs prog g k c [("tape", x0), ("lead", x1), ("most", x2)] b__law_records ⟨fun _ σ' => Q .none σ', Q, fun _ _ => False⟩ X σ) : CF prog g (k + 1) (.ref 693) [x0, x1, x2] Q X σ := by
  exact c_fn' T (fn__law_records T) (ps := ["tape", "lead", "most"]) (bind3 T (fun s I => VRs0) fun S u0 u1 u2 => by kernel_rfl) (by kernel_rfl) (by kernel_rfl) (by decide +kernel) h
noncomputable def fd__law_seen : FuncData := fnOf (Str.ofString "_law_seen") (Str.ofString "_law_seen") (arg__law_seen) (b__law_seen) (s__law_seen) (.none) (.none) (.none) (.str (Str.ofString "law_pc0154_01") 1137) none (.ref 697) (.none)
theorem fn__law_seen : FnIs g 698 fd__law_seen b__law_seen := FnIs.of_T (oc := .type "function") (od := none) (osl := Array.mk []) T rfl rfl rfl rfl rfl
theorem call__law_seen_1 (h : ∀ c : FC, c.sc = s__law_seen → c.cl = [] → TSs prog g k c [("item", x0)] b__law_seen ⟨fun _ σ' => Q .none σ', Q, fun _ _ => False⟩ X σ) : CF prog g (k + 1) (.ref 698) [x0] Q X σ := by
  exact c_fn' T (fn__law_seen T) (ps := ["item"]) (bind1 T (fun s I => VRs0) fun S u0 => by kernel_rfl) (by kernel_rfl) (by kernel_rfl) (by decide +kernel) h
noncomputable def fd__law_refused : FuncData := fnOf (Str.ofString "_law_refused") (Str.ofString "_law_refused") (arg__law_refused) (b__law_refused) (s__law_refused) (.none) (.none) (.none) (.str (Str.ofString "law_pc0154_01") 1137) none (.ref 704) (.none)
theorem fn__law_refused : FnIs g 705 fd__law_refused b__law_refused := FnIs.of_T (oc := .type "function") (od := none) (osl := Array.mk []) T rfl rfl rfl rfl rfl
theorem call__law_refused_1 (h : ∀ c : FC, c.sc = s__law_refused → c.cl = [] → TSs prog g k c [("text", x0)] b__law_refused ⟨fun _ σ' => Q .none σ', Q, fun _ _ => False⟩ X σ) : CF prog g (k + 1) (.ref 705) [x0] Q X σ := by
  exact c_fn' T (fn__law_refused T) (ps := ["text"]) (bind1 T (fun s I => VRs0) fun S u0 => by kernel_rfl) (by kernel_rfl) (by kernel_rfl) (by decide +kernel) h
noncomputable def fd_law : FuncData := fnOf (Str.ofString "law") (Str.ofString "law") (arg_law) (b_law) (s_law) (.none) (.none) (.none) (.str (Str.ofString "law_pc0154_01") 1137) none (.ref 709) (.none)
theorem fn_law : FnIs g 710 fd_law b_law := FnIs.of_T (oc := .type "function") (od := none) (osl := Array.mk []) T rfl rfl rfl rfl rfl
end
end
section
theorem ga_of (T : Top g) {C : Addr} {x : Str} (h : getOk (K0 g.w.params) C x = true) : getOk g.K C x = true := by rw [T.K]; exact h
theorem sa_of (T : Top g) {C : Addr} {x : Str} (h : setOk (K0 g.w.params) C x = true) : setOk g.K C x = true := by rw [T.K]; exact h
theorem kp_of (T : Top g) {a : Addr} (h : keepIn (K0 g.w.params) (.ref a) = true) : Kp g (.ref a) := Kp.of T.ok (by rw [T.K]; exact h)
noncomputable abbrev meTab : List (Addr × String × Addr) := [(141, "__init__", 131), (141, "told", 138), (188, "__init__", 159), (188, "add", 166), (214, "__init__", 206), (214, "told", 211), (631, "__init__", 477), (631, "peek", 485), (631, "is_done", 492), (631, "fault", 499), (631, "take", 506), (631, "is_kind", 514), (631, "is_word", 521), (631, "skip", 528), (631, "need", 535), (631, "one_of", 542), (631, "is_name", 557), (631, "name", 564), (631, "is_sign", 579), (631, "skip_sign", 586), (631, "need_sign", 593), (631, "is_number", 600), (631, "signed", 607), (631, "whole", 614), (631, "octets", 628), (661, "__init__", 651)]
theorem me_all (P : Params) : (meTab.all fun p => methOk (K0 P) p.1 (Str.ofString p.2.1) p.2.2) = true := by kernel_rfl
theorem me_of (T : Top g) {C : Addr} {x : String} {a : Addr} (h : (C, x, a) ∈ meTab) : methOk g.K C (Str.ofString x) a = true := by
  rw [T.K]; exact List.all_eq_true.mp (me_all g.w.params) _ h
theorem mk_Named (T : Top g) {k : Nat} {Q : V → Store → Prop} {X : Addr → Prop} {σ : Store} {vs : List V} (h : ∀ a d, σ a = none → σ d = none → a ≠ d → CF prog g k (.ref 131) (.ref a :: vs) (fun v σ' => v = .none ∧ Q (.ref a) σ') X (upd (upd σ d (.shadow a)) a (.inst 141 d []))) : CF prog g (k + 1) (.ref 141) vs Q X σ :=
  c_cls T.ok (by rw [T.K]; kernel_rfl) (by rw [T.K]; kernel_rfl) (by rw [T.K]; kernel_rfl) h
theorem mk_Item (T : Top g) {k : Nat} {Q : V → Store → Prop} {X : Addr → Prop} {σ : Store} {vs : List V} (h : ∀ a d, σ a = none → σ d = none → a ≠ d → CF prog g k (.ref 159) (.ref a :: vs) (fun v σ' => v = .none ∧ Q (.ref a) σ') X (upd (upd σ d (.shadow a)) a (.inst 188 d []))) : CF prog g (k + 1) (.ref 188) vs Q X σ :=
  c_cls T.ok (by rw [T.K]; kernel_rfl) (by rw [T.K]; kernel_rfl) (by rw [T.K]; kernel_rfl) h
theorem mk_Data (T : Top g) {k : Nat} {Q : V → Store → Prop} {X : Addr → Prop} {σ : Store} {vs : List V} (h : ∀ a d, σ a = none → σ d = none → a ≠ d → CF prog g k (.ref 206) (.ref a :: vs) (fun v σ' => v = .none ∧ Q (.ref a) σ') X (upd (upd σ d (.shadow a)) a (.inst 214 d []))) : CF prog g (k + 1) (.ref 214) vs Q X σ :=
  c_cls T.ok (by rw [T.K]; kernel_rfl) (by rw [T.K]; kernel_rfl) (by rw [T.K]; kernel_rfl) h
theorem mk_Reader (T : Top g) {k : Nat} {Q : V → Store → Prop} {X : Addr → Prop} {σ : Store} {vs : List V} (h : ∀ a d, σ a = none → σ d = none → a ≠ d → CF prog g k (.ref 477) (.ref a :: vs) (fun v σ' => v = .none ∧ Q (.ref a) σ') X (upd (upd σ d (.shadow a)) a (.inst 631 d []))) : CF prog g (k + 1) (.ref 631) vs Q X σ :=
  c_cls T.ok (by rw [T.K]; kernel_rfl) (by rw [T.K]; kernel_rfl) (by rw [T.K]; kernel_rfl) h
theorem mk_Token (T : Top g) {k : Nat} {Q : V → Store → Prop} {X : Addr → Prop} {σ : Store} {vs : List V} (h : ∀ a d, σ a = none → σ d = none → a ≠ d → CF prog g k (.ref 651) (.ref a :: vs) (fun v σ' => v = .none ∧ Q (.ref a) σ') X (upd (upd σ d (.shadow a)) a (.inst 661 d []))) : CF prog g (k + 1) (.ref 661) vs Q X σ :=
  c_cls T.ok (by rw [T.K]; kernel_rfl) (by rw [T.K]; kernel_rfl) (by rw [T.K]; kernel_rfl) h
end
section
noncomputable section
noncomputable abbrev pw : Program := PySem.Challenge.pw_pc0154_01
noncomputable def sk (g : Nat → Obj) (n : Nat) : Nat → Nat → Nat → BT
  | 0, _, _ => .nil
  | k + 1, a, b => match Nat.blt b n with
    | true => .node (g b) (sk g n k (2 * a) (a + b)) (sk g n k (2 * a) (2 * a + b))
    | false => .nil
noncomputable def leafOf (f : Nat → Obj) : List (Nat × Obj) → Nat → Obj
  | [], i => f i
  | p :: l, i => match Nat.beq p.1 i with
    | true => p.2
    | false => leafOf f l i
noncomputable def hBody : List Stmt := behindTheImports pw
noncomputable def hEnv : Env := { scope := pw.main.scope, locals := mainNs, globals := mainNs, cells := [], code := .ref 13, frame := some 14 }
noncomputable def hCode : Code := .body hBody hEnv
structure Cut where
  i : Nat
  n : Nat
  toks : Nat
  pos : Pos
  n3 : Nat
  nm : Str
  tk : Tok
  m12 : Nat
  two : Bool
  subs : List Value
noncomputable def L12 : List (Int × Addr) := [(1, 20), (5, 27), (14, 56), (16, 68), (18, 80), (24, 92), (35, 123), (43, 151), (81, 198), (97, 225), (110, 232), (118, 239), (125, 246), (135, 253), (142, 260), (146, 267), (160, 275), (162, 282), (166, 287), (187, 294), (192, 301), (220, 308), (230, 315), (245, 322), (258, 329), (269, 336), (275, 343), (293, 350), (296, 357), (308, 364), (331, 371), (336, 378), (349, 385), (354, 392), (370, 399), (374, 407), (381, 414), (383, 421), (391, 428), (393, 435), (395, 442), (400, 449), (418, 456), (420, 461), (425, 468), (549, 641), (560, 671), (564, 678), (574, 685), (589, 692), (595, 697), (598, 704), (604, 709)]
noncomputable def hc0 : Cut := ⟨0, 15, 187, ⟨0, 0, 0, 0⟩, 9, Str.ofString "__main__", 164, 0, false, []⟩
noncomputable def hc1 : Cut := ⟨3, 51, 236, ⟨5, 0, 13, 35⟩, 11, Str.ofString "ledgerspeak.errors", 194, 2, true, []⟩
noncomputable def hc2 : Cut := ⟨4, 63, 252, ⟨14, 0, 15, 8⟩, 12, Str.ofString "ledgerspeak.errors", 194, 3, true, [.ref 60]⟩
noncomputable def hc3 : Cut := ⟨5, 75, 268, ⟨16, 0, 17, 8⟩, 13, Str.ofString "ledgerspeak.errors", 194, 4, true, [.ref 60, .ref 72]⟩
noncomputable def hc4 : Cut := ⟨10, 87, 292, ⟨23, 0, 23, 5⟩, 17, Str.ofString "ledgerspeak.items", 284, 5, true, [.ref 60, .ref 72, .ref 84]⟩
noncomputable def hc5 : Cut := ⟨11, 118, 336, ⟨24, 0, 34, 77⟩, 18, Str.ofString "ledgerspeak.items", 284, 6, true, [.ref 60, .ref 72, .ref 84]⟩
noncomputable def hc6 : Cut := ⟨12, 146, 374, ⟨35, 0, 42, 37⟩, 19, Str.ofString "ledgerspeak.items", 284, 7, true, [.ref 60, .ref 72, .ref 84]⟩
noncomputable def hc7 : Cut := ⟨13, 193, 452, ⟨43, 0, 80, 103⟩, 20, Str.ofString "ledgerspeak.items", 284, 8, true, [.ref 60, .ref 72, .ref 84]⟩
noncomputable def hc8 : Cut := ⟨16, 219, 495, ⟨95, 0, 95, 15⟩, 22, Str.ofString "ledgerspeak.references", 491, 9, true, [.ref 60, .ref 72, .ref 84]⟩
noncomputable def hc9 : Cut := ⟨17, 220, 529, ⟨96, 0, 96, 12⟩, 23, Str.ofString "ledgerspeak.references", 491, 9, true, [.ref 60, .ref 72, .ref 84]⟩
noncomputable def hc10 : Cut := ⟨28, 269, 601, ⟨158, 0, 158, 11⟩, 33, Str.ofString "ledgerspeak.dataread", 593, 16, true, [.ref 60, .ref 72, .ref 84]⟩
noncomputable def hc11 : Cut := ⟨29, 270, 626, ⟨159, 0, 159, 11⟩, 34, Str.ofString "ledgerspeak.dataread", 593, 16, true, [.ref 60, .ref 72, .ref 84]⟩
noncomputable def hc12 : Cut := ⟨40, 345, 724, ⟨275, 0, 292, 15⟩, 45, Str.ofString "ledgerspeak.dataread", 593, 27, true, [.ref 60, .ref 72, .ref 84]⟩
noncomputable def hc13 : Cut := ⟨52, 416, 818, ⟨381, 0, 382, 24⟩, 56, Str.ofString "ledgerspeak.decimals", 790, 37, true, [.ref 60, .ref 72, .ref 84]⟩
noncomputable def hc14 : Cut := ⟨62, 463, 884, ⟨420, 0, 424, 25⟩, 65, Str.ofString "ledgerspeak.reader", 865, 44, true, [.ref 60, .ref 72, .ref 84]⟩
noncomputable def hc15 : Cut := ⟨63, 636, 1091, ⟨425, 0, 547, 20⟩, 66, Str.ofString "ledgerspeak.reader", 865, 45, true, [.ref 60, .ref 72, .ref 84]⟩
noncomputable def hc16 : Cut := ⟨68, 680, 1158, ⟨564, 0, 573, 16⟩, 69, Str.ofString "law_pc0154_01", 1137, 48, true, [.ref 60, .ref 72, .ref 84]⟩
noncomputable def hc17 : Cut := ⟨73, 711, 1205, ⟨604, 0, 633, 75⟩, 74, Str.ofString "law_pc0154_01", 1137, 53, true, [.ref 60, .ref 72, .ref 84]⟩
noncomputable def E3 (P : Params) : List DictEntry := match (o_3 P).data with
  | .dict es _ => es.toList
  | _ => []
noncomputable def o3 (P : Params) (c : Cut) : Obj := ⟨.type "dict", none, .dict (Array.mk (⟨PyData.keyHash P (Str.ofString "__name__"), .str (Str.ofString "__name__") 165, .str c.nm c.tk⟩ :: ((E3 P).drop 1).take (c.n3 - 1))) c.n3, Array.mk []⟩
noncomputable def o12 (c : Cut) : Obj := ⟨.none, none, .fields (Array.mk ((L12.take c.m12).flatMap fun p => [.int p.1 0, .int 0 0, .ref p.2])), Array.mk []⟩
noncomputable def o2 (P : Params) (c : Cut) : Obj := ⟨.none, none, .dict (Array.mk (match c.two with
  | true => [⟨PyData.keyHash P (Str.ofString "type.__subclasses__.Exception.0"), .str (Str.ofString "type.__subclasses__.Exception.0") 232, .int 47 0⟩, ⟨PyData.keyHash P (Str.ofString "type.__subclasses__.Exception.n"), .str (Str.ofString "type.__subclasses__.Exception.n") 233, .int 1 0⟩]
  | false => [])) (match c.two with | true => 2 | false => 0), Array.mk []⟩
noncomputable def o47 (P : Params) (c : Cut) : Obj := match o_47 P with
  | ⟨a, b, .cls d, s⟩ => ⟨a, b, .cls { d with subclasses := c.subs }, s⟩
  | o => o
noncomputable def o_13 : Obj := ⟨.type "code", none, .fields (Array.mk [.str (Str.ofString "<module>") 182, .str (Str.ofString "<module>") 183, .str (Str.ofString "/claim/cut.py") 184, .int 1 0, .int 0 0, .int 0 0, .int 0 0, .int 0 0, .ref 11, .bool false, .int 181 0, .ref 12, .none, .none, .none, .none, .int 185 0, .int 1 0, .str (Str.ofString "/claim/cut.py") 186]), Array.mk []⟩
noncomputable def o_14 : Obj := ⟨.type "frame", none, .plain, Array.mk [some (.ref 13), some (.ref 3), some (.ref 3), none, some (.str (Str.ofString "__main__") 164), none, some (.ref 0)]⟩
noncomputable def hKn (P : Params) (c : Cut) : List (Nat × Obj) := (3, o3 P c) :: (12, o12 c) :: (2, o2 P c) :: (14, o_14) :: (13, o_13) :: (0, boot_o_0 P) :: (1, boot_o_1 P) :: (4, boot_o_4 P) :: (5, boot_o_5 P) :: (6, boot_o_6 P) ::
  (((47, o47 P c) :: (707, ⟨.none, none, .fields (Array.mk []), Array.mk []⟩) :: (K0 P).filter fun p => !(Nat.beq p.1 0 || Nat.beq p.1 3 || Nat.beq p.1 47)).filter fun p => Nat.blt p.1 c.n)
noncomputable def stT (w : World) (c : Cut) (f : Nat → Obj) (os : OsState) : SharedT := ⟨sk (leafOf f (hKn w.params c)) c.n 11 1 0, c.n, {}, Array.mk [], boot_drawn, c.toks, os⟩
noncomputable abbrev RunR := Option (Flow × SharedT × Code × Pos)
noncomputable def hRun (w : World) (f : Nat → Obj) (os : OsState) (c c' : Cut) (N : Nat) : RunR :=
  PySem.W.Fast.tw10110043849684766642 PySem.W.Fast.tw14364793385576792824 pw w 11 (some (.ref 6)) 1 N (stT w c f os) (piecesOf ((hBody.drop c.i).take (c'.i - c.i)) hEnv hCode c.pos [topFrame ⟨0, 0, 0, 0⟩])
noncomputable abbrev View1 := Flow × Nat × Life × Array GenState × Drawn × Nat × OsState × Code × Pos × List (Option Obj)
noncomputable def vw (as : List Nat) (r : RunR) : Option View1 := r.map fun x => (x.1, x.2.1.n, x.2.1.life, x.2.1.gens, x.2.1.drawn, x.2.1.toks, x.2.1.os, x.2.2.1, x.2.2.2, as.map x.2.1.tree.get)
noncomputable def vOf (w : World) (os : OsState) (c : Cut) : Option View1 := some (.next, c.n, {}, Array.mk [], boot_drawn, c.toks, os, hCode, c.pos, (hKn w.params c).map fun p => some p.2)
end
end
section
theorem hp0 : ∀ w f os, vw ((hKn w.params hc1).map (·.1)) (hRun w f os hc0 hc1 305) = vOf w os hc1 := fun w f os => by kernel_rfl
theorem hp1 : ∀ w f os, vw ((hKn w.params hc2).map (·.1)) (hRun w f os hc1 hc2 214) = vOf w os hc2 := fun w f os => by kernel_rfl
theorem hp2 : ∀ w f os, vw ((hKn w.params hc3).map (·.1)) (hRun w f os hc2 hc3 214) = vOf w os hc3 := fun w f os => by kernel_rfl
theorem hp3 : ∀ w f os, vw ((hKn w.params hc4).map (·.1)) (hRun w f os hc3 hc4 250) = vOf w os hc4 := fun w f os => by kernel_rfl
theorem hp4 : ∀ w f os, vw ((hKn w.params hc5).map (·.1)) (hRun w f os hc4 hc5 267) = vOf w os hc5 := fun w f os => by kernel_rfl
theorem hp5 : ∀ w f os, vw ((hKn w.params hc6).map (·.1)) (hRun w f os hc5 hc6 256) = vOf w os hc6 := fun w f os => by kernel_rfl
theorem hp6 : ∀ w f os, vw ((hKn w.params hc7).map (·.1)) (hRun w f os hc6 hc7 366) = vOf w os hc7 := fun w f os => by kernel_rfl
theorem hp7 : ∀ w f os, vw ((hKn w.params hc8).map (·.1)) (hRun w f os hc7 hc8 273) = vOf w os hc8 := fun w f os => by kernel_rfl
theorem hp8 : ∀ w f os, vw ((hKn w.params hc9).map (·.1)) (hRun w f os hc8 hc9 176) = vOf w os hc9 := fun w => byRow2 "special-get-raises" (P := fun w => ∀ f os, vw ((hKn w.params hc9).map (·.1)) (hRun w f os hc8 hc9 176) = vOf w os hc9) (fun w f os => by kernel_rfl) (fun w f os => by kernel_rfl) w
theorem hp9 : ∀ w f os, vw ((hKn w.params hc10).map (·.1)) (hRun w f os hc9 hc10 255) = vOf w os hc10 := fun w f os => by kernel_rfl
theorem hp10 : ∀ w f os, vw ((hKn w.params hc11).map (·.1)) (hRun w f os hc10 hc11 131) = vOf w os hc11 := fun w => byRow2 "special-get-raises" (P := fun w => ∀ f os, vw ((hKn w.params hc11).map (·.1)) (hRun w f os hc10 hc11 131) = vOf w os hc11) (fun w f os => by kernel_rfl) (fun w f os => by kernel_rfl) w
theorem hp11 : ∀ w f os, vw ((hKn w.params hc12).map (·.1)) (hRun w f os hc11 hc12 339) = vOf w os hc12 := fun w f os => by kernel_rfl
theorem hp12 : ∀ w f os, vw ((hKn w.params hc13).map (·.1)) (hRun w f os hc12 hc13 330) = vOf w os hc13 := fun w f os => by kernel_rfl
theorem hp13 : ∀ w f os, vw ((hKn w.params hc14).map (·.1)) (hRun w f os hc13 hc14 240) = vOf w os hc14 := fun w f os => by kernel_rfl
theorem hp14 : ∀ w f os, vw ((hKn w.params hc15).map (·.1)) (hRun w f os hc14 hc15 910) = vOf w os hc15 := fun w f os => by kernel_rfl
theorem hp15 : ∀ w f os, vw ((hKn w.params hc16).map (·.1)) (hRun w f os hc15 hc16 346) = vOf w os hc16 := fun w f os => by kernel_rfl
theorem hp16 : ∀ w f os, vw ((hKn w.params hc17).map (·.1)) (hRun w f os hc16 hc17 154) = vOf w os hc17 := fun w f os => by kernel_rfl
end
section
theorem sk_get (g : Nat → Obj) (n : Nat) : ∀ (k a b i : Nat), i + 1 < 2 ^ k → (sk g n k a b).get i = if a * i + b < n then some (g (a * i + b)) else none := by
  intro k
  induction k with
  | zero =>
    intro _ _ i h
    simp at h
  | succ k ih =>
    intro a b i h
    unfold sk
    cases hb : Nat.blt b n with
    | false =>
      have nb : ¬ b < n := fun q => by rw [show Nat.blt b n = true from Nat.ble_eq.mpr q] at hb; cases hb
      show BT.nil.get i = _
      rw [if_neg (by have := Nat.zero_le (a * i); omega)]
      simp [BT.get]
    | true =>
      have hb : b < n := Nat.le_of_ble_eq_true hb
      show (BT.node _ _ _).get i = _
      rw [BT.get_node]
      by_cases h0 : i = 0
      · subst h0; rw [if_pos rfl, Nat.mul_zero, Nat.zero_add, if_pos hb]
      · rw [if_neg h0]
        have hp : 2 ^ (k + 1) = 2 * 2 ^ k := by rw [Nat.pow_succ, Nat.mul_comm]
        by_cases p : i % 2 = 1
        · rw [if_pos p, ih _ _ _ (by omega), X.KT.arith1 p (s := a) (b := b)]
        · rw [if_neg p, ih _ _ _ (by omega), X.KT.arith2 h0 p (s := a) (b := b)]
structure Knows (w : World) (s : Shared) (c : Cut) : Prop where
  size : s.heap.objs.size = c.n
  life : s.heap.life = {}
  gens : s.gens = Array.mk []
  drawn : s.drawn = boot_drawn
  toks : s.toks = c.toks
  kn : ∀ p ∈ hKn w.params c, s.heap.objs[p.1]? = some p.2
noncomputable def seenF (s : Shared) (i : Nat) : Obj := (s.heap.objs[i]?).getD default
theorem leaf_of {s : Shared} : ∀ {kn : List (Nat × Obj)}, (∀ p ∈ kn, s.heap.objs[p.1]? = some p.2) → ∀ i, leafOf (seenF s) kn i = seenF s i
  | [], _, _ => rfl
  | p :: l, h, i => by
    unfold leafOf
    rw [BT.beq_eq]
    by_cases q : p.1 = i
    · rw [decide_eq_true q]
      show p.2 = _
      unfold seenF
      rw [← q, h p (.head _)]; rfl
    · rw [decide_eq_false q]
      exact leaf_of (fun p hp => h p (.tail _ hp)) i
theorem Knows.abs {w : World} {s : Shared} {c : Cut} (K : Knows w s c) (hn : c.n ≤ 2000) : s = (stT w c (seenF s) s.os).abs := by
  have ho : s.heap.objs = (absHeap (sk (leafOf (seenF s) (hKn w.params c)) c.n 11 1 0) c.n {}).objs := by
    apply Array.ext_getElem?
    intro i
    rw [absHeap_at]
    by_cases h : i < c.n
    · rw [if_pos h, sk_get _ _ _ _ _ _ (by omega), Nat.one_mul, Nat.add_zero, if_pos h, Option.getD_some, leaf_of K.kn]
      unfold seenF
      rw [Array.getElem?_eq_getElem (by rw [K.size]; exact h)]; rfl
    · rw [if_neg h, Array.getElem?_eq_none (by rw [K.size]; omega)]
  obtain ⟨k1, k2, k3, k4, k5, k6⟩ := K
  obtain ⟨⟨objs, life⟩, gens, drawn, toks, os⟩ := s
  unfold SharedT.abs stT
  simp only at ho k2 k3 k4 k5
  subst k2 k3 k4 k5
  dsimp only
  have hh : (⟨objs, {}⟩ : Heap) = absHeap (sk (leafOf (seenF ⟨⟨objs, {}⟩, Array.mk [], boot_drawn, c.toks, os⟩) (hKn w.params c)) c.n 11 1 0) c.n {} := congrArg (fun a => Heap.mk a {}) ho
  exact congrArg (fun h => Shared.mk h (Array.mk []) boot_drawn c.toks os) hh
noncomputable abbrev hB : List Frame := [topFrame ⟨0, 0, 0, 0⟩]
theorem te_run : @segRunT = @PySem.W.Fast.tw10110043849684766642 := PySem.W.Fast.te10110043849684766642
theorem te_tab : treeTable = PySem.W.Fast.tw14364793385576792824 := PySem.W.Fast.te14364793385576792824
theorem Knows.next {w : World} {s : Shared} {c c' : Cut} {N : Nat} (K : Knows w s c) (hn : c.n ≤ 2000) (hp : ∀ w f os, vw ((hKn w.params c').map (·.1)) (hRun w f os c c' N) = vOf w os c') (hlt : ∀ p ∈ hKn w.params c', p.1 < c'.n) :
    ∃ s', segRun treeTable pw w 11 (some (.ref 6)) 1 N s (piecesOf ((hBody.drop c.i).take (c'.i - c.i)) hEnv hCode c.pos hB) = some (.next, s', hCode, c'.pos) ∧ Knows w s' c' ∧ s'.os = s.os := by
  have h := hp w (seenF s) s.os
  unfold vw vOf at h
  obtain ⟨⟨fl, sT, cd, ps⟩, hr, e⟩ := Option.map_eq_some_iff.mp h
  simp only [Prod.mk.injEq] at e
  obtain ⟨rfl, e1, e2, e3, e4, e5, e6, rfl, rfl, e7⟩ := e
  unfold hRun at hr
  rw [← te_run, ← te_tab] at hr
  have hs := segRun_of hr
  rw [← K.abs hn] at hs
  refine ⟨sT.abs, hs, ⟨?_, e2, e3, e4, e5, fun p hm => ?_⟩, e6⟩
  · show (absHeap sT.tree sT.n sT.life).objs.size = _
    rw [absHeap_size, e1]
  · show (absHeap sT.tree sT.n sT.life).objs[p.1]? = _
    rw [absHeap_at, e1, if_pos (hlt p hm)]
    have : ∀ {l : List (Nat × Obj)}, (l.map (·.1)).map sT.tree.get = l.map (fun p => some p.2) → ∀ p ∈ l, sT.tree.get p.1 = some p.2 := by
      intro l
      induction l with
      | nil => intro _ p hp; cases hp
      | cons q l ih =>
        intro e p hp
        rw [List.map_cons, List.map_cons, List.map_cons] at e
        injection e with e1 e2
        rcases List.mem_cons.mp hp with rfl | hp
        · exact e1
        · exact ih e2 p hp
    rw [this e7 p hm]; rfl
theorem kn_lt {P : Params} {c : Cut} (h : 15 ≤ c.n) : ∀ p ∈ hKn P c, p.1 < c.n := fun p hp => by
  unfold hKn at hp
  simp only [List.mem_cons] at hp
  rcases hp with rfl | rfl | rfl | rfl | rfl | rfl | rfl | rfl | rfl | rfl | hp
  all_goals first
    | (show _ < c.n; dsimp only; omega)
    | exact Nat.le_of_ble_eq_true (List.mem_filter.mp hp).2
noncomputable def Goes (w : World) (c : Cut) (M : Nat) : Prop := ∀ s, Knows w s c → ∃ r, topRun treeTable pw w 11 (some (.ref 6)) M s (restOf (hBody.drop c.i) hEnv hCode c.pos hB) = some r ∧ Knows w r hc17 ∧ r.os = s.os
theorem Goes.step {w : World} {c c' : Cut} {N M : Nat} (hp : ∀ w f os, vw ((hKn w.params c').map (·.1)) (hRun w f os c c' N) = vOf w os c') (G : Goes w c' M) (h1 : c.n ≤ 2000) (h2 : 15 ≤ c'.n) (h3 : c.i ≤ c'.i) : Goes w c (N + M) := fun s K => by
  obtain ⟨s', e, K', os⟩ := K.next h1 hp (kn_lt h2)
  obtain ⟨r, hr, Kr, osr⟩ := G s' K'
  refine ⟨r, ?_, Kr, osr.trans os⟩
  have hd : hBody.drop c.i = (hBody.drop c.i).take (c'.i - c.i) ++ hBody.drop c'.i := by
    rw [show hBody.drop c'.i = (hBody.drop c.i).drop (c'.i - c.i) from by rw [List.drop_drop]; congr 1; omega, List.take_append_drop]
  rw [hd]
  exact piece_app e hr
theorem goes_end (w : World) : Goes w hc17 2 := fun s K => ⟨s, by
  rw [show hBody.drop hc17.i = [] from by kernel_rfl]
  refine piece_nil ?_
  rfl, K, rfl⟩
theorem goes_all (w : World) : Goes w hc0 (305 + (214 + (214 + (250 + (267 + (256 + (366 + (273 + (176 + (255 + (131 + (339 + (330 + (240 + (910 + (346 + (154 + (2)))))))))))))))))) := by
  refine Goes.step hp0 ?_ (by decide) (by decide) (by decide)
  refine Goes.step hp1 ?_ (by decide) (by decide) (by decide)
  refine Goes.step hp2 ?_ (by decide) (by decide) (by decide)
  refine Goes.step hp3 ?_ (by decide) (by decide) (by decide)
  refine Goes.step hp4 ?_ (by decide) (by decide) (by decide)
  refine Goes.step hp5 ?_ (by decide) (by decide) (by decide)
  refine Goes.step hp6 ?_ (by decide) (by decide) (by decide)
  refine Goes.step hp7 ?_ (by decide) (by decide) (by decide)
  refine Goes.step hp8 ?_ (by decide) (by decide) (by decide)
  refine Goes.step hp9 ?_ (by decide) (by decide) (by decide)
  refine Goes.step hp10 ?_ (by decide) (by decide) (by decide)
  refine Goes.step hp11 ?_ (by decide) (by decide) (by decide)
  refine Goes.step hp12 ?_ (by decide) (by decide) (by decide)
  refine Goes.step hp13 ?_ (by decide) (by decide) (by decide)
  refine Goes.step hp14 ?_ (by decide) (by decide) (by decide)
  refine Goes.step hp15 ?_ (by decide) (by decide) (by decide)
  refine Goes.step hp16 ?_ (by decide) (by decide) (by decide)
  exact goes_end w
end
section
noncomputable section
noncomputable def kAs : List Addr := [0, 3, 46, 47, 83, 84, 140, 141, 187, 188, 213, 214, 630, 631, 660, 661, 219, 269, 37, 36, 30, 29, 131, 130, 138, 137, 159, 158, 166, 165, 206, 205, 211, 210, 261, 260, 268, 267, 283, 282, 302, 301, 309, 308, 316, 315, 323, 322, 330, 329, 337, 336, 344, 343, 351, 350, 358, 357, 365, 364, 372, 371, 379, 378, 386, 385, 393, 392, 408, 407, 401, 422, 421, 429, 428, 436, 435, 443, 442, 450, 449, 457, 456, 462, 461, 477, 476, 470, 485, 484, 478, 492, 491, 499, 498, 506, 505, 514, 513, 507, 521, 520, 528, 527, 535, 534, 542, 541, 557, 556, 550, 564, 563, 579, 578, 572, 586, 585, 593, 592, 600, 599, 607, 606, 614, 613, 628, 627, 651, 650, 644, 643, 672, 671, 679, 678, 686, 685, 693, 692, 698, 697, 705, 704, 710, 709]
noncomputable def hq : Program := { pw with main := { pw.main with body := (hBody.drop 72).take 1 } }
noncomputable def hLoose : List Str := pw.boundNames.filter fun x => !(x == Str.ofString "law")
noncomputable def hObs (s : Shared) : List (Option Obj) × Nat × Option (DictEntry) := (kAs.map s.heap.get?, s.heap.objs.size, none)
noncomputable def hVal (w : World) : List (Option Obj) × Nat × Option (DictEntry) := ((K0 w.params).map fun p => some p.2, 711, none)
noncomputable def hS (w : World) (os : OsState) : Shared := ⟨⟨Array.mk [boot_o_0 w.params, boot_o_1 w.params, boot_o_2 w.params, boot_o_3 w.params, boot_o_4 w.params, boot_o_5 w.params, boot_o_6 w.params, boot_o_7 w.params, boot_o_8 w.params, boot_o_9 w.params, boot_o_10 w.params, ⟨.type "tuple", none, .seq (Array.mk []) 0, Array.mk []⟩, o12 hc0, o_13, o_14], {}⟩, Array.mk [], boot_drawn, 187, os⟩
end
theorem hpre : ∀ w os, PySem.W.Fast.tw15667345088766844465 PySem.W.Fast.tw14364793385576792824 pw w 11 (some (.ref 6)) 12 ⟨boot_heap w.params, Array.mk [], boot_drawn, boot_toks, os⟩ (topStub pw) =
    some (hS w os, ⟨PySem.W.Fast.tw11892475500146522536 PySem.W.Fast.tw14364793385576792824 hCode, hCode, ⟨0, 0, 0, 0⟩, hB⟩) := fun w os => by kernel_rfl
theorem te_go : @topGo = @PySem.W.Fast.tw15667345088766844465 := PySem.W.Fast.te15667345088766844465
theorem te_den : @denote = @PySem.W.Fast.tw11892475500146522536 := PySem.W.Fast.te11892475500146522536
theorem hblock : ∀ w os, PySem.W.Fast.tw14374325043358763698 PySem.W.Fast.tw14364793385576792824 pw w 11 (some (.ref 6)) 1 1 (hS w os) (blockOf hBody hEnv hCode ⟨0, 0, 0, 0⟩ hB) = some (.next, hS w os, hCode, ⟨0, 0, 0, 0⟩) := fun w os => by kernel_rfl
theorem te_srun : @segRun = @PySem.W.Fast.tw14374325043358763698 := PySem.W.Fast.te14374325043358763698
theorem hstart (w : World) (os : OsState) : Knows w (hS w os) hc0 := ⟨rfl, rfl, rfl, rfl, rfl, by
  have : (hKn w.params hc0).map (fun p => (hS w os).heap.objs[p.1]?) = (hKn w.params hc0).map fun p => some p.2 := by kernel_rfl
  generalize hKn w.params hc0 = l at this
  induction l with
  | nil => intro p hp; cases hp
  | cons q l ih =>
    intro p hp
    rw [List.map_cons, List.map_cons] at this
    injection this with e1 e2
    rcases List.mem_cons.mp hp with rfl | hp
    · exact e1
    · exact ih e2 p hp⟩
theorem htop (w : World) (os : OsState) : ∃ M ≤ 10000, ∃ r, topRun treeTable pw w 11 (some (.ref 6)) M ⟨boot_heap w.params, Array.mk [], boot_drawn, boot_toks, os⟩ (topStub pw) = some r ∧ Knows w r hc17 ∧ r.os = os := by
  obtain ⟨r, hr, K, e⟩ := goes_all w (hS w os) (hstart w os)
  refine ⟨_, ?_, r, go_top (n := 12) (s' := hS w os) (t' := ⟨denote treeTable hCode, hCode, ⟨0, 0, 0, 0⟩, hB⟩) ?_ (piece_block (n := 1) (s' := hS w os) (p' := ⟨0, 0, 0, 0⟩) ?_ hr), K, e⟩
  · decide
  · rw [te_go, te_den, te_tab]; exact hpre w os
  · rw [te_srun, te_tab]; exact hblock w os
theorem hl0 : ∀ w f os, (staticsOk (importedModules pw.main.body) (boot_heap w.params) (stT w hc17 f os).abs.heap && namesBound pw (stT w hc17 f os).abs.heap && gensDone (stT w hc17 f os).abs && laidKept (boot_heap w.params) (stT w hc17 f os).abs.heap) = true := fun w f os => by kernel_rfl
theorem hl5 : ∀ w f os, hObs (stT w hc17 f os).abs = hVal w := fun w f os => by kernel_rfl
theorem te_seen : @openSeen = @PySem.W.Fast.tw4187177175401517315 := PySem.W.Fast.te4187177175401517315
theorem hl6 : ∀ w f os, PySem.W.Fast.tw4187177175401517315 hq hLoose (importedModules pw.main.body) (fun _ => true) true (stT w hc17 f os).abs = openGood hq hLoose := fun w f os => by kernel_rfl
theorem left_ok : LeftO pw hq hLoose (fun _ => true) hObs hVal 10000 := fun w => by
  have hb := boot_open (p := pw) (N := 10000) (by kernel_rfl) (by decide) (fun s => by kernel_rfl) w
  obtain ⟨⟨h, gs, d, k, os⟩, e, e'⟩ := Option.map_eq_some_iff.mp hb
  obtain ⟨rfl, rfl, rfl, rfl⟩ : h = boot_heap w.params ∧ gs = Array.mk [] ∧ d = boot_drawn ∧ k = boot_toks := by simpa using e'
  obtain ⟨M, hM, r, hr, K, ho⟩ := htop w os
  have hr := topRun_mono (10000 - M) _ _ _ _ hr
  rw [show M + (10000 - M) = 10000 by omega] at hr
  have z : ((boot_heap w.params).isNs mainGlobals && (Array.mk ([] : List GenState)).size == 0) = true := by kernel_rfl
  have z2 : (boot_heap w.params).objs.size = 11 := by kernel_rfl
  have z3 : (boot_heap w.params).nsMap mainGlobals "__annotations__" = some (.ref 6) := by kernel_rfl
  have Ka := K.abs (by decide)
  have l0 := hl0 w (seenF r) r.os
  have l5 := hl5 w (seenF r) r.os
  have l6 := hl6 w (seenF r) r.os
  rw [← te_seen] at l6
  rw [← Ka] at l0 l5 l6
  have t : topFrom treeTable pw w 10000 ⟨boot_heap w.params, Array.mk [], boot_drawn, boot_toks, os⟩ = some r := by
    unfold topFrom
    dsimp only
    rw [z, z2, z3, hr]
    show (match staticsOk (importedModules pw.main.body) (boot_heap w.params) r.heap && namesBound pw r.heap && gensDone r && laidKept (boot_heap w.params) r.heap with | true => _ | false => _) = _
    rw [l0]
  unfold openEnds
  rw [e, Option.bind_some, t, Option.map_some]
  exact congrArg some (Prod.ext l6 l5)
end
section
noncomputable abbrev excMro : List Value := [.type "Exception", .type "BaseException", .type "object"]
noncomputable abbrev exFields (t : Addr) : Array Value := #[.ref t, .none, .none, .none, .bool false, .none]
section
variable {prog : Program} {w : World} {A : Around} {R : Result → Shared → Prop} {h : Heap} {g : Array GenState} {d : Drawn} {t : Nat} {os : OsState}
variable {nm q : Str} {C B N : Addr} {bs : List Value} {hdct : Bool} {sn : List Str} {sub : List Value} {col : Option Bool} {dd : Option Addr} {k0 k1 k2 k3 k5 : Option Value}
theorem exc_check_new {M : Model} {E : Value → Shared → Prop} {rest : List Value} {Q : Unit → Shared → Prop} (hC : h.get? C = some (excClassObj nm q C N bs (.ref B :: excMro) hdct sn sub false col dd k0 k1 k2 k3 k5 "Exception.__new__"))
    (hq : Q () ⟨h, g, d, t, os⟩) : wpAny M A (checkBuiltinCall "Exception.__new__" ⟨.ref C :: rest, []⟩) Q E ⟨h, g, d, t, os⟩ := by
  have F := PySem.F.excBase_Exception
  have hcont : (Value.ref C :: .ref B :: excMro).contains (.type "Exception") = true := by simp
  have hstar := F.noStar
  simp only [checkBuiltinCall, F.newKind, F.newSplit, F.newRow]
  repeat (first | refine wpAny_loadPart_at hC ?_ | (refine wpAny_isSubtype_exc hC ?_; rw [hcont]) | refine wpAny_staticBase_exc hC ?_ | refine wpAny_madeBy_exc hC ?_ | simp only [bne_self_eq_false, Bool.false_eq_true, if_false] | wp_step)
  exact hq
theorem exc_new {rest : List Value} (hC : h.get? C = some (excClassObj nm q C N bs (.ref B :: excMro) hdct sn sub false col dd k0 k1 k2 k3 k5 "Exception.__new__"))
    (hq : R (.ok (.ret (.ref (h.objs.size + 1)))) ⟨(h.push { cls := .type "tuple", data := .seq rest.toArray }).push { cls := .ref C, data := .fields (exFields h.objs.size) }, g, d, t, os⟩) (hrest : rest.length ≤ sizeLine) :
    codeAny (model prog w) A (.builtin "Exception.__new__" ⟨.ref C :: rest, []⟩) R ⟨h, g, d, t, os⟩ := by
  have F := PySem.F.excBase_Exception
  have hends := F.ends
  have hcB : (Value.ref C :: .ref B :: excMro).contains (.type "Exception") = true := by simp
  have hcA : (Value.ref C :: .ref B :: excMro).contains (.type "AttributeError") = false := by simp
  have hcN : (Value.ref C :: .ref B :: excMro).contains (.type "NameError") = false := by simp
  refine codeAny_builtinAt F.entry ?_
  unfold Builtin.«BaseException.__new__»
  refine PySem.wpAt_bind ?_
  show PySem.wpAt _ _ _ (stack >>= _) _ _ _
  refine PySem.wpAt_bind (PySem.wpAt_stack fun p below => PySem.wpAt_of_wpAny ?_)
  wp_walk
  refine PySem.wpAt_of_wpAny ?_
  rw [F.owner]
  repeat (first | with_reducible refine wpAny_madeHere_exc F.canon hC ?_ | with_reducible refine wpAny_loadPart_at hC ?_ | (with_reducible refine wpAny_isSubtype_exc hC ?_; first | rw [hcB] | rw [hcA] | rw [hcN]) | wp_step)
  show R _ _
  rw [Heap.size_push]
  exact hq
theorem make_exc {rest : List Value} {fI : Addr} (hC : h.get? C = some (excClassObj nm q C N bs (.ref B :: excMro) hdct sn sub false col dd k0 k1 k2 k3 k5 "Exception.__new__"))
    (hi : Looks (model prog w) h (typeLookup (.ref C) "__init__") (some (.ref fI))) (hb : ∀ self, Looks (model prog w) h (bindSpecial (.ref fI) self) (.ref fI, [self])) (hrest : rest.length ≤ sizeLine)
    (hq : codeAny (model prog w) (A.under (.builtin "type.__call__" ⟨.ref C :: rest, []⟩)) (.call (.ref fI) ⟨.ref (h.objs.size + 1) :: rest, []⟩) (InitBack (h.objs.size + 1) R)
      ⟨(h.push { cls := .type "tuple", data := .seq rest.toArray }).push { cls := .ref C, data := .fields (exFields h.objs.size) }, g, d, t, os⟩) :
    codeAny (model prog w) A (.call (.ref C) ⟨rest, []⟩) R ⟨h, g, d, t, os⟩ := by
  have F := PySem.F.excBase_Exception
  have f1 := tc_lookup
  have f2 := tc_bind (.ref C)
  have hT : (⟨h, g, d, t, os⟩ : Shared).TypeIs (.ref C) "type" := ⟨_, hC, rfl⟩
  refine codeAny_of_tree ?_
  show wpAny _ _ (callAny (.ref C) _) _ _ _
  repeat (any_goals (first | assumption | with_reducible refine wpAny_loadPart_at hC ?_ | wp_step))
  refine ⟨rfl, ?_⟩
  refine codeAny_call_builtin_at (Code.quiet_builtin _ (by decide +kernel)) entry_typeCall (wpAny_check_type_call_sub hC ?_)
  repeat (first | with_reducible refine wpAny_loadPart_at hC ?_ | with_reducible refine wpAny_madeBy_exc hC ?_ | wp_step)
  refine codeAny_call_builtin_code (Code.quiet_builtin _ F.quiet) (exc_check_new hC ?_)
  refine exc_new hC ?_ hrest
  show wpAny _ _ _ _ _ _
  have up : ∀ b o, h.get? b = some o → ((h.push { cls := .type "tuple", data := .seq rest.toArray }).push { cls := .ref C, data := .fields (exFields h.objs.size) }).get? b = some o := fun b o e => Heap.get?_push_of_some _ (Heap.get?_push_of_some _ e)
  have hC₁ := up _ _ hC
  have hget : ((h.push { cls := .type "tuple", data := .seq rest.toArray }).push { cls := .ref C, data := .fields (exFields h.objs.size) }).get? (h.objs.size + 1) = some { cls := .ref C, data := .fields (exFields h.objs.size) } := by heap_get
  have hcC : (Value.ref C :: .ref B :: excMro).contains (.ref C) = true := by simp
  have i1 := hi.keeps up
  have b1 := (hb (.ref (h.objs.size + 1))).keeps up
  have t1 : Looks (model prog w) ((h.push { cls := .type "tuple", data := .seq rest.toArray }).push { cls := .ref C, data := .fields (exFields h.objs.size) }) (typeOf (.ref (h.objs.size + 1))) (.ref C) := (Looks.ld hget).andThen .now
  have s1 : Looks (model prog w) ((h.push { cls := .type "tuple", data := .seq rest.toArray }).push { cls := .ref C, data := .fields (exFields h.objs.size) }) (isSubtype (.ref C) (.ref C)) true := fun A Q E s k q => by
    obtain ⟨hh, g, d, t, os⟩ := s
    refine wpAny_isSubtype_exc (k _ _ hC₁) ?_
    rw [hcC]; exact q
  show wpAny _ _ _ _ _ ⟨(h.push { cls := .type "tuple", data := .seq rest.toArray }).push { cls := .ref C, data := .fields (exFields h.objs.size) }, g, d, t, os⟩
  unfold isInstance callSpecial? specialOf
  repeat (first | with_reducible refine wpAny_call ?_ | lk)
  refine codeAny_mono hq fun r s' z => ?_
  rcases r with e | (v | _ | _ | _) <;> first | exact z | exact z.elim | skip
  obtain ⟨rfl, z⟩ := z
  exact wpAny_pure (wpAny_pure z)
end
section
open PySem.Builtin PySem.Builtin.ObjectAttr
variable {prog : Program} {w : World} {A : Around} {K : Frag} {C x : Addr} {s : Shared} {R : Result → Shared → Prop} {name : Str} {v : Value} {cd : ClassData} {ox : Obj} {od : Option Obj}
theorem osa_exc {tk : Tok} (X : K.In s.heap) (I : InstAt s.heap x ox C od) (hc : clsIn K C = some cd) (ne : cd.mro.isEmpty = false) (hp : ∀ self, refuseLoop self "__setattr__" cd.mro = pure ()) (ho : cd.mro.contains (.type "object") = true) (ht : takerIn K C name = some none)
    (h : ∀ b, wpAny (model prog w) A.in1 (storeInOwnDict (.ref x) (.ref C) (.str name tk) name v b)
      (fun fin s' => match fin with | .done f => R (.ok f) s' | .again c' => c'.quiet = true ∧ codeAny (model prog w) A c' R s') (fun e s' => R (.error e) s') s) :
    codeAny (model prog w) A (.call (.builtin "object.__setattr__") ⟨[.ref x, .str name tk, v], []⟩) R s := by
  have SF := PySem.F.store_object
  have sub : Looks (model prog w) s.heap (isInstance (.ref x) (.type "object")) true := I.type.andThen (looks_mroIn X (by unfold mroIn; rw [hc, Option.bind_some, if_neg (by rw [ne]; decide), ho]))
  refine codeAny_call_builtin SF.slot.plain SF.entry (@check_slot (model prog w) _ _ s "object.__setattr__" "object" "__setattr__" (.ref x) [.str name tk, v] [] _ SF.kind SF.split sub (SF.args (.ref x) (.str name tk) v) ?_)
  obtain ⟨attr, ha, hr⟩ := Option.bind_eq_some_iff.mp ht
  have hm : Looks (model prog w) s.heap (mroOf (.ref C)) cd.mro := (looks_clsIn X hc).andThen .now
  have L3 : Looks (model prog w) s.heap (storeTaker? attr) none := by
    cases attr with
    | none => cases hr; exact .now
    | some a =>
      obtain ⟨b, hb, hr⟩ := Option.map_eq_some_iff.mp hr
      refine (looks_takesIn X hb).andThen ?_
      cases b with
      | true => cases hr
      | false => exact .now
  rw [osa_eq, refuse_eq]
  refine wpAny_bind (wpAny_bind (I.type.here (wpAny_bind (hm.here ?_))))
  rw [hp]
  refine wpAny_pure (wpAny_bind (I.type.here (wpAny_bind ((looks_findIn X ha).here (wpAny_bind (L3.here ?_))))))
  exact h _
theorem set_exc0 {E : Value → Shared → Prop} {Q : Unit → Shared → Prop} (X : K.In s.heap) (hx : s.heap.get? x = some ox) (hcl : ox.cls = .ref C) (hd : ox.dict = none) (hn : notCls ox = true) (hc : clsIn K C = some cd) (ne : cd.mro.isEmpty = false) (hdct : cd.hasDict = true)
    (hp : ∀ self, refuseLoop self "__setattr__" cd.mro = pure ()) (ho : cd.mro.contains (.type "object") = true) (ht : takerIn K C name = some none) (hs : findIn K (.ref C) "__setattr__" = some (some (.builtin "object.__setattr__")))
    (h : ∀ h' tk, h'.Ns1 s.heap.objs.size (fun y => if y = name then some v else none) → h'.get? x = some { ox with dict := some s.heap.objs.size } → s.heap.objs.size < h'.objs.size → (∀ b o, b ≠ x → s.heap.get? b = some o → h'.get? b = some o) → Q () { s with heap := h', toks := tk }) :
    wpAny (model prog w) A (setAttr (.ref x) name v) Q E s := by
  have I : InstAt s.heap x ox C none := ⟨hx, hcl, hn, by rw [hd]; trivial⟩
  refine set_plain X I hs (osa_exc (s := { s with toks := s.toks + 1 }) X I hc ne hp ho ht fun b => ?_)
  obtain ⟨oc, odi, oda, osl⟩ := ox
  dsimp only at hcl hd
  subst hcl hd
  obtain ⟨hh, gs, dr, tk, os⟩ := s
  dsimp only at hx X I h ⊢
  refine wpAny_bind (wpAny_pure (wpAny_bind (wpAny_bind (wpAny_loadPart hx (wpAny_bind ((looks_clsIn X hc) _ _ _ _ (fun _ _ e => e) ?_))))))
  rw [hdct]
  dsimp only
  rw [if_neg (by simp), if_neg (by simp [typeHasDict])]
  have hxs : x ≠ hh.objs.size := Nat.ne_of_lt (Heap.lt_size hx)
  have hx₁ : (hh.push { cls := .type "dict", data := .dict #[] }).get? x = some ⟨.ref C, none, oda, osl⟩ := Heap.get?_push_of_some _ hx
  have hfr := (Heap.get?_some_iff.mp hx).2
  have gx : ((hh.push { cls := .type "dict", data := .dict #[] }).update x fun o => { o with dict := some hh.objs.size }).get? x = some ⟨.ref C, some hh.objs.size, oda, osl⟩ :=
    Heap.get?_update_self _ hx₁ (by cases oda <;> first | rfl | exact hfr)
  have gD : ((hh.push { cls := .type "dict", data := .dict #[] }).update x fun o => { o with dict := some hh.objs.size }).get? hh.objs.size = some { cls := .type "dict", data := .dict #[] } :=
    (Heap.get?_update_ne _ _ _ _ hxs.symm).trans (Heap.get?_push_at rfl rfl)
  have gk : ∀ b o, b ≠ x → hh.get? b = some o → ((hh.push { cls := .type "dict", data := .dict #[] }).update x fun o => { o with dict := some hh.objs.size }).get? b = some o :=
    fun b o hb e => (Heap.get?_update_ne _ _ _ _ hb).trans (Heap.get?_push_of_some _ e)
  have tail : ∀ {A' : Around}, wpAny (model prog w) A' (storeInDict hh.objs.size (.str name tk) name v)
      (fun fin s' => match fin with
        | .done f => (match (Except.ok f : Result) with | .ok (.ret _) => Q () s' | .ok _ => False | .error e => E e s')
        | .again c' => c'.quiet = true ∧ codeAny (model prog w) A c' (fun r s' => match r with | .ok (.ret _) => Q () s' | .ok _ => False | .error e => E e s') s')
      (fun e s' => match (Except.error e : Result) with | .ok (.ret _) => Q () s' | .ok _ => False | .error e => E e s')
      ⟨(hh.push { cls := .type "dict", data := .dict #[] }).update x fun o => { o with dict := some hh.objs.size }, gs, dr, tk + 1, os⟩ := by
    intro A'
    have hnd : ((hh.push { cls := .type "dict", data := .dict #[] }).update x fun o => { o with dict := some hh.objs.size }).Ns hh.objs.size (fun _ => none) :=
      ⟨_, #[], _, gD, rfl, fun e he => absurd he (by simp), fun _ => rfl⟩
    unfold storeInDict newKeyGuard
    refine wpAny_bind (wpAny_pure (wpAny_bind (wpAny_nsSet1 (Heap.Ns1.of_empty hnd) fun h' hn' hs => ?_)))
    obtain ⟨oD, esD, epD, hoD, hdD, hcD⟩ := hn'.count (Within.cons name v Within.nil)
    refine wpAny_bind (wpAny_lookBehind hoD (by rw [hdD]; exact pastItsLine_dict (Nat.le_trans hcD (by rw [List.length_cons, List.length_nil, sizeLine_eq]; lia))) ?_)
    exact wpAny_pure (h h' _ hn' ((hs.2 x hxs).trans gx) (by rw [hs.1]; simp) fun b o hb e => (hs.2 b (Nat.ne_of_lt (Heap.lt_size e))).trans (gk b o hb e))
  cases oda with
  | cls c => cases hn
  | _ =>
    dsimp only
    refine wpAny_bind (wpAny_alloc' ?_)
    refine wpAny_bind (wpAny_update' hx₁ ?_)
    exact wpAny_pure tail
theorem set_exc1 {E : Value → Shared → Prop} {Q : Unit → Shared → Prop} {dx : Addr} {m : Str → Option Value} {ns : List Str} (X : K.In s.heap) (hx : s.heap.get? x = some ox) (hcl : ox.cls = .ref C) (hd : ox.dict = some dx) (hn : notCls ox = true) (hc : clsIn K C = some cd) (ne : cd.mro.isEmpty = false) (hdct : cd.hasDict = true)
    (hp : ∀ self, refuseLoop self "__setattr__" cd.mro = pure ()) (ho : cd.mro.contains (.type "object") = true) (ht : takerIn K C name = some none) (hs : findIn K (.ref C) "__setattr__" = some (some (.builtin "object.__setattr__")))
    (hns : s.heap.Ns1 dx m) (hw : Within m ns) (hl : ns.length ≤ 1000)
    (h : ∀ h' tk, h'.Ns1 dx (fun y => if y = name then some v else m y) → Heap.SameBut dx s.heap h' → Q () { s with heap := h', toks := tk }) :
    wpAny (model prog w) A (setAttr (.ref x) name v) Q E s := by
  obtain ⟨oD0, esD0, epD0, hoD0, rD0⟩ := id hns
  have I : InstAt s.heap x ox C (some oD0) := ⟨hx, hcl, hn, by rw [hd]; exact hoD0⟩
  refine set_plain X I hs (osa_exc (s := { s with toks := s.toks + 1 }) X I hc ne hp ho ht fun b => ?_)
  obtain ⟨oc, odi, oda, osl⟩ := ox
  dsimp only at hcl hd
  subst hcl hd
  obtain ⟨hh, gs, dr, tk, os⟩ := s
  dsimp only at hx X I h hns ⊢
  refine wpAny_bind (wpAny_pure (wpAny_bind (wpAny_bind (wpAny_loadPart hx (wpAny_bind ((looks_clsIn X hc) _ _ _ _ (fun _ _ e => e) ?_))))))
  rw [hdct]
  refine wpAny_pure (a := some dx) (wpAny_bind (m := newKeyGuard _ _ _) (wpAny_pure (wpAny_bind (wpAny_nsSet1 hns fun h' hn' hs => ?_))))
  obtain ⟨oD, esD, epD, hoD, hdD, hcD⟩ := hn'.count (Within.cons name v hw)
  refine wpAny_bind (wpAny_lookBehind hoD (by rw [hdD]; exact pastItsLine_dict (Nat.le_trans hcD (by rw [List.length_cons, sizeLine_eq]; lia))) ?_)
  exact wpAny_pure (h h' _ hn' hs)
end
end
section
section
variable {k : Nat} {c : FC} {loc : Loc} {P : Post} {Q : V → Store → Prop} {QB : Bool → Store → Prop} {X : Addr → Prop} {σ : Store}
theorem at84 (T : Top g) {σ : Store} {s : Shared} (I : Inv g σ s) : s.heap.get? 84 = some (o_84 g.w.params) := I.base _ _ (T.base rfl)
theorem c_exc (T : Top g) {vs : List V} (hl : vs.length ≤ 1000) (h : ∀ a, σ a = none → CF prog g k (.ref 37) (.ref a :: vs) (fun v σ' => v = .none ∧ Q (.ref a) σ') X (upd σ a (.exc 84 none))) : CF prog g (k + 1) (.ref 84) vs Q X σ := by
  intro A envs b s u us cx ru rs
  rw [VR] at ru
  subst ru
  have XK : (K0 g.w.params).In s.heap := by rw [← T.K]; exact T.inK cx.inv
  obtain ⟨hh, gs, dr, t, os⟩ := s
  refine make_exc (C := 84) (B := 47) (N := 83) (fI := 37) (at84 T cx.inv) (looks_findIn XK (by kernel_rfl)) (fun self => bind_fn XK self (by kernel_rfl)) (by rw [sizeLine_eq, rs.length]; lia) ?_
  have f1 := frz_push (o := { cls := .type "tuple", data := .seq us.toArray }) cx.inv
  have cx₁ := cx.step f1.1 f1.2
  have e1 : σ (hh.push { cls := .type "tuple", data := .seq us.toArray }).objs.size = none := f1.2.fresh (Nat.le_refl _)
  have m1 := mut_push (o := { cls := .ref 84, data := .fields (exFields hh.objs.size) }) (x := .exc 84 none) T.ok f1.2 (fun _ _ _ => by intro z; cases z) (fun _ => by intro z; cases z) fun st => ⟨exFields hh.objs.size, .ref hh.objs.size, Heap.get?_push_size _ rfl, rfl, rfl⟩
  have sz : (hh.push { cls := .type "tuple", data := .seq us.toArray }).objs.size = hh.objs.size + 1 := Heap.size_push ..
  dsimp only at m1
  rw [sz] at m1 e1
  have st := f1.1.trans m1.1
  have cx' : Cx g k (A.under (.builtin "type.__call__" ⟨.ref 84 :: us, []⟩)) envs b _ _ := ⟨cx.ok.under, m1.2, cx.outs.step st, cx.bs.step st m1.2, cx.apart, cx.ne⟩
  have cc := h (hh.objs.size + 1) e1 _ envs b _ (.ref 37) (.ref (hh.objs.size + 1) :: us) cx' (by rw [VR]) (by rw [VRs]; exact ⟨_, us, rfl, by rw [VR], rs.step st⟩)
  refine codeAny_mono cc fun r s' hx => ?_
  unfold InitBack
  cases r with
  | error e => exact hx.pre st
  | ok f =>
    cases f with
    | ret v =>
      obtain ⟨w, σ', st', I', r, rfl, hq⟩ := hx
      rw [VR] at r
      exact ⟨r, .ref (hh.objs.size + 1), σ', st.trans st', I', by rw [VR], hq⟩
    | _ => exact hx
theorem gm_exc (T : Top g) {PM : V → List V → Store → Prop} (h : PM (.bi "Exception.__init__") [] σ) : GM prog g k (.typ "Exception") (Str.ofString "__init__") PM X σ := by
  intro A envs b s u pl cx r
  rw [VR] at r
  subst r
  obtain ⟨L, m, F, fL⟩ := cx.fr
  have X₀ : (K0 g.w.params).In g.h₀ := by rw [← T.K]; exact T.ok.K
  obtain ⟨st, I'⟩ := cx.inv.toks (s' := { s with toks := s.toks + 1 }) rfl rfl rfl
  exact method_type (v := .builtin "Exception.__init__") F X₀ (by kernel_rfl) (by decide +kernel) (by kernel_rfl) (by decide +kernel) ⟨_, [], σ, st, I', by rw [VR], VRs0, h⟩
theorem c_excinit (T : Top g) {e : Addr} {d : Option Addr} {v : V} (hσ : σ e = some (.exc 84 d)) (h : Q .none σ) : CV prog g k (.bi "Exception.__init__") [.ref e, v] Q X σ := by
  intro A envs b s u us cx ru rs
  rw [VR] at ru
  subst ru
  obtain ⟨u1, us, rfl, r1, q1⟩ := rs.cons'
  obtain ⟨u2, us, rfl, r2, q2⟩ := q1.cons'
  obtain rfl := q2.nil'
  rw [VR] at r1
  subst r1
  obtain ⟨vs, a0, he, h0, h1⟩ := cx.inv.obj e _ hσ
  have F := PySem.F.excBase_Exception
  have hC := at84 T cx.inv
  have I := cx.inv
  obtain ⟨hh, gs, dr, tk, os⟩ := s
  dsimp only at he hC
  have hshort := F.noStar
  have hcB : (Value.ref 84 :: .ref 47 :: excMro).contains (.type "Exception") = true := by decide +kernel
  refine wpAny_call (codeAny_call_builtin F.init.plain F.initEntry ?_)
  simp only [checkBuiltinCall, F.initKind, F.initSplit, F.initRow]
  have hC' : hh.get? 84 = some (excClassObj (Str.ofString "GrammarFault") (Str.ofString "GrammarFault") 84 83 [.ref 47] (.ref 47 :: excMro) true [] [] false none none (some (.ref 75)) none (some (.str (Str.ofString "GrammarFault") 268)) (some (.str (Str.ofString "GrammarFault") 276)) (some (.bool true)) "Exception.__new__") := hC
  repeat (first | with_reducible refine wpAny_loadPart_at he ?_ | with_reducible refine wpAny_loadPart_at hC' ?_ | (with_reducible refine wpAny_isSubtype_exc hC' ?_; rw [hcB]) | wp_step)
  rw [h0]
  have hsz : 0 < vs.size := (Array.getElem?_eq_some_iff.mp h0).1
  have he₁ : (hh.push { cls := .type "tuple", data := .seq [u2].toArray }).get? e = some ⟨.ref 84, d, .fields vs, #[]⟩ := Heap.get?_push_of_some _ he
  have fin : PV g Q σ ⟨hh, gs, dr, tk, os⟩ .none ⟨(hh.push { cls := .type "tuple", data := .seq [u2].toArray }).update e (Obj.mapFields (·.setIfInBounds 0 (.ref hh.objs.size))), gs, dr, tk, os⟩ := by
    have up := Heap.get?_update_self (f := Obj.mapFields (·.setIfInBounds 0 (.ref hh.objs.size))) (h := hh.push { cls := .type "tuple", data := .seq [u2].toArray }) he₁ rfl
    have c := I.change (σ' := σ) (s' := ⟨(hh.push { cls := .type "tuple", data := .seq [u2].toArray }).update e (Obj.mapFields (·.setIfInBounds 0 (.ref hh.objs.size))), gs, dr, tk, os⟩) (fun x => x = e) none (by simp)
      (fun x o q n _ => (Heap.get?_update_ne _ _ _ _ n).trans (Heap.get?_push_of_some _ q)) (fun _ q => by cases q) (fun x q => .inl (by rw [q, hσ]; intro z; cases z)) (fun x q => I.low x (by rw [q, hσ]; intro z; cases z))
      (fun _ _ => rfl) (fun a C d' fs n q z => by subst z; obtain ⟨w, _⟩ := I.obj a _ q; rw [hσ] at w; cases w) rfl rfl (fun st a o q w => by
        subst q; rw [hσ] at w; cases w
        exact ⟨_, _, up, Array.getElem?_setIfInBounds_self_of_lt hsz, by rw [Array.getElem?_setIfInBounds_ne (by decide)]; exact h1⟩) (fun d' x n q => I.obj d' _ q)
    exact ⟨.none, σ, c.1, c.2, by rw [VR], h⟩
  refine wpAny_pure (wpAny_bind (wpAny_setField he₁ rfl hsz ?_))
  cases a0 <;> first | exact wpAny_pure (wpAny_pure fin) | exact wpAny_letGo (wpAny_pure fin)
end
end
section
noncomputable abbrev cd84 : ClassData := { name := (Str.ofString "GrammarFault"), bases := [.ref 47], mro := [.ref 84, .ref 47, .type "Exception", .type "BaseException", .type "object"], ns := 83, qualname := (Str.ofString "GrammarFault"), hasDict := true, slotNames := [], subclasses := [], abstract := false, collection := none, hasDel := false }
theorem cls84 (P : Params) : clsIn (K0 P) 84 = some cd84 := by rfl
theorem pass84 (self : Value) : refuseLoop self "__setattr__" cd84.mro = pure () := by
  show refuseLoop self "__setattr__" (.ref 84 :: .ref 47 :: excMro) = _
  rw [refuseLoop_ref, refuseLoop_ref]
  exact PySem.F.store_Exception.passes self
noncomputable def excAttr (x : String) : Prop := ∀ P, takerIn (K0 P) 84 (Str.ofString x) = some none
theorem ea_what : excAttr "what" := fun P => by kernel_rfl
theorem ea_at : excAttr "at" := fun P => by kernel_rfl
theorem set84 (P : Params) : findIn (K0 P) (.ref 84) "__setattr__" = some (some (.builtin "object.__setattr__")) := by kernel_rfl
section
variable {k : Nat} {c : FC} {loc : Loc} {P : Post} {Q : V → Store → Prop} {QB : Bool → Store → Prop} {X : Addr → Prop} {σ : Store}
theorem s_setattr_exc (T : Top g) {o e : Expr} {x : String} {pos' pos : Pos} (hx : excAttr x) (h : TE prog g k c loc e (fun v σ₁ => TE prog g k c loc o (fun w σ₂ => ∃ a, w = .ref a ∧
      ((σ₂ a = some (.exc 84 none) ∧ ∀ d, σ₂ d = none → P.nx loc (upd (upd σ₂ a (.exc 84 (some d))) d (.pend 1))) ∨ (∃ d n, σ₂ a = some (.exc 84 (some d)) ∧ σ₂ d = some (.pend n) ∧ n ≤ 900 ∧ P.nx loc (upd σ₂ d (.pend (n + 1)))))) X σ₁) X σ)
    (hs : ∀ env, swapsWith e (some (.Attribute o (Str.ofString x) pos')) pos.line env = pure false := by intro _; rfl) : TS prog g k c loc (.Assign [.Attribute o (Str.ofString x) pos'] e pos) P X σ := by
  intro A envs b s W cx F
  refine plainObj_wpAny_Assign_Attribute (wpE_then h cx F fun u v σ₁ s₁ st₁ cx₁ F₁ r₁ q => ?_) (hs _)
  refine wp_pre st₁ cx (wpE_then q cx₁ F₁ fun u₂ w σ₂ s₂ st₂ cx₂ F₂ r₂ q => ?_)
  obtain ⟨a, rfl, q⟩ := q
  rw [VR] at r₂
  subst r₂
  have I := cx₂.inv
  have XK : (K0 g.w.params).In s₂.heap := by rw [← T.K]; exact T.inK I
  have stA := st₁.trans st₂
  rcases q with ⟨hσ, q⟩ | ⟨d, n, hσ, hd, hn, q⟩
  · obtain ⟨vs, a0, he, h0, h1⟩ := I.obj a _ hσ
    refine set_exc0 XK he rfl rfl rfl (cls84 _) rfl rfl pass84 (by decide +kernel) (hx _) (set84 _) fun h' tk hD ha sz hk => ?_
    have fr : σ₂ s₂.heap.objs.size = none := I.fresh (Nat.le_refl _)
    have nad : a ≠ s₂.heap.objs.size := fun z => by rw [z, fr] at hσ; cases hσ
    have low := base_le T.ok I
    have c := I.change (σ' := upd (upd σ₂ a (.exc 84 (some s₂.heap.objs.size))) s₂.heap.objs.size (.pend 1)) (s' := { s₂ with heap := h', toks := tk }) (fun x => x = a ∨ x = s₂.heap.objs.size) none (Nat.le_of_lt sz)
      (fun x o e n _ => hk x o (fun z => n (.inl z)) e) (fun _ q => by cases q) (fun x q => by rcases q with rfl | rfl; exact .inl (by rw [hσ]; intro z; cases z); exact .inr (Nat.le_refl _))
      (fun x q => by rcases q with rfl | rfl; exact I.low _ (by rw [hσ]; intro z; cases z); exact low) (fun x n => by rw [upd_ne fun z => n (.inr z), upd_ne fun z => n (.inl z)])
      (fun b C d' fs n e q => by obtain ⟨w, _⟩ := I.obj b _ e; rcases q with rfl | rfl; rw [hσ] at w; cases w; rw [fr] at w; cases w) rfl rfl (fun st b o q e => by
        rcases q with rfl | rfl
        · rw [upd_ne nad, upd_self] at e; cases e
          exact ⟨vs, a0, ha, h0, h1⟩
        · rw [upd_self] at e; cases e
          exact ⟨_, _, hD, Within.cons _ _ Within.nil, Nat.le_refl _⟩) (fun d' y n e => by
        obtain ⟨C, fs, z⟩ := I.obj d' _ e
        exact ⟨C, fs, by rw [upd_ne (fun w => by rw [w, fr] at z; cases z), upd_ne (fun w => by rw [w, hσ] at z; cases z)]; exact z⟩)
    have st := stA.trans c.1
    exact ⟨_, loc, st.toF F.fr, c.2, F.step st, q _ fr⟩
  · obtain ⟨vs, a0, he, h0, h1⟩ := I.obj a _ hσ
    obtain ⟨m, ns, hns, hw, hl⟩ := I.obj d _ hd
    refine set_exc1 XK he rfl rfl rfl (cls84 _) rfl rfl pass84 (by decide +kernel) (hx _) (set84 _) hns hw (by lia) fun h' tk hD hs' => ?_
    have c := I.change (σ' := upd σ₂ d (.pend (n + 1))) (s' := { s₂ with heap := h', toks := tk }) (fun x => x = d) none (Nat.le_of_eq hs'.1.symm)
      (fun x o e n _ => (hs'.2 x n).trans e) (fun _ q => by cases q) (fun x q => .inl (by rw [q, hd]; intro z; cases z)) (fun x q => I.low x (by rw [q, hd]; intro z; cases z)) (fun x n => upd_ne n)
      (fun b C d' fs n e q => by obtain ⟨w, _⟩ := I.obj b _ e; subst q; rw [hd] at w; cases w) rfl rfl (fun st b o q e => by
        subst q; rw [upd_self] at e; cases e
        exact ⟨_, _, hD, Within.cons _ _ hw, by rw [List.length_cons]; lia⟩) (fun d' y n e => by
        obtain ⟨C, fs, z⟩ := I.obj d' _ e
        exact ⟨C, fs, by rw [upd_ne (fun w => by rw [w, hd] at z; cases z)]; exact z⟩)
    have st := stA.trans c.1
    exact ⟨_, loc, st.toF F.fr, c.2, F.step st, q⟩
theorem funframes {b : Heap} {σ : Store} {h : Heap} : ∀ {l : List Env}, Outs g b σ h l → h.FunFrames b l
  | [], _ => trivial
  | env :: r, o => by
    obtain ⟨k, L, m, f, n, hn, l, hb⟩ := o env (.head _)
    exact Heap.FunFrames.cons (by rw [k]; decide) f hn hb (funframes fun e he => o e (.tail _ he))
theorem px_raise {A : Around} {envs : List Env} {b : Heap} {s : Shared} {a C : Addr} {d : Option Addr} (cx : Cx g k A envs b σ s) (hσ : σ a = some (.exc C d)) (hX : X C) : PX g X b envs σ s (.ref a) s := by
  obtain ⟨vs, a0, he, h0, h1⟩ := cx.inv.obj a _ hσ
  refine ⟨a, C, rfl, hX, ⟨⟨cx.inv.base, fun _ n => absurd rfl n, fun _ _ e => (nomatch e), cx.inv.gens⟩, cx.bs.sub, fun _ _ _ _ h => h, funframes cx.outs, rfl, fun _ m _ h => ⟨m, h⟩⟩, cx.bs.mutb a (by rw [hσ]; intro z; cases z), a0, .inl ⟨_, vs, he, rfl, rfl, h0, h1⟩⟩
theorem s_raise (T : Top g) {e : Expr} {pos : Pos} (h : TE prog g k c loc e (fun v σ₁ => ∃ a d, v = .ref a ∧ σ₁ a = some (.exc 84 d) ∧ X 84) X σ) : TS prog g k c loc (.Raise (some e) none pos) P X σ := by
  intro A envs b s W cx F
  rw [arm_exec_Raise]
  refine wpAny_bind (wpAny_standAt ?_)
  unfold raiseStmt
  refine wpAny_bind (wpAny_bind (wpE_then h cx F fun u v σ₁ s₁ st cx₁ F₁ r q => wpAny_bind (wpAny_standAt (wpAny_pure ?_))))
  obtain ⟨a, d, rfl, hσ, hX⟩ := q
  rw [VR] at r
  subst r
  have px := (px_raise (X := X) cx₁ hσ hX).pre st
  obtain ⟨vs, a0, he, h0, h1⟩ := cx₁.inv.obj a _ hσ
  have hC := at84 T cx₁.inv
  obtain ⟨hh, gs, dr, tk, os⟩ := s₁
  dsimp only at he hC
  have hC' : hh.get? 84 = some (excClassObj (Str.ofString "GrammarFault") (Str.ofString "GrammarFault") 84 83 [.ref 47] (.ref 47 :: excMro) true [] [] false none none (some (.ref 75)) none (some (.str (Str.ofString "GrammarFault") 268)) (some (.str (Str.ofString "GrammarFault") 276)) (some (.bool true)) "Exception.__new__") := hC
  have hcB : (Value.ref 84 :: .ref 47 :: excMro).contains (.type "BaseException") = true := by decide +kernel
  repeat (first | with_reducible refine wpAny_loadPart_at he ?_ | with_reducible refine wpAny_loadPart_at hC' ?_ | (with_reducible refine wpAny_isSubtype_exc hC' ?_; rw [hcB]) | wp_step)
  rw [h1]
  refine wpAny_pure ?_
  rw [if_neg (by decide)]
  exact wpAny_pure (wpAny_raiseNew_none cx₁.ok.handled px)
end
end
section
open PySem PySem.W PyProof.Rows PySem.Calls PySem.SeqAt
theorem EqAt.of_rc {A : Around} {s : Shared} {p q : Array UInt8} {t u : Tok} {k : Bool} (h : RcAt A s (.bytes p t) (.bytes q u) k) (hk : Value.bytes p t = .bytes q u → k = true) : EqAt A s (.bytes p t) (.bytes q u) k := fun prog w E Q hq => by
  unfold eqBool
  refine wpAny_holding ?_
  refine wpAny_ite_split (fun hab => ?_) (fun _ => ?_)
  · obtain rfl := hk (eq_of_beq hab)
    exact wpAny_bind (wpAny_rule (wpAny_pure hq))
  · exact wpAny_bind (h prog w E _ (wpAny_truthy_bool hq))
mutual
noncomputable def V.deep : V → Nat
  | .tup vs => V.deeps vs + 1
  | .lst vs => V.deeps vs + 1
  | .none => 0
  | .bool _ => 0
  | .int _ => 0
  | .str _ => 0
  | .bytes _ => 0
  | .ref _ => 1000
  | .typ _ => 1000
  | .bi _ => 1000
  | .rng _ _ => 1000
noncomputable def V.deeps : List V → Nat
  | [] => 0
  | v :: vs => max v.deep (V.deeps vs)
end
theorem deeps_get : ∀ {vs : List V} {i : Nat} {v : V}, vs[i]? = some v → v.deep ≤ V.deeps vs
  | [], _, _, e => by simp at e
  | w :: vs, 0, v, e => by simp at e; subst e; rw [V.deeps]; exact Nat.le_max_left _ _
  | w :: vs, i + 1, v, e => by rw [V.deeps]; exact Nat.le_trans (deeps_get (by simpa using e)) (Nat.le_max_right _ _)
theorem all_true (n : Nat) : (List.range n).all (fun _ => true) = true := by simp
theorem in1_units (A : Around) : A.in1.units = A.units + 1 := rfl
theorem eq_el {σ : Store} {s : Shared} {n : Nat} {vs : List V} {its its' : Array Value} {A : Around} (ih : ∀ (v : V) (u u' : Value), v.deep ≤ n → VR σ s.heap v u → VR σ s.heap v u' → EqAt A s u u' true) (rs : VRs σ s.heap vs its.toList) (rs' : VRs σ s.heap vs its'.toList) (hd : V.deeps vs ≤ n) (j : Nat) (h1 : j < its.size) (h2 : j < its'.size) : EqAt A s its[j] its'[j] true := by
  have sz := rs.length
  rw [Array.length_toList] at sz
  have hj : vs[j]? = some vs[j] := List.getElem?_eq_getElem (sz ▸ h1)
  obtain ⟨w, e1, r1⟩ := VRs.get rs hj
  obtain ⟨w', e2, r2⟩ := VRs.get rs' hj
  rw [Array.getElem?_toList, Array.getElem?_eq_getElem h1] at e1
  rw [Array.getElem?_toList, Array.getElem?_eq_getElem h2] at e2
  obtain rfl := Option.some.inj e1
  obtain rfl := Option.some.inj e2
  exact ih _ _ _ (Nat.le_trans (deeps_get hj) hd) r1 r2
theorem eq_step {σ : Store} {s : Shared} {n : Nat} (ih : ∀ m, n = m + 1 → ∀ (A : Around) (v : V) (u u' : Value), v.deep ≤ m → A.units + m < cLine → VR σ s.heap v u → VR σ s.heap v u' → EqAt A s u u' true) (A : Around) (v : V) (u u' : Value) (hd : v.deep ≤ n) (hn : n ≤ 50) (hu : A.units + n < cLine) (r : VR σ s.heap v u) (r' : VR σ s.heap v u') : EqAt A s u u' true := by
  have no : ∀ {p : Prop}, 1000 ≤ n → p := fun h => absurd (Nat.le_trans h hn) (by decide)
  cases v with
  | none => rw [VR] at r r'; subst r r'; exact EqAt.same _
  | bool b => rw [VR] at r r'; subst r r'; exact EqAt.same _
  | int b =>
    obtain ⟨t, rfl⟩ := r.int'; obtain ⟨t', rfl⟩ := r'.int'
    have := EqAt.int_int (A := A) (s := s) b t b t'
    rwa [beq_self_eq_true] at this
  | str b =>
    obtain ⟨t, rfl⟩ := r.str'; obtain ⟨t', rfl⟩ := r'.str'
    have := EqAt.str_str (A := A) (s := s) b t b t'
    rwa [beq_self_eq_true] at this
  | bytes b =>
    rw [VR] at r r'
    obtain ⟨t, rfl⟩ := r; obtain ⟨t', rfl⟩ := r'
    refine EqAt.of_rc (fun prog w E Q hq => ?_) fun _ => rfl
    exact PySem.W.eq_bytes (b := b) (c := b) (by rw [beq_self_eq_true]; exact hq)
  | tup vs =>
    cases n with
    | zero => exact absurd hd (Nat.not_succ_le_zero _)
    | succ n =>
    rw [VR] at r r'
    obtain ⟨a, its, rfl, _, ht, rs⟩ := r
    obtain ⟨a', its', rfl, _, ht', rs'⟩ := r'
    by_cases q : a = a'
    · subst q; exact EqAt.same _
    have sz := rs.length.trans rs'.length.symm
    rw [Array.length_toList, Array.length_toList] at sz
    have := RcAt.tuples (A := A) (s := s) (e := fun _ => true) (show s.heap.IsTuple a its from ht) (show s.heap.IsTuple a' its' from ht') (by lia) (eq_el (fun v u u' h r r' => ih n rfl A.in1 v u u' h (by rw [in1_units]; lia) r r') rs rs' (Nat.le_of_succ_le_succ hd))
    rw [all_true, show (its.size == its'.size) = true from by rw [sz, beq_self_eq_true]] at this
    exact EqAt.of_refs q this
  | lst vs =>
    cases n with
    | zero => exact absurd hd (Nat.not_succ_le_zero _)
    | succ n =>
    rw [VR] at r r'
    obtain ⟨a, its, rfl, _, ht, rs⟩ := r
    obtain ⟨a', its', rfl, _, ht', rs'⟩ := r'
    by_cases q : a = a'
    · subst q; exact EqAt.same _
    have sz := rs.length.trans rs'.length.symm
    rw [Array.length_toList, Array.length_toList] at sz
    have := RcAt.lists (A := A) (s := s) (e := fun _ => true) ht.isList ht'.isList sz (by lia) (eq_el (fun v u u' h r r' => ih n rfl A.in1 v u u' h (by rw [in1_units]; lia) r r') rs rs' (Nat.le_of_succ_le_succ hd))
    rw [all_true] at this
    exact EqAt.of_refs q this
  | _ => exact no hd
theorem eq_same {σ : Store} {s : Shared} : ∀ (n : Nat), n ≤ 50 → ∀ (A : Around) (v : V) (u u' : Value), v.deep ≤ n → A.units + n < cLine → VR σ s.heap v u → VR σ s.heap v u' → EqAt A s u u' true := by
  intro n
  induction n with
  | zero => exact fun hn A v u u' hd hu => eq_step (fun m h => absurd h.symm (Nat.succ_ne_zero m)) A v u u' hd hn hu
  | succ n ih => exact fun hn A v u u' hd hu => eq_step (fun m h => by cases h; exact ih (Nat.le_of_succ_le hn)) A v u u' hd hn hu
theorem eq_sames {σ : Store} {s : Shared} {vs : List V} {its its' : Array Value} {A : Around} (rs : VRs σ s.heap vs its.toList) (rs' : VRs σ s.heap vs its'.toList) (hd : V.deeps vs ≤ 50) (hu : A.units + 52 < cLine) (j : Nat) (h1 : j < its.size) (h2 : j < its'.size) : EqAt A.in1 s its[j] its'[j] true :=
  eq_el (fun v u u' h => eq_same 50 (Nat.le_refl _) A.in1 v u u' h (by rw [in1_units]; lia)) rs rs' hd j h1 h2
section
variable {k : Nat} {c : FC} {loc : Loc} {P : Post} {Q : V → Store → Prop} {QB : Bool → Store → Prop} {X : Addr → Prop} {σ : Store}
theorem Ok.un {A : Around} {envs : List Env} (x : Ok k A envs) : A.units + 52 < cLine := by
  have := x.units
  have : cLine = 9900 := by decide
  lia
theorem o_eql {v w : V} {vs ws : List V} (hv : Lst v vs σ) (hw : Lst w ws σ) (hd : (vs = ws ∧ V.deeps vs ≤ 50) ∨ vs.length ≠ ws.length) (h : Q (.bool (vs.length == ws.length)) σ) : OV prog g k [v, w] (cmpA .Eq) Q X σ := by
  refine ov2 fun A envs b s u u' cx r r' => ?_
  obtain ⟨a, its, n, rfl, ha, rs⟩ := hv.at cx.inv r
  obtain ⟨a', its', n', rfl, ha', rs'⟩ := hw.at cx.inv r'
  have l1 : s.heap.IsList a its := ⟨_, ha, rfl, n, rfl⟩
  have l2 : s.heap.IsList a' its' := ⟨_, ha', rfl, n', rfl⟩
  have sz := rs.length
  have sz' := rs'.length
  rw [Array.length_toList] at sz sz'
  have hu := cx.ok.un
  rcases hd with ⟨rfl, hd⟩ | hd
  · rw [beq_self_eq_true] at h
    refine RcAt.lists (e := fun _ => true) l1 l2 (by lia) (by lia) (eq_sames rs rs' hd hu) _ _ _ _ ?_
    rw [all_true]
    exact pv_same cx.inv vbool h
  · rw [show (vs.length == ws.length) = false from beq_eq_false_iff_ne.mpr hd] at h
    exact RcAt.lists_lengths l1 l2 (by simp only [bne_iff_ne]; lia) (by lia) _ _ _ _ (pv_same cx.inv vbool h)
theorem o_nel {v w : V} {vs ws : List V} (hv : Lst v vs σ) (hw : Lst w ws σ) (hd : (vs = ws ∧ V.deeps vs ≤ 50) ∨ vs.length ≠ ws.length) (h : Q (.bool (vs.length != ws.length)) σ) : OV prog g k [v, w] (cmpA .NotEq) Q X σ := by
  refine ov2 fun A envs b s u u' cx r r' => ?_
  obtain ⟨a, its, n, rfl, ha, rs⟩ := hv.at cx.inv r
  obtain ⟨a', its', n', rfl, ha', rs'⟩ := hw.at cx.inv r'
  have l1 : s.heap.IsList a its := ⟨_, ha, rfl, n, rfl⟩
  have l2 : s.heap.IsList a' its' := ⟨_, ha', rfl, n', rfl⟩
  have sz := rs.length
  have sz' := rs'.length
  rw [Array.length_toList] at sz sz'
  have hu := cx.ok.un
  rcases hd with ⟨rfl, hd⟩ | hd
  · rw [bne_self_eq_false] at h
    refine RcNeAt.lists (e := fun _ => true) l1 l2 (by lia) (by lia) (eq_sames rs rs' hd hu) _ _ _ _ ?_
    rw [all_true]
    exact pv_same cx.inv vbool h
  · rw [show (vs.length != ws.length) = true from bne_iff_ne.mpr hd] at h
    exact RcNeAt.lists_lengths l1 l2 (by simp only [bne_iff_ne]; lia) (by lia) _ _ _ _ (pv_same cx.inv vbool h)
theorem o_net {vs : List V} (hd : V.deeps vs ≤ 50) (h : Q (.bool false) σ) : OV prog g k [.tup vs, .tup vs] (cmpA .NotEq) Q X σ := by
  refine ov2 fun A envs b s u u' cx r r' => ?_
  rw [VR] at r r'
  obtain ⟨a, its, rfl, _, ht, rs⟩ := r
  obtain ⟨a', its', rfl, _, ht', rs'⟩ := r'
  have sz := rs.length
  have sz' := rs'.length
  rw [Array.length_toList] at sz sz'
  have hu := cx.ok.un
  have := RcNeAt.tuples (A := A) (s := s) (e := fun _ => true) (show s.heap.IsTuple a its from ht) (show s.heap.IsTuple a' its' from ht') (by lia) (eq_sames rs rs' hd hu)
  rw [all_true, show (its.size == its'.size) = true from by rw [sz, sz', beq_self_eq_true]] at this
  exact this _ _ _ _ (pv_same cx.inv vbool h)
theorem VRs.ints {h : Heap} : ∀ {ns : List Int} {us : List Value}, VRs σ h (ns.map V.int) us → IntsAre us ns
  | [], us, r => by rw [r.nil']; exact .nil
  | n :: ns, us, r => by
    obtain ⟨x, xs, rfl, a, b⟩ := r.cons'
    obtain ⟨t, rfl⟩ := a.int'
    exact .cons n t (VRs.ints b)
theorem VRs.strs {h : Heap} : ∀ {ns : List Str} {us : List Value}, VRs σ h (ns.map V.str) us → StrsAre us ns
  | [], us, r => by rw [r.nil']; exact .nil
  | n :: ns, us, r => by
    obtain ⟨x, xs, rfl, a, b⟩ := r.cons'
    obtain ⟨t, rfl⟩ := a.str'
    exact .cons n t (VRs.strs b)
theorem o_inti {x : Int} {ns : List Int} (h : Q (.bool (ns.any (· == x))) σ) : OV prog g k [.int x, .tup (ns.map V.int)] (cmpA .In) Q X σ := by
  refine ov2 fun A envs b s u u' cx r r' => ?_
  obtain ⟨t, rfl⟩ := r.int'
  rw [VR] at r'
  obtain ⟨a, its, rfl, _, ht, rs⟩ := r'
  exact in_tuple_ints ht rs.ints (pv_same cx.inv vbool h)
theorem o_ninti {x : Int} {ns : List Int} (h : Q (.bool (!ns.any (· == x))) σ) : OV prog g k [.int x, .tup (ns.map V.int)] (cmpA .NotIn) Q X σ := by
  refine ov2 fun A envs b s u u' cx r r' => ?_
  obtain ⟨t, rfl⟩ := r.int'
  rw [VR] at r'
  obtain ⟨a, its, rfl, _, ht, rs⟩ := r'
  exact notin_tuple_ints ht rs.ints (pv_same cx.inv vbool h)
theorem o_ints {x : Str} {ns : List Str} (h : Q (.bool (ns.any (· == x))) σ) : OV prog g k [.str x, .tup (ns.map V.str)] (cmpA .In) Q X σ := by
  refine ov2 fun A envs b s u u' cx r r' => ?_
  obtain ⟨t, rfl⟩ := r.str'
  rw [VR] at r'
  obtain ⟨a, its, rfl, _, ht, rs⟩ := r'
  exact in_tuple_strs ht rs.strs (pv_same cx.inv vbool h)
theorem o_inls {x : Str} {v : V} {ns : List Str} (hv : Lst v (ns.map V.str) σ) (h : Q (.bool (ns.any (· == x))) σ) : OV prog g k [.str x, v] (cmpA .In) Q X σ := by
  refine ov2 fun A envs b s u u' cx r r' => ?_
  obtain ⟨t, rfl⟩ := r.str'
  obtain ⟨a, its, n, rfl, ha, rs⟩ := hv.at cx.inv r'
  have hs := rs.strs
  exact in_list_strs (vs := its.toList) ⟨_, ha, rfl, n, by simp⟩ hs (pv_same cx.inv vbool h)
end
end
section
open PySem PySem.W PyProof.Rows PySem.Calls PySem.SeqAt
section
variable {k : Nat} {c : FC} {loc : Loc} {P : Post} {Q : V → Store → Prop} {QB : Bool → Store → Prop} {X : Addr → Prop} {σ : Store}
theorem ints_of {h : Heap} : ∀ {us : List Value}, (∀ u ∈ us, ∃ n : Int, VR σ h (.int n) u) → ∃ ns : List Int, ns.length = us.length ∧ VRs σ h (ns.map V.int) us
  | [], _ => ⟨[], rfl, VRs0⟩
  | u :: us, a => by
    obtain ⟨n, hn⟩ := a u (.head _)
    obtain ⟨ns, hl, hr⟩ := ints_of (us := us) fun x hx => a x (.tail _ hx)
    exact ⟨n :: ns, by simp [hl], VRs.cons'' hn hr⟩
theorem e_slice_ints {v : Expr} {l u : Option Expr} {p pos : Pos} (h : TE prog g k c loc v (fun o σ₁ => ∃ ns : List Int, o = .lst (ns.map V.int) ∧ ns.length ≤ 1000000 ∧ TEp prog g k c loc l (fun i σ₂ => TEp prog g k c loc u (fun j σ₃ => ∀ ms : List Int, ms.length ≤ ns.length → Q (.lst (ms.map V.int)) σ₃) X σ₂) X σ₁) X σ)
    (ht : ∀ o r, letTemporaryGo v o r = pure () := by intro _ _; rfl) : TE prog g k c loc (.Subscript v (.Slice l u none p) pos) Q X σ := by
  intro A envs b s cx F
  refine wpAny_Subscript_list_slice (wp_then h cx F fun u₁ w σ₁ s₁ st₁ cx₁ F₁ r₁ h₁ => ?_) ht
  obtain ⟨ns, rfl, hl, h₁⟩ := h₁
  refine wp_pre st₁ cx (wp_part h₁ cx₁ F₁ fun i σ₂ s₂ st₂ cx₂ F₂ h₂ => ?_)
  refine wp_pre (st₁.trans st₂) cx (wp_part h₂ cx₂ F₂ fun j σ₃ s₃ st₃ cx₃ F₃ h₃ => ?_)
  have r₃ := (r₁.step st₂).step st₃
  rw [VR] at r₃
  obtain ⟨a, its, rfl, _, hp, rs⟩ := r₃
  have sz := rs.length
  rw [Array.length_toList, List.length_map] at sz
  refine ⟨a, its, i.map (·.1), j.map (·.1), rfl, hp.isList, by rw [sizeLine_eq]; lia, ?_, ?_, ?_⟩
  · cases i <;> constructor
  · cases j <;> constructor
  · obtain ⟨ms, hm, rm⟩ := ints_of (σ := σ₃) (h := s₃.heap) (us := (slicePick its (i.map (·.1)) (j.map (·.1)) none).toList) fun u hu => by
      unfold slicePick at hu
      obtain ⟨z, _, hz⟩ := List.mem_filterMap.mp hu
      obtain ⟨n, hn⟩ : ∃ n, ns[z]? = some n := by
        have := (Array.getElem?_eq_some_iff.mp hz).1
        exact ⟨ns[z], by simp⟩
      obtain ⟨u', e1, e2⟩ := VRs.get rs (i := z) (v := .int n) (by simp [hn])
      rw [Array.getElem?_toList, hz] at e1
      cases e1
      exact ⟨n, e2⟩
    have sp := slicePick_size_le its (i.map (·.1)) (j.map (·.1)) none
    have fz := frz_push (o := { cls := .type "slice", data := .fields #[partValue i, partValue j, .none] }) cx₃.inv
    have fl := frz_lst fz.2 (rm.step fz.1)
    have fp := frz_push (o := { cls := .type "list", data := .seq (slicePick its (i.map (·.1)) (j.map (·.1)) none) }) fz.2
    have st := (((st₁.trans st₂).trans st₃).trans fz.1).trans fp.1
    simp only [Array.toArray_toList, Heap.size_push] at fl
    exact ⟨.lst (ms.map V.int), σ₃, st, fp.2, fl, h₃ ms (by rw [hm, Array.length_toList]; lia)⟩
theorem c_list {v : V} {vs : List V} (hv : Lst v vs σ) (hl : vs.length ≤ 1000000) (h : Q (.lst vs) σ) : CV prog g k (.typ "list") [v] Q X σ := by
  refine cvt1 fun A envs b s u cx r => ?_
  obtain ⟨a, its, n, rfl, ha, rs⟩ := hv.at cx.inv r
  have sz := rs.length
  rw [Array.length_toList] at sz
  refine wpAny_size (call_list_seq (hsz := by rw [sizeLine_eq]; lia) a (.inl rfl) ha rfl rfl fun h' c' hk hD size => ?_)
  have gr := cx.inv.grow (s' := { s with heap := h' }) size hk rfl rfl
  refine ⟨.lst vs, σ, gr.1, gr.2, ?_, h⟩
  rw [VR]
  exact ⟨_, its, rfl, cx.inv.fresh (Nat.le_refl _), ⟨c', hD⟩, rs.step gr.1⟩
theorem c_bytes {v : V} {ns : List Int} (hv : Lst v (ns.map V.int) σ) (hl : ns.length ≤ 1000000) (hr : ∀ n ∈ ns, 0 ≤ n ∧ n < 256) (h : Q (.bytes (byteArr ns)) σ) : CV prog g k (.typ "bytes") [v] Q X σ := by
  refine cvt1 fun A envs b s u cx r => ?_
  obtain ⟨a, its, n, rfl, ha, rs⟩ := hv.at cx.inv r
  have sz := rs.length
  rw [List.length_map] at sz
  refine wpAny_size (call_bytes_ints (vs := its.toList) ⟨_, ha, rfl, n, by simp⟩ rs.ints hr (by rw [sizeLine_eq]; lia) cx.ok.handled fun h' t k hk size => ?_)
  exact pv_heap cx.inv size hk (fun st => by rw [VR]; exact ⟨_, rfl⟩) h
end
end
section
theorem bindL_not {ko : Str → Option NameKind} {x : Str} : ∀ {binds : List (Str × Value)} {m : Str → Option Value}, x ∉ binds.map (·.1) → bindL ko binds m x = m x
  | [], _, _ => rfl
  | (n, v) :: r, m, h => by
    rw [List.map_cons, List.mem_cons, not_or] at h
    rw [bindL, bindL_not h.2]
    split
    · exact if_neg h.1
    · rfl
theorem bindC_not {ko : Str → Option NameKind} {x : Str} : ∀ {binds : List (Str × Value)} {m : Str → Option Value}, x ∉ binds.map (·.1) → bindC ko binds m x = m x
  | [], _, _ => rfl
  | (n, v) :: r, m, h => by
    rw [List.map_cons, List.mem_cons, not_or] at h
    rw [bindC, bindC_not h.2]
    split
    · rfl
    · exact if_neg h.1
theorem bindL_mem {ko : Str → Option NameKind} {x : Str} {u : Value} (hk : ko x = some .local) : ∀ {binds : List (Str × Value)} {m : Str → Option Value}, (binds.map (·.1)).Nodup → (x, u) ∈ binds → bindL ko binds m x = some u
  | (n, v) :: r, m, nd, h => by
    rw [List.map_cons, List.nodup_cons] at nd
    rcases List.mem_cons.mp h with h | h
    · cases h
      rw [bindL, bindL_not nd.1, if_pos hk]
      exact if_pos rfl
    · rw [bindL]; exact bindL_mem hk nd.2 h
theorem bindC_mem {ko : Str → Option NameKind} {x : Str} {u : Value} (hk : ko x = some .cell) : ∀ {binds : List (Str × Value)} {m : Str → Option Value}, (binds.map (·.1)).Nodup → (x, u) ∈ binds → bindC ko binds m x = some u
  | (n, v) :: r, m, nd, h => by
    rw [List.map_cons, List.nodup_cons] at nd
    rcases List.mem_cons.mp h with h | h
    · cases h
      rw [bindC, bindC_not nd.1, if_neg (by rw [hk]; decide)]
      exact if_pos rfl
    · rw [bindC]; exact bindC_mem hk nd.2 h
section
variable {k : Nat} {c : FC} {loc : Loc} {P : Post} {Q : V → Store → Prop} {QB : Bool → Store → Prop} {X : Addr → Prop} {σ : Store}
theorem c_fnC (T : Top g) {f : Addr} {fd : FuncData} {body : List Stmt} {vs ws : List V} {ps : List String} (hf : FnIs g f fd body) (bind : Binds g fd vs ps ws σ)
    (hloc : ∀ n, (ps.all fun p => decide (fd.scope.names.lookup (Str.ofString p) = some .local ∨ (fd.scope.names.lookup (Str.ofString p) = some .cell ∧ ((cellsFrom n fd.scope.names []).lookup (Str.ofString p)).isSome = true))) = true)
    (hnd : ((cellsFrom 0 fd.scope.names []).map (·.1)).Nodup) (nd : ps.Nodup)
    (h : ∀ c : FC, c.sc = fd.scope → c.cl = cellsFrom (c.L + 1) fd.scope.names [] → TSs prog g k c (ps.zip ws) body ⟨fun _ σ' => Q .none σ', Q, fun _ _ => False⟩ X σ) : CF prog g (k + 1) (.ref f) vs Q X σ := by
  intro A envs b s u us cx ru rs
  rw [VR] at ru
  subst ru
  obtain ⟨us', hb, rw'⟩ := bind s us cx.inv rs
  obtain ⟨o, ho, hd⟩ := hf.at_
  have ho' := cx.inv.base _ _ ho
  have hroom : A.depth < recursionLimit := by have := cx.ok.depth; show A.depth < 1000; lia
  have kind : ∀ p ∈ ps, fd.scope.names.lookup (Str.ofString p) = some .local ∨ (fd.scope.names.lookup (Str.ofString p) = some .cell ∧ ((cellsFrom (s.heap.objs.size + 1) fd.scope.names []).lookup (Str.ofString p)).isSome = true) := fun p hp => by
    exact of_decide_eq_true (List.all_eq_true.mp (hloc (s.heap.objs.size + 1)) p hp)
  refine codeAny_call_function hroom ho' hd hf.co hf.gen hf.body (hf.cd.keeps cx.inv.base) (hb _ _ _ _ ?_)
  rw [hf.glob, hf.clo, hf.bi]
  refine wpAny_newFunctionEnv_cells hf.kind (fun x hx => ?_) fun env' he s' x => ?_
  · obtain ⟨p, hp, e⟩ := List.mem_map.mp (List.of_mem_zip hx).1
    rw [← e]; exact kind p hp
  subst he
  let c : FC := ⟨fd.qualname ++ ".<locals>.", fd.scope, s.heap.objs.size, s.heap.objs.size, some f, fd.code, cellsFrom (s.heap.objs.size + 1) fd.scope.names []⟩
  have ce : newEnv fd.scope s.heap.objs.size mainGlobals (cellsFrom (s.heap.objs.size + 1) fd.scope.names []) (fd.qualname ++ ".<locals>.") (some f) fd.code none builtinsNs = c.env := rfl
  rw [ce] at x ⊢
  refine ⟨T.ok.lim.keeps fun b o e => ?_, codeAny_func ?_⟩
  · exact x.toInCall.keep b o (cx.inv.base b o e)
  obtain ⟨h₁, tk, rfl, hk⟩ := x.done
  have hns : h₁.Ns s.heap.objs.size (bindL c.env.kindOf ((ps.map Str.ofString).zip us') fun _ => none) := x.toInCall.ns
  have size : s.heap.objs.size ≤ h₁.objs.size := Nat.le_of_lt (ns_lt hns)
  have gr := cx.inv.grow (s' := { s with heap := h₁, toks := tk }) size hk rfl rfl
  have low := base_le T.ok cx.inv
  have nL : σ s.heap.objs.size = none := cx.inv.fresh (Nat.le_refl _)
  have bN : ∀ a, s.heap.objs.size ≤ a → b.get? a = none := fun a ha => by
    cases z : b.get? a with
    | none => rfl
    | some y => exact absurd (Heap.lt_size (cx.bs.sub _ _ z)) (Nat.not_lt.mpr ha)
  have cx₁ : Cx g k (A.deeper c.env) (c.env :: envs) b σ { s with heap := h₁, toks := tk } := by
    refine ⟨cx.ok.deeper, gr.2, fun env he => ?_, cx.bs.step gr.1 gr.2, fun e he env q => ?_, c.env, envs, rfl⟩
    · rcases List.mem_cons.mp he with rfl | he
      · exact ⟨hf.kind, _, _, rfl, nL, hns, low, bN _ (Nat.le_refl _)⟩
      · exact (cx.outs.step gr.1) env he
    · cases q
      obtain ⟨_, L, m, f', n, hn, _⟩ := cx.outs e he
      rw [f']
      intro z
      have z : L = s.heap.objs.size := Option.some.inj z
      have := ns_lt hn
      rw [z] at this
      exact Nat.lt_irrefl _ this
  have n1 : (ps.map Str.ofString).Nodup := List.Pairwise.map _ (fun a b ne e => ne (ofString_inj e)) nd
  have n2 : (((ps.map Str.ofString).zip us').map (·.1)).Nodup := List.Sublist.nodup zip_keys n1
  have nC : ((cellsFrom (s.heap.objs.size + 1) fd.scope.names []).map (·.1)).Nodup := cellsFrom_names fd.scope.names 0 (s.heap.objs.size + 1) [] [] rfl ▸ hnd
  have F : Fm g c (c.env :: envs) (ps.zip ws) σ h₁ := by
    refine ⟨hf.kind, low, nL, ⟨c.env, envs, rfl, rfl⟩, fun p hp => ?_, _, hns, fun y v hm => ?_⟩
    · have ab := x.above p.1 p.2 hp
      have ab : s.heap.objs.size < p.2 := ab
      exact ⟨cx.inv.fresh (Nat.le_of_lt ab), Nat.le_of_lt (Nat.lt_of_le_of_lt low ab), _, x.cell p.1 p.2 (lookup_mem nC hp)⟩
    · obtain ⟨u, h1, h2⟩ := zip_mem rw' hm
      refine ⟨u, ?_, h2.step gr.1⟩
      rcases kind y (List.of_mem_zip hm).1 with e | ⟨e, sm⟩
      · exact .inl ⟨e, bindL_mem e n2 h1⟩
      · obtain ⟨a, ha⟩ := Option.isSome_iff_exists.mp sm
        refine .inr ⟨.inl e, a, ha, cx.inv.fresh ?_, ?_⟩
        · have := x.above _ _ (mem_of_lookup ha)
          exact Nat.le_of_lt this
        · have := x.cell _ _ ha
          rwa [bindC_mem e n2 h1] at this
  have W : Own c b (c.env :: envs) := ⟨rfl, ⟨envs, rfl⟩, fun p hp => bN _ (Nat.le_of_lt (x.above p.1 p.2 hp))⟩
  refine wpAny_mono (h c rfl rfl (A.deeper c.env) (c.env :: envs) b _ W cx₁ F) (fun fl s₂ hfl => ?_) fun e s₂ hx => ?_
  · obtain ⟨σ₂, l₂, st₂, I₂, F₂, q⟩ := hfl
    have st : Stp σ s σ₂ s₂ := by
      refine ⟨Nat.le_trans size st₂.size, fun y o e n d => st₂.keep y o (hk y o e) n d fun hm => ?_, fun l m hn n => st₂.ns l m (gr.1.ns l m hn n) n fun z => ?_, fun y l n => st₂.new y (Nat.lt_of_lt_of_le l size) n, st₂.gens.trans rfl, st₂.os.trans rfl⟩
      · obtain ⟨p, hp, rfl⟩ := List.mem_map.mp hm
        have := x.above p.1 p.2 hp
        exact absurd (Heap.lt_size e) (Nat.not_lt.mpr (Nat.le_of_lt this))
      · have := ns_lt hn
        rw [z] at this
        exact Nat.lt_irrefl _ this
    cases fl with
    | ret v => obtain ⟨w, r, q⟩ := q; exact ⟨w, σ₂, st, I₂, r, q⟩
    | next => exact ⟨.none, σ₂, st, I₂, by rw [VR], q⟩
    | cont => exact q.elim
    | brk => exact q.elim
  · refine px_leave (A := A.deeper c.env) cx₁.ok.frames W cx.bs.base (fun l m n hn => ⟨gr.1.ns l m hn n, fun z => ?_⟩) rfl hx
    have := ns_lt hn
    rw [← z] at this
    exact Nat.lt_irrefl _ this
theorem s_assignC {x : String} {e : Expr} {pos' pos : Pos} {a : Addr} (hl : c.sc.names.lookup (Str.ofString x) = some .cell) (hcl : c.cl = [(Str.ofString x, a)]) (h : TE prog g k c loc e (KW P x loc) X σ)
    (hs : ∀ env, swapsWith e (some (.Name (Str.ofString x) pos')) pos.line env = pure false := by intro _; rfl) : TS prog g k c loc (.Assign [.Name (Str.ofString x) pos'] e pos) P X σ := by
  intro A envs b s W cx F
  refine wpAny_Assign_Name (wpE_then h cx F fun u v σ₁ s₁ st cx₁ F₁ r q => ?_) (hs _)
  obtain ⟨na, lowa, v₀, hc⟩ := F₁.cl (Str.ofString x, a) (by rw [hcl]; exact .head _)
  refine wpAny_storeName_cell F₁.kind hl (show c.cl.lookup (Str.ofString x) = some a by rw [hcl]; simp) hc fun h' hv hs' => ?_
  have off : Off a s₁.heap h' := ⟨fun o e fz => by obtain ⟨o', e', d'⟩ := hc; rw [e] at e'; cases e'; exact fz.cell _ d', fun y o n e => (hs'.2 y n).trans e⟩
  have I' : Inv g σ₁ { s₁ with heap := h' } := cx₁.inv.touch na off lowa rfl
  obtain ⟨m, hn, hm⟩ := F₁.ns
  have nL : c.L ≠ a := fun z => by
    obtain ⟨o, es, ep, e1, e2, _⟩ := hn
    obtain ⟨o', e', d'⟩ := hc
    rw [z] at e1
    rw [show s₁.heap.get? a = some o' from e'] at e1
    cases e1
    rw [d'] at e2; cases e2
  have hn' := hn.sameBut hs' nL
  have stA := st.toF (c := c) F.fr
  refine ⟨σ₁, _, stA.trans ⟨Nat.le_of_eq hs'.1.symm, fun y o e n d nc => (hs'.2 y fun z => nc (by rw [hcl, z]; exact .head _)).trans e, fun l m' hm' n nl => ns_keep hm' fun o e => (hs'.2 l fun z => ?_).trans e, fun _ _ => ⟨m, hn'⟩, fun _ _ n => n, rfl, rfl⟩, I', ⟨F₁.kind, F₁.low, F₁.fr, F₁.hd, fun p hp => ?_, m, hn', fun y w hy => ?_⟩, q⟩
  · obtain ⟨o1, es, ep, e1, e2, _⟩ := hm'
    obtain ⟨o', e', d'⟩ := hc
    rw [z] at e1
    rw [show s₁.heap.get? a = some o' from e'] at e1
    cases e1
    rw [d'] at e2; cases e2
  · rw [hcl] at hp
    rcases List.mem_cons.mp hp with rfl | hp
    · exact ⟨na, lowa, _, hv⟩
    · cases hp
  · rcases List.mem_cons.mp hy with hy | hy
    · cases hy
      exact ⟨u, .inr ⟨.inl hl, a, by rw [hcl]; simp, na, hv⟩, r.touch off⟩
    · obtain ⟨hy, ne⟩ := List.mem_filter.mp hy
      have ne : y ≠ x := by simpa using ne
      obtain ⟨u', t, r'⟩ := hm y w hy
      refine ⟨u', ?_, r'.touch off⟩
      rcases t with t1 | ⟨t1, a', t2, t3, t4⟩
      · exact .inl t1
      · exfalso
        rw [hcl] at t2
        simp only [List.lookup_cons, List.lookup_nil] at t2
        split at t2
        · rename_i q; exact ne (ofString_inj (eq_of_beq q))
        · cases t2
end
end
section
section
variable {k : Nat} {c : FC} {loc : Loc} {P : Post} {Q : V → Store → Prop} {QB : Bool → Store → Prop} {X : Addr → Prop} {σ : Store}
theorem Stp.forget {s : Shared} : Stp σ s s0 s := ⟨Nat.le_refl _, fun _ _ e _ _ => e, fun _ _ h _ => h, fun _ _ _ => rfl, rfl, rfl⟩
theorem Inv.forget {s : Shared} (I : Inv g σ s) : Inv g s0 s := ⟨I.base, fun _ n => absurd rfl n, fun _ _ e => (nomatch e), I.gens⟩
theorem ss_forget {body : List Stmt} (h : TSs prog g k c loc body P X s0) : TSs prog g k c loc body P X σ := by
  intro A envs b s W cx F
  have st := Stp.forget (σ := σ) (s := s)
  have cx' := cx.step st cx.inv.forget
  exact TSs.go h W (st.toF F.fr) cx' (F.step st)
theorem CV.sandbox {f : V} {vs : List V} {R : Bool → Prop} (hf : ∀ (σ σ' : Store) h u, VR σ h f u → VR σ' h f u) (honly : ∀ a o, σ a = some o → ∃ vs, o = .list vs) (hvs : ∀ (σ σ' : Store) h us, VRs σ h vs us → VRs σ' h vs us)
    (h : CV prog g k f vs (fun v _ => ∃ b, v = .bool b ∧ R b) (fun _ => False) s0) (hq : ∀ b, R b → Q (.bool b) σ) : CV prog g k f vs Q X σ := by
  intro A envs b s u us cx ru rs
  have cx' := cx.step Stp.forget cx.inv.forget
  refine wpAny_mono (h A envs b s u us cx' (hf _ _ _ _ ru) (hvs _ _ _ _ rs)) (fun w s' hx => ?_) fun e s' hx => (px_no hx).elim
  obtain ⟨v, σ', st, I', r, bb, rfl, hb⟩ := hx
  have st' : Stp σ s σ s' := ⟨st.size, fun x o e n d => st.keep x o e rfl d, fun l m hm n => st.ns l m hm rfl, fun _ _ n => n, st.gens, st.os⟩
  refine ⟨.bool bb, σ, st', ⟨I'.base, cx.inv.low, fun a o e => ?_, I'.gens⟩, by rw [VR] at r ⊢; exact r, hq bb hb⟩
  obtain ⟨ws, rfl⟩ := honly a o e
  obtain ⟨its, n, h1, h2⟩ := cx.inv.obj a _ e
  exact ⟨its, n, st.keep a _ h1 rfl (fun es n q => by cases q), h2.step st'⟩
theorem frames_hide {b : Heap} {as : List Addr} {σ : Store} {h : Heap} {envs : List Env} (o : Outs g b σ h envs) (hh : ∀ L, (∃ es n o, h.get? L = some o ∧ o.data = .dict es n) → g.h₀.objs.size ≤ L → L ∈ as) : Outs g (hideAll h as) σ h envs := fun env he => by
  obtain ⟨k, L, m, f, n, hn, l, hb⟩ := o env he
  refine ⟨k, L, m, f, n, hn, l, hideAll_none _ (hh L ?_ l)⟩
  obtain ⟨o, es, ep, e, d, _⟩ := hn
  exact ⟨es, ep, o, e, d⟩
theorem exc_matches (T : Top g) {A : Around} {E : Value → Shared → Prop} {s : Shared} {a : Addr} {ob : Obj} {Q : Bool → Shared → Prop} (hb : ∀ x o, g.h₀.get? x = some o → s.heap.get? x = some o) (he : s.heap.get? a = some ob) (hc : ob.cls = .ref 84) (h : Q true s) :
    wpAny (model prog g.w) A (excMatches (.ref a) (.ref 84)) Q E s := by
  have hC : s.heap.get? 84 = some (o_84 g.w.params) := hb _ _ (T.base rfl)
  obtain ⟨hh, gs, dr, tk, os⟩ := s
  dsimp only at hC he
  have hC' : hh.get? 84 = some (excClassObj (Str.ofString "GrammarFault") (Str.ofString "GrammarFault") 84 83 [.ref 47] (.ref 47 :: excMro) true [] [] false none none (some (.ref 75)) none (some (.str (Str.ofString "GrammarFault") 268)) (some (.str (Str.ofString "GrammarFault") 276)) (some (.bool true)) "Exception.__new__") := hC
  have hcB : (Value.ref 84 :: .ref 47 :: excMro).contains (.type "BaseException") = true := by decide +kernel
  have hcS : (Value.ref 84 :: .ref 47 :: excMro).contains (.ref 84) = true := by decide +kernel
  have hcT : isSubtype (.type "type") (.type "tuple") = pure false := tc_notTuple
  unfold excMatches
  repeat (first | (with_reducible refine wpAny_loadPart_at he ?_; rw [hc]) | with_reducible refine wpAny_loadPart_at hC' ?_ | (with_reducible refine wpAny_isSubtype_exc hC' ?_; first | rw [hcB] | rw [hcS]) | wp_step)
  exact h
theorem s_try (T : Top g) {body : List Stmt} {n : Nat} {np p1 p2 hp pos : Pos} (hcl : c.cl = []) (hk : c.sc.names.lookup (Str.ofString "GrammarFault") = some .globalImplicit) (h : TSs prog g k c loc body P (fun C => C = 84) s0) (hr : P.rt (.bool true) s0) :
    TS prog g k c loc (.Try body [.ExceptHandler (some (.Name (Str.ofString "GrammarFault") np)) none [.Return (some (.Constant (.bool true) n p1)) p2] hp] [] [] pos) P X s0 := by
  intro A envs b s W cx F
  have E0 : ∀ e s', PX g X b envs s0 s e s' → notedBy (model prog g.w) A c.env (cameBackBy (model prog g.w) A c.env (PX g X b envs s0 s)) e s' := PX.passes cx W
  let as : List Addr := (List.range s.heap.objs.size).filter fun x => (g.h₀.get? x).isNone && (match s.heap.get? x with | some o => (match o.data with | .dict _ _ => true | _ => false) | none => false)
  have mem : ∀ x, x ∈ as ↔ g.h₀.get? x = none ∧ ∃ o es n, s.heap.get? x = some o ∧ o.data = .dict es n := fun x => by
    constructor
    · intro hx
      obtain ⟨_, hx⟩ := List.mem_filter.mp hx
      rw [Bool.and_eq_true] at hx
      obtain ⟨h1, h2⟩ := hx
      refine ⟨by simpa using h1, ?_⟩
      cases q : s.heap.get? x with
      | none => rw [q] at h2; cases h2
      | some o =>
        rw [q] at h2
        dsimp only at h2
        cases d : o.data with
        | dict es n => exact ⟨o, es, n, rfl, d⟩
        | _ => rw [d] at h2; cases h2
    · rintro ⟨h1, o, es, n, h2, h3⟩
      refine List.mem_filter.mpr ⟨List.mem_range.mpr (Heap.lt_size h2), ?_⟩
      rw [h1, h2]
      dsimp only
      rw [h3]
      rfl
  let b' := hideAll s.heap as
  have bs' : Bs g b' s0 s := by
    refine ⟨fun x o e => of_hideAll _ e, fun x o e => hideAll_get _ (cx.inv.base x o e) fun hm => ?_, fun x n => absurd rfl n, fun x o e => ?_⟩
    · have := ((mem x).mp hm).1; rw [e] at this; cases this
    · by_cases q : g.h₀.get? x = none
      · refine .inr fun es n d => ?_
        have : x ∈ as := (mem x).mpr ⟨q, o, es, n, of_hideAll _ e, d⟩
        have z := hideAll_none (h := s.heap) as this
        rw [show hideAll s.heap as = b' from rfl, e] at z; cases z
      · cases z : g.h₀.get? x with
        | none => exact absurd z q
        | some o' =>
          have := cx.inv.base x o' z
          rw [of_hideAll _ e] at this; cases this
          exact .inl rfl
  have cx' : Cx g k A envs b' s0 s := ⟨cx.ok, cx.inv, frames_hide cx.outs fun L hL low => (mem L).mpr ⟨by
      cases z : g.h₀.get? L with
      | none => rfl
      | some o => exact absurd (Heap.lt_size z) (Nat.not_lt.mpr low), let ⟨es, n, o, e, d⟩ := hL; ⟨o, es, n, e, d⟩⟩, bs', cx.apart, cx.ne⟩
  have W' : Own c b' envs := ⟨W.own, W.top, fun p hp => by rw [hcl] at hp; cases hp⟩
  refine wpAny_size (wpAny_Try_except ?_)
  refine wpAny_mono (h A envs b' s W' cx' F) (fun f s₁ hf => ?_) fun e s₁ hx => ?_
  · cases f with
    | next => exact wpAny_execs_nil fun _ => hf
    | cont => exact fun _ => hf
    | ret u => exact fun _ => hf
    | brk => exact fun _ => hf
  · obtain ⟨a, C, rfl, rfl, fl, up⟩ := hx
    refine up_noted cx.ok.frames W' fl up fun h₂ a0 hh us₂ => ?_
    refine wpAny_landsW hh fun h₃ hf₃ us₃ => ?_
    have base₃ : ∀ x o, g.h₀.get? x = some o → h₃.get? x = some o := fun x o e => hf₃.1 x o (bs'.base x o e)
    obtain ⟨ob, hob, hobc⟩ := hf₃.there
    refine wpAny_handleBy_cons (codeAny_handlers_test (Name_function_global (env := c.env) F.kind hk (loadGlobal_global (env := c.env) (T.ok.mg.keeps base₃) (T.mg (r := some (.ref 84)) (by kernel_rfl)) (exc_matches T base₃ hob hobc ?_)) (by decide))) (by intro q; cases q)
    rw [if_pos rfl]
    refine codeAny_handlers_suite (lands_againW hf₃ fun h₄ hf₄ us₄ => ?_)
    refine wpAny_execs_cons (wpAny_Return_some (wpAny_pure fun size => ?_))
    have ns : ∀ l m, (∀ e, envs.head? = some e → e.frame ≠ some l) → s.heap.Ns l m → h₄.Ns l m := fun l m q hn => us₄.ns (us₃.ns (us₂.ns (fl.ns l m rfl q hn)))
    have there : ∀ l m, s.heap.Ns l m → ∃ m', h₄.Ns l m' := fun l m hn => let ⟨m', h'⟩ := fl.there l m rfl hn; ⟨m', us₄.ns (us₃.ns (us₂.ns h'))⟩
    have nd : ∀ x o, s.heap.get? x = some o → (∀ es n, o.data ≠ .dict es n) → h₄.get? x = some o := fun x o e d => hf₄.1 x o (hideAll_get _ e fun hm => by
      obtain ⟨_, o', es, n, e', d'⟩ := (mem x).mp hm
      rw [e] at e'; cases e'; exact d _ _ d')
    have I₄ : Inv g s0 { s₁ with heap := h₄ } := ⟨fun x o e => hf₄.1 x o (bs'.base x o e), fun _ n => absurd rfl n, fun _ _ e => (nomatch e), fl.inv.gens⟩
    obtain ⟨m, hn, _⟩ := F.ns
    obtain ⟨m', hn'⟩ := there _ m hn
    exact ⟨s0, [], ⟨size, fun x o e _ d _ => nd x o e d, fun l m hm _ nl => ns l m (fun e he q => by
        obtain ⟨outer, rfl⟩ := W.top
        cases he
        exact nl (Option.some.inj (q.symm.trans (by show some c.fr = some c.L; rw [W.own])))) hm, fun m hm => there _ m hm, fun _ _ _ => rfl, fl.inv.gens.trans cx.inv.gens.symm, fl.os⟩, I₄,
      ⟨F.kind, F.low, rfl, F.hd, fun p hp => (by rw [hcl] at hp; cases hp), m', hn', fun _ _ hm => by cases hm⟩, .bool true, by rw [VR], hr⟩
end
end
section
theorem c_top (T : Top g) {k : Nat} {Q : V → Store → Prop} {f : Addr} {fd : FuncData} {body : List Stmt} {ps : List String} {A : Around} {s : Shared} {us : List Value} {vs ws : List V} {σ : Store} (hf : FnIs g f fd body) (bind : Binds g fd vs ps ws σ)
    (hloc : ∀ n, (ps.all fun p => decide (fd.scope.names.lookup (Str.ofString p) = some .local ∨ (fd.scope.names.lookup (Str.ofString p) = some .cell ∧ ((cellsFrom n fd.scope.names []).lookup (Str.ofString p)).isSome = true))) = true)
    (hnd : ((cellsFrom 0 fd.scope.names []).map (·.1)).Nodup) (nd : ps.Nodup)
    (ok : Ok (k + 1) A []) (I : Inv g σ s) (bs : Bs g g.h₀ σ s) (rs : VRs σ s.heap vs us)
    (h : ∀ c : FC, c.sc = fd.scope → c.cl = cellsFrom (c.L + 1) fd.scope.names [] → TSs prog g k c (ps.zip ws) body ⟨fun _ σ' => Q .none σ', Q, fun _ _ => False⟩ (fun _ => False) σ) {E : Value → Shared → Prop} :
    wpAny (model prog g.w) A (call (.ref f) us []) (PV g Q σ s) E s := by
  refine wpAny_call ?_
  obtain ⟨us', hb, rw'⟩ := bind s us I rs
  obtain ⟨o, ho, hd⟩ := hf.at_
  have ho' := I.base _ _ ho
  have hroom : A.depth < recursionLimit := by have := ok.depth; show A.depth < 1000; lia
  have kind : ∀ p ∈ ps, fd.scope.names.lookup (Str.ofString p) = some .local ∨ (fd.scope.names.lookup (Str.ofString p) = some .cell ∧ ((cellsFrom (s.heap.objs.size + 1) fd.scope.names []).lookup (Str.ofString p)).isSome = true) := fun p hp => by
    exact of_decide_eq_true (List.all_eq_true.mp (hloc (s.heap.objs.size + 1)) p hp)
  refine codeAny_call_function hroom ho' hd hf.co hf.gen hf.body (hf.cd.keeps I.base) (hb _ _ _ _ ?_)
  rw [hf.glob, hf.clo, hf.bi]
  refine wpAny_newFunctionEnv_cells hf.kind (fun x hx => ?_) fun env' he s' x => ?_
  · obtain ⟨p, hp, e⟩ := List.mem_map.mp (List.of_mem_zip hx).1
    rw [← e]; exact kind p hp
  subst he
  let c : FC := ⟨fd.qualname ++ ".<locals>.", fd.scope, s.heap.objs.size, s.heap.objs.size, some f, fd.code, cellsFrom (s.heap.objs.size + 1) fd.scope.names []⟩
  have ce : newEnv fd.scope s.heap.objs.size mainGlobals (cellsFrom (s.heap.objs.size + 1) fd.scope.names []) (fd.qualname ++ ".<locals>.") (some f) fd.code none builtinsNs = c.env := rfl
  rw [ce] at x ⊢
  refine ⟨T.ok.lim.keeps fun b o e => ?_, codeAny_func ?_⟩
  · exact x.toInCall.keep b o (I.base b o e)
  obtain ⟨h₁, tk, rfl, hk⟩ := x.done
  have hns : h₁.Ns s.heap.objs.size (bindL c.env.kindOf ((ps.map Str.ofString).zip us') fun _ => none) := x.toInCall.ns
  have size : s.heap.objs.size ≤ h₁.objs.size := Nat.le_of_lt (ns_lt hns)
  have gr := I.grow (s' := { s with heap := h₁, toks := tk }) size hk rfl rfl
  have low := base_le T.ok I
  have nL : σ s.heap.objs.size = none := I.fresh (Nat.le_refl _)
  have bN : ∀ a, s.heap.objs.size ≤ a → g.h₀.get? a = none := fun a ha => by
    cases z : g.h₀.get? a with
    | none => rfl
    | some y => exact absurd (Heap.lt_size (bs.sub _ _ z)) (Nat.not_lt.mpr ha)
  have cx₁ : Cx g k (A.deeper c.env) (c.env :: []) g.h₀ σ { s with heap := h₁, toks := tk } := by
    refine ⟨ok.deeper, gr.2, fun env he => ?_, bs.step gr.1 gr.2, fun e he env q => (nomatch he), c.env, [], rfl⟩
    obtain rfl := List.mem_singleton.mp he
    exact ⟨hf.kind, _, _, rfl, nL, hns, low, bN _ (Nat.le_refl _)⟩
  have n1 : (ps.map Str.ofString).Nodup := List.Pairwise.map _ (fun a b ne e => ne (ofString_inj e)) nd
  have n2 : (((ps.map Str.ofString).zip us').map (·.1)).Nodup := List.Sublist.nodup zip_keys n1
  have nC : ((cellsFrom (s.heap.objs.size + 1) fd.scope.names []).map (·.1)).Nodup := cellsFrom_names fd.scope.names 0 (s.heap.objs.size + 1) [] [] rfl ▸ hnd
  have F : Fm g c (c.env :: []) (ps.zip ws) σ h₁ := by
    refine ⟨hf.kind, low, nL, ⟨c.env, [], rfl, rfl⟩, fun p hp => ?_, _, hns, fun y v hm => ?_⟩
    · have ab := x.above p.1 p.2 hp
      have ab : s.heap.objs.size < p.2 := ab
      exact ⟨I.fresh (Nat.le_of_lt ab), Nat.le_of_lt (Nat.lt_of_le_of_lt low ab), _, x.cell p.1 p.2 (lookup_mem nC hp)⟩
    · obtain ⟨u, h1, h2⟩ := zip_mem rw' hm
      refine ⟨u, ?_, h2.step gr.1⟩
      rcases kind y (List.of_mem_zip hm).1 with e | ⟨e, sm⟩
      · exact .inl ⟨e, bindL_mem e n2 h1⟩
      · obtain ⟨a, ha⟩ := Option.isSome_iff_exists.mp sm
        refine .inr ⟨.inl e, a, ha, I.fresh ?_, ?_⟩
        · have := x.above _ _ (mem_of_lookup ha)
          exact Nat.le_of_lt this
        · have := x.cell _ _ ha
          rwa [bindC_mem e n2 h1] at this
  have W : Own c g.h₀ (c.env :: []) := ⟨rfl, ⟨[], rfl⟩, fun p hp => bN _ (Nat.le_of_lt (x.above p.1 p.2 hp))⟩
  refine wpAny_mono (h c rfl rfl (A.deeper c.env) (c.env :: []) g.h₀ _ W cx₁ F) (fun fl s₂ hfl => ?_) fun e s₂ hx => (px_no hx).elim
  obtain ⟨σ₂, l₂, st₂, I₂, F₂, q⟩ := hfl
  have st : Stp σ s σ₂ s₂ := by
    refine ⟨Nat.le_trans size st₂.size, fun y o e n d => st₂.keep y o (hk y o e) n d fun hm => ?_, fun l m hn n => st₂.ns l m (gr.1.ns l m hn n) n fun z => ?_, fun y l n => st₂.new y (Nat.lt_of_lt_of_le l size) n, st₂.gens.trans rfl, st₂.os.trans rfl⟩
    · obtain ⟨p, hp, rfl⟩ := List.mem_map.mp hm
      have := x.above p.1 p.2 hp
      exact absurd (Heap.lt_size e) (Nat.not_lt.mpr (Nat.le_of_lt this))
    · have := ns_lt hn
      rw [z] at this
      exact Nat.lt_irrefl _ this
  cases fl with
  | ret v => obtain ⟨w, r, q⟩ := q; exact ⟨w, σ₂, st, I₂, r, q⟩
  | next => exact ⟨.none, σ₂, st, I₂, by rw [VR], q⟩
  | cont => exact q.elim
  | brk => exact q.elim
end
section
set_option tactic.hygienic true
theorem script_push {R : WRecords} {w : World} {s₀ s₁ : Shared} {ns : List Int} {a : Addr} {as : List Addr} (L : Laid R w s₀ s₁ [ofPy (PyData.list (ns.map PyData.int))] [.ref a] as) : a = s₀.heap.objs.size ∧ ∃ vs : List Value, s₁.heap = s₀.heap.push { cls := .type "list", data := .seq vs.toArray } := by
  obtain ⟨ord, _, e⟩ := L.laid
  simp only [ofPy, layAllW, layW] at e
  cases q : layAllW R (classAt s₀.heap) w.params ord (ofPys (List.map PyData.int ns)) s₀ with
  | none => rw [q] at e; cases e
  | some r =>
    rw [q] at e
    have hh := X.lay_ints ns s₀ r q
    simp only [Option.some.injEq, Prod.mk.injEq, List.cons.injEq, Value.ref.injEq] at e
    obtain ⟨⟨ea, _⟩, es⟩ := e
    exact ⟨by rw [← ea, hh], r.1, by rw [← es, ← hh]⟩
theorem ints_vr {σ : Store} {h : Heap} : ∀ {vs : List Value} {ns : List Int}, IntsAre vs ns → VRs σ h (ns.map V.int) vs
  | _, _, .nil => by rw [List.map_nil, VRs]
  | _, _, .cons n t r => by rw [List.map_cons, VRs]; exact ⟨_, _, rfl, by rw [VR]; exact ⟨t, rfl⟩, ints_vr r⟩
theorem kAs_eq (P : Params) : kAs = (K0 P).map (·.1) := by kernel_rfl
theorem top_of {q : Program} {w : World} {s₀ s₁ : Shared} {mg mb : Str → Option Value} {loose : List Str} {mean : ExcName → Option Value} (y : hObs s₀ = hVal w) (T : PyProof.Rows.Top q loose mean mg mb s₁.heap) (back : ∀ b < 711, s₁.heap.get? b = s₀.heap.get? b) : Mine.Internal.Top ⟨w, s₀.heap, mg, mb, K0 w.params⟩ := by
  have hK : (K0 w.params).In s₀.heap := Frag.in_of (kAs_eq w.params) (congrArg Prod.fst y)
  have hsz : s₀.heap.objs.size = 711 := congrArg (fun x => x.2.1) y
  have nb : ∀ {a m}, a < 711 → s₁.heap.Ns a m → s₀.heap.Ns a m := fun ha n => ns_keep n fun o e => (back _ ha).symm.trans e
  obtain ⟨mc, h1, h2⟩ := T.nolimit
  obtain ⟨mc', h3, h4⟩ := T.nodigits
  refine ⟨⟨nb (by decide) T.g, nb (by decide) T.b, hK, ⟨mc, nb (by decide) h1, h2⟩, ?_, ⟨mc', nb (by decide) h3, h4⟩⟩, rfl⟩
  show ∃ o, s₀.heap.get? (s₀.heap.objs.size - 1) = some o
  rw [hsz]
  exact ⟨_, hK 710 _ rfl⟩
noncomputable abbrev LawC : Prop := ∀ {g : G} (T : Mine.Internal.Top g) {ns : List Int} {c : FC} {a : Addr}, ns.length ≤ 63 → c.sc = s_law → c.cl = [(Str.ofString "data", a)] → TSs pw g 15 c [("script", .lst (ns.map V.int))] b_law ⟨fun _ _ => V.none = V.bool true, fun v _ => v = .bool true, fun _ _ => False⟩ (fun _ => False) s0
theorem the_law_of (law : LawC) : PySem.Challenge.rw_pc0154_01.Holds := by
  w_on
  refine holds_law Mine.Internal.look_ok fun said => ?_
  refine holds_openX (d := ⟨Str.ofString "law", arg_law, b_law, s_law, ⟨604, 0, 633, 75⟩⟩) (kwd := []) (q := hq) (loose := hLoose) (Xt := fun _ => true) (XP := fun _ _ => True) (Yf := hObs) (Ya := hVal) (N := 10000) left_ok (fun _ _ => trivial) (fun _ _ _ _ _ => trivial) (by rfl) (by rfl) (by rfl) (fun s e => recFacts_of (by rfl)) (by rfl) said (by decide +kernel) ⟨rfl, rfl, rfl, rfl, rfl, by decide +kernel⟩ ?hw ?hc
  case hw => w_witness2
  intro w s₀ s₁ mg mb G y fa o pm cd doc dV kV ho hd hcd hD hmg hg args vals as L hpre hlay hrd hwl hlo
  clear hd hcd hD ho
  have hmg : mg (Str.ofString "law") = some (.ref fa) := hmg
  have TT := G.T
  clear G
  generalize hq = q at TT
  wrow_args hpre hlay hrd hwl hlo
  rename_i ns _ _ _ _ _ a2 a3 a1 vs a4 hL _ _ _ hI _ hlen _
  obtain ⟨ha, vs', hp⟩ := script_push L
  have hsz : s₀.heap.objs.size = 711 := congrArg (fun x => x.2.1) y
  have back : ∀ b < 711, s₁.heap.get? b = s₀.heap.get? b := fun b hb => by rw [hp]; exact Heap.get?_push_ne _ _ _ fun z => by rw [z, hsz] at hb; exact absurd hb (by decide)
  have T := top_of y TT back
  clear TT
  have hl : ns.length ≤ 63 := Int.ofNat_le.mp (Int.not_lt.mp hlen)
  have hfa : fa = 710 := by
    have := T.mg (x := Str.ofString "law") (r := some (.ref 710)) (by kernel_rfl)
    have := hmg.symm.trans this
    cases this; rfl
  subst hfa
  have hk : ∀ b o, s₀.heap.get? b = some o → s₁.heap.get? b = some o := fun b o e => by rw [hp]; exact Heap.get?_push_of_some _ e
  have hc : ∀ b o, s₁.heap.get? b = some o → s₀.heap.get? b = some o ∨ ∀ es n, o.data ≠ .dict es n := fun b o e => by
    rw [hp] at e
    rcases Heap.get?_push_cases e with ⟨_, rfl⟩ | e
    · exact .inr fun _ _ z => nomatch z
    · exact .inl e
  have I : Inv ⟨w, s₀.heap, mg, mb, K0 w.params⟩ s0 s₁ := ⟨hk, fun _ n => absurd rfl n, fun _ _ e => (nomatch e), hg⟩
  have rs : VRs s0 s₁.heap [.lst (ns.map V.int)] [.ref a1] := by
    refine VRs.cons'' ?_ VRs0
    rw [VR]
    exact ⟨a1, vs.toArray, rfl, rfl, ⟨_, X.script_obj L hL⟩, ints_vr hI⟩
  show wpAny (model pw w) callerA (call (.ref 710) [.ref a1] []) _ _ s₁
  refine wpAny_mono (c_top (g := ⟨w, s₀.heap, mg, mb, K0 w.params⟩) (prog := pw) T (k := 15) (Q := fun v _ => v = .bool true) (E := fun _ _ => False) (fn_law T) (ps := ["script"]) (ws := [.lst (ns.map V.int)]) (fun s us I r => ?_) (fun n => by rfl) (by decide +kernel) (by decide) ⟨by decide, by decide, rfl, rfl⟩ I ⟨hk, fun _ _ e => e, fun _ n => absurd rfl n, fun b o e => .inl e⟩ rs fun c hsc hcl => law T (a := c.L + 1) hl hsc (hcl.trans (by kernel_rfl))) (fun v s' hv => ?_) fun _ _ z => z.elim
  · obtain ⟨u0, us, rfl, r0, q0⟩ := r.cons'
    obtain rfl := q0.nil'
    exact ⟨[u0], binds_of T I fun S => by rfl, VRs.cons'' (r0) (VRs0)⟩
  · obtain ⟨u, σ', st, I', r, rfl⟩ := hv
    rw [VR] at r
    subst r
    refine ⟨.inl ⟨.bool true, .bool true, [], rfl, fun _ => rfl, .bool true, by first | rfl | wrow_post, fun _ => ⟨.nil, fun _ h => nomatch h⟩⟩, .of_keep fun b o e => ?_, st.os, .of_eq I'.gens⟩
    rcases hc b o e with q | q
    · exact I'.base b o q
    · exact st.keep b o e rfl q
end
section
section
variable {k : Nat} {c : FC} {loc : Loc} {P : Post} {Q : V → Store → Prop} {QB : Bool → Store → Prop} {X : Addr → Prop} {σ : Store}
theorem tes_cons {e : Expr} {es : List Expr} {QL : List V → Store → Prop} (h : TE prog g k c loc e (KEs prog g k c loc es QL X) X σ) : TEs prog g k c loc (e :: es) QL X σ := h
theorem tes_nil {QL : List V → Store → Prop} (h : QL [] σ) : TEs prog g k c loc [] QL X σ := h
inductive DelR (x : String) : Loc → Loc → Prop
  | nil : DelR x [] []
  | hit {v : V} {l l' : Loc} : DelR x l l' → DelR x ((x, v) :: l) l'
  | miss {y : String} {v : V} {l l' : Loc} : y ≠ x → DelR x l l' → DelR x ((y, v) :: l) ((y, v) :: l')
theorem DelR.mem {x : String} {l l' : Loc} (d : DelR x l l') : ∀ p ∈ l', p ∈ l ∧ p.1 ≠ x := by
  induction d with
  | nil => intro p h; cases h
  | hit _ ih => exact fun p h => ⟨.tail _ (ih p h).1, (ih p h).2⟩
  | miss n _ ih =>
    intro p h
    rcases List.mem_cons.mp h with rfl | h
    · exact ⟨.head _, n⟩
    · exact ⟨.tail _ (ih p h).1, (ih p h).2⟩
theorem DelR.sub {x : String} {v : V} {l l' : Loc} (d : DelR x l l') : ∀ p ∈ (x, v) :: l', p ∈ SetL x v l := fun p h => by
  rcases List.mem_cons.mp h with rfl | h
  · exact .head _
  · obtain ⟨a, b⟩ := d.mem p h
    exact .tail _ (List.mem_filter.mpr ⟨a, by simpa using b⟩)
theorem TSs.sub {loc' : Loc} {st : List Stmt} (h : TSs prog g k c loc' st P X σ) (e : ∀ p ∈ loc', p ∈ loc) : TSs prog g k c loc st P X σ := fun A envs b s W cx F => h A envs b s W cx (F.sub e)
theorem TE.sub {loc' : Loc} {e : Expr} (h : TE prog g k c loc' e Q X σ) (hs : ∀ p ∈ loc', p ∈ loc) : TE prog g k c loc e Q X σ := fun A envs b s cx F => h A envs b s cx (F.sub hs)
theorem TB.sub {loc' : Loc} {e : Expr} (h : TB prog g k c loc' e QB X σ) (hs : ∀ p ∈ loc', p ∈ loc) : TB prog g k c loc e QB X σ := fun A envs b s cx F => h A envs b s cx (F.sub hs)
theorem ss_set {x : String} {v : V} {l l' : Loc} {st : List Stmt} (d : DelR x l l') (h : TSs prog g k c ((x, v) :: l') st P X σ) : TSs prog g k c (SetL x v l) st P X σ := h.sub d.sub
theorem te_set {x : String} {v : V} {l l' : Loc} {e : Expr} (d : DelR x l l') (h : TE prog g k c ((x, v) :: l') e Q X σ) : TE prog g k c (SetL x v l) e Q X σ := h.sub d.sub
theorem tb_set {x : String} {v : V} {l l' : Loc} {e : Expr} (d : DelR x l l') (h : TB prog g k c ((x, v) :: l') e QB X σ) : TB prog g k c (SetL x v l) e QB X σ := h.sub d.sub
theorem lk_of {c : FC} {S : Scope} {x : Str} {kd : NameKind} (h : c.sc = S) (e : S.names.lookup x = some kd) : c.sc.names.lookup x = some kd := h ▸ e
theorem bq {QB : Bool → Store → Prop} {σ : Store} {b : Bool} (h : QB b σ) : BoolQ QB (.bool b) σ := h
theorem cv_app {f a : V} {bs : List V} (h : CV prog g k f (a :: bs) Q X σ) : CV prog g k f ([a] ++ bs) Q X σ := h
theorem cv_app0 {f : V} {bs : List V} (h : CV prog g k f bs Q X σ) : CV prog g k f ([] ++ bs) Q X σ := h
theorem SetL_sub {x : String} {v : V} {l l' : Loc} (h : ∀ p ∈ l, p ∈ l') : ∀ p ∈ SetL x v l, p ∈ SetL x v l' := fun p hp => by
  rcases List.mem_cons.mp hp with rfl | hp
  · exact .head _
  · obtain ⟨a, b⟩ := List.mem_filter.mp hp
    exact .tail _ (List.mem_filter.mpr ⟨h p a, b⟩)
theorem SetLs_sub : ∀ {ns : List String} {vs : List V} {l l' : Loc}, (∀ p ∈ l, p ∈ l') → ∀ p ∈ SetLs ns vs l, p ∈ SetLs ns vs l'
  | [], _, _, _, h => h
  | _ :: _, [], _, _, h => h
  | n :: ns, v :: vs, l, l', h => SetLs_sub (ns := ns) (vs := vs) (SetL_sub h)
theorem ss_sets0 {l : Loc} {vs : List V} {st : List Stmt} (h : TSs prog g k c l st P X σ) : TSs prog g k c (SetLs [] vs l) st P X σ := h
theorem ss_sets {n : String} {ns : List String} {v : V} {vs : List V} {l l' : Loc} {st : List Stmt} (d : DelR n l l') (h : TSs prog g k c (SetLs ns vs ((n, v) :: l')) st P X σ) : TSs prog g k c (SetLs (n :: ns) (v :: vs) l) st P X σ :=
  h.sub (SetLs_sub (l' := SetL n v l) d.sub)
theorem ss_rev {ns ns' : List String} {vs vs' : List V} {l : Loc} {st : List Stmt} (e : ns.reverse = ns') (e' : vs.reverse = vs') (h : TSs prog g k c (SetLs ns' vs' l) st P X σ) : TSs prog g k c (SetLs ns.reverse vs.reverse l) st P X σ := by rw [e, e']; exact h
theorem s_tupS' {es : List Expr} {ns : List String} {n : Nat} {p pos : Pos} {e : Expr} (hN : NamesOf es ns) (hl : ∀ x ∈ ns, c.sc.names.lookup (Str.ofString x) = some .local)
    (hw : swappedStores [.Tuple es n p] e c.env = pure (some (ns.map Str.ofString))) (h : TE prog g k c loc e (fun v σ₁ => ∃ vs, Unp v vs σ₁ ∧ ns.length = vs.length ∧ P.nx (SetLs ns.reverse vs.reverse loc) σ₁) X σ)
    (hs : ∀ env, swapsWithSole [.Tuple es n p] e pos.line env = pure false) : TS prog g k c loc (.Assign [.Tuple es n p] e pos) P X σ := s_tupS hl h hw hs
theorem all_local {ns : List String} {S : Scope} (hsc : c.sc = S) (h : (ns.all fun x => decide (S.names.lookup (Str.ofString x) = some .local)) = true) : ∀ x ∈ ns, c.sc.names.lookup (Str.ofString x) = some .local := fun x hx => by
  exact hsc ▸ of_decide_eq_true (List.all_eq_true.mp h x hx)
theorem swap_of {ts : List Expr} {e : Expr} {r : Sem (Option (List Str))} {S : Scope} (hsc : c.sc = S) (h : swappedStores ts e { c with sc := S }.env = r) : swappedStores ts e c.env = r := by
  cases c; cases hsc; exact h
theorem tep_none {Q : Option Int → Store → Prop} (h : Q none σ) : TEp prog g k c loc none Q X σ := h
noncomputable abbrev KY (Q : Option Int → Store → Prop) : V → Store → Prop := fun v σ => ∃ i, v = .int i ∧ Q (some i) σ
theorem tep_some {e : Expr} {Q : Option Int → Store → Prop} (h : TE prog g k c loc e (KY Q) X σ) : TEp prog g k c loc (some e) Q X σ := h
theorem ex_int {i : Int} {p : Int → Prop} (h : p i) : ∃ j, V.int i = .int j ∧ p j := ⟨i, rfl, h⟩
theorem sl_str {x : Str} {p : Str → Prop} (hl : x.length ≤ 1000000) (h : p x) : ∃ y, V.str x = .str y ∧ y.length ≤ 1000000 ∧ p y := ⟨x, rfl, hl, h⟩
theorem unp_tup {vs : List V} {n : Nat} {p : List V → Prop} (e : n = vs.length) (h : p vs) : ∃ ws, Unp (.tup vs) ws σ ∧ n = ws.length ∧ p ws := ⟨vs, .inl rfl, e, h⟩
theorem cvt2 {n : String} {v w : V} (h : ∀ A envs b s u u', Cx g k A envs b σ s → VR σ s.heap v u → VR σ s.heap w u' → wpAny (model prog g.w) A (call (.type n) [u, u']) (PV g Q σ s) (PX g X b envs σ s) s) : CV prog g k (.typ n) [v, w] Q X σ := by
  intro A envs b s u us cx ru rs
  rw [VR] at ru
  subst ru
  obtain ⟨u1, us, rfl, r1, q1⟩ := rs.cons'
  obtain ⟨u2, us, rfl, r2, q2⟩ := q1.cons'
  obtain rfl := q2.nil'
  exact h A envs b s u1 u2 cx r1 r2
theorem c_range2 {a b : Int} (h : Q (.rng a b) σ) : CV prog g k (.typ "range") [.int a, .int b] Q X σ := by
  refine cvt2 fun A envs b' s u u' cx r r' => ?_
  obtain ⟨t, rfl⟩ := r.int'
  obtain ⟨t', rfl⟩ := r'.int'
  refine PySem.call_range_2 ?_
  refine pv_heap cx.inv (by rw [Heap.size_push]; exact Nat.le_succ _) (fun b o e => Heap.get?_push_of_some _ e) (fun st => ?_) h
  rw [VR]
  exact ⟨_, _, _, _, rfl, cx.inv.fresh (Nat.le_refl _), IsRange.new ..⟩
theorem iteT {b : Bool} {p q : Prop} (hb : b = true) (h : p) : if b then p else q := by rw [if_pos hb]; exact h
theorem iteF {b : Bool} {p q : Prop} (hb : b = false) (h : q) : if b then p else q := by rw [if_neg (by rw [hb]; decide)]; exact h
theorem iteS {b : Bool} {p q : Prop} (h : b = true → p) (h' : b = false → q) : if b then p else q := by
  cases b
  · exact h' rfl
  · exact h rfl
end
end
section
noncomputable abbrev Tk := Addr × Str × Str
structure RdA where
  d : Addr
  l : Addr
  nd : Addr
  tk : List Tk
noncomputable abbrev tkO (d : Addr) (kd w : Str) : O := .inst 661 d [("kind", .str kd), ("worth", .str w), ("at", .tup [.int 0, .int 0]), ("is_in_a", .bool false)]
noncomputable abbrev rdO (R : RdA) (n : Nat) : O := .inst 631 R.d [("tokens", .ref R.l), ("at", .int n), ("named", .ref R.nd)]
structure RD (σ : Store) (r : Addr) (R : RdA) (n : Nat) (rest : List Tk) : Prop where
  self : σ r = some (rdO R n)
  list : σ R.l = some (.list (R.tk.map fun p => .ref p.1))
  tok : ∀ p ∈ R.tk, ∃ d, σ p.1 = some (tkO d p.2.1 p.2.2)
  rest : rest = R.tk.drop n
  le : n ≤ R.tk.length
  len : R.tk.length ≤ 900
noncomputable def pk (rest : List Tk) (j : Nat) : V := match rest[j]? with
  | some p => .ref p.1
  | none => .none
end
section
/-! the step lines. `stp "e_loc M_R;.."` is a `first` over lemmas; each sign of a pattern is an argument of the lemma: `_` the goal that stays, T, A terms, else a goal that is closed by the line of `clo` with that sign.
A line of `clo` is a tactic, written in postfix: x exact, X refine, p apply, | first, + one after the other, * repeat, ! with_reducible, ^ with_unfolding_all, b a term by a tactic, @n an application to n terms; r, a, d, k, l, s, f, in, kr, z, v, y, t small tactics; else a name -/
def nd (k : String) (xs : List Lean.Syntax) : Lean.Syntax := .node .none k.toName xs.toArray
def tc (k : String) (a : String) (xs : List Lean.Syntax) : Lean.Syntax := nd ("Lean.Parser." ++ k) (.atom .none a :: xs)
def sq (xs : List Lean.Syntax) : Lean.Syntax := nd "Lean.Parser.Tactic.tacticSeq" [nd "Lean.Parser.Tactic.tacticSeq1Indented" [nd "null" xs]]
def apN (f : Lean.Syntax) (xs : List Lean.Syntax) : Lean.Syntax := nd "Lean.Parser.Term.app" [f, nd "null" xs]
def pst (qs : List (String × Lean.Syntax)) (s : List Lean.Syntax) (t : String) : List Lean.Syntax :=
  let a := s.headD .missing
  let r := s.tail
  let b := r.headD .missing
  let c : Lean.Syntax := nd "Lean.Parser.Tactic.optConfig" [nd "null" []]
  match t with
  | "x" => tc "Tactic.exact" "exact" [a] :: r
  | "X" => tc "Tactic.refine" "refine" [a] :: r
  | "p" => tc "Tactic.apply" "apply" [a] :: r
  | "|" => tc "Tactic.first" "first" [nd "null" [nd "group" [.atom .none "|", sq [b]], nd "group" [.atom .none "|", sq [a]]]] :: r.tail
  | "+" => tc "Tactic.paren" "(" [sq [b, .atom .none ";", a], .atom .none ")"] :: r.tail
  | "*" => tc "Tactic.tacticRepeat_" "repeat" [sq [a]] :: r
  | "!" => tc "Tactic.withReducible" "with_reducible" [sq [a]] :: r
  | "^" => tc "Tactic.withUnfoldingAll" "with_unfolding_all" [sq [a]] :: r
  | "b" => tc "Term.byTactic" "by" [sq [a]] :: r
  | "@1" => apN b [a] :: r.tail
  | "@2" => apN (r.tail.headD .missing) [b, a] :: r.tail.tail
  | "r" => tc "Tactic.tacticRfl" "rfl" [] :: s
  | "a" => tc "Tactic.assumption" "assumption" [] :: s
  | "d" => tc "Tactic.decide" "decide" [c] :: s
  | "l" => tc "Tactic.lia" "lia" [c] :: s
  | "s" => tc "Tactic.simp" "simp" [c, nd "null" [], nd "null" [], nd "null" [], nd "null" []] :: s
  | "f" => tc "Tactic.done" "done" [] :: s
  | "kr" => nd "tacticKernel_rfl" [.atom .none "kernel_rfl"] :: s
  | "_" => tc "Term.hole" "_" [] :: s
  | "?" => tc "Term.syntheticHole" "?" [.atom .none "_"] :: s
  | ".." => tc "Term.ellipsis" ".." [] :: s
  | _ => (match qs.lookup t with | some q => q | none => Lean.mkIdent t.toName) :: s
def rpn (qs : List (String × Lean.Syntax)) (ts : List String) : Lean.Syntax := (ts.foldl (pst qs) []).headD .missing
def clo : List (List String) := ("R r;X rfl x;a a;w a !;D d;k k;J in r +;I in in + r +;W r ^;Z z;V v;K lk_of a b rfl @2 x;F all_local a b rfl @2 x;Y swap_of a b rfl @2 x;G ga_of a b kr b @2 x;E me_of a b List.Mem.head _ @1 x List.Mem.tail _ ? @2 X | * b @2 x;N nm_of a b List.Mem.head _ @1 x List.Mem.tail _ ? @2 X | * b @2 x nm_RESERVED a b @1 x |;P Kp.bi x Kp.typ x | kp_of a b kr b @2 x | !;Q Nat.le_of_ble_eq_true rfl @1 x;S a Nat.le_of_ble_eq_true rfl @1 x |;n a l |;d a d |;p a s l + |;e d s f + | s l + | l |;r s f +;g kr;B a r ! | y | d |;O a RD.self a b @1 x | upd_self .. @1 x ! |;U DelR.nil x DelR.hit p | DelR.miss p d + | *;H NamesOf.nil x NamesOf.cons p | *;q Or.inl rfl @1 x Or.inr Exists.intro _ And.intro rfl a b @2 @2 @1 x |;L Or.inl rfl @1 x Or.inr Exists.intro _ And.intro rfl a b @2 @2 @1 x | Or.inr Exists.intro _ And.intro rfl RD.list a b @1 @2 @2 @1 x | Or.inr Exists.intro _ And.intro rfl upd_self .. @1 @2 @2 @1 x |;l d t | s l + |;s PySem.F.slot_str_split x PySem.F.slot_str_strip x | PySem.F.slot_str_join x | PySem.F.slot_str_index x | !;t PySem.F.type_str_split x PySem.F.type_str_strip x | PySem.F.type_str_join x | PySem.F.type_str_index x | !;u PySem.F.slot_list_append x PySem.F.slot_list_pop x | !;v PySem.F.type_list_append x PySem.F.type_list_pop x | !;M m0 x m1 x | m2 x | m3 x | m4 x | m5 x | m6 x | m7 x | m8 x | m9 x |".splitOn ";").map (·.splitOn " ")
def row (qs : List (String × Lean.Syntax)) (sc : Lean.Name → Lean.Name) (s : String) : Lean.Syntax :=
  let f := (s.splitOn " ").headD ""
  let go := ((s.splitOn " ").getLastD "").toList.foldl (fun (p : List Lean.Syntax × List Lean.Syntax) c =>
    let t := c.toString
    match t with
    | "_" => (rpn qs ["?"] :: p.1, p.2)
    | "T" => (rpn qs ["Top.ok", "a", "b", "@1"] :: p.1, p.2)
    | "A" => (rpn qs ["a", "b"] :: p.1, p.2)
    | _ =>
      let i : Lean.Syntax := Lean.mkIdent (sc (Lean.Name.mkSimple ("a" ++ toString p.1.length)))
      (tc "Term.syntheticHole" "?" [i] :: p.1, tc "Tactic.case" "case" [nd "null" [nd "Lean.Parser.Tactic.caseArg" [nd "Lean.binderIdent" [i], nd "null" []]], .atom .none "=>",
        sq [rpn qs (((clo.find? fun l => l.headD "" == t).getD []).drop 1)]] :: p.2)) ([], [])
  let e := apN (Lean.mkIdent f.toName) go.1.reverse
  let w := fun t => tc "Tactic.withReducible" "with_reducible" [sq [t]]
  match go.2 with
  | [] => w (tc "Tactic.refine" "refine" [e])
  | ts => ts.foldr (fun t a => tc "Tactic.paren" "(" [sq [a, .atom .none ";", t], .atom .none ")"]) (w (tc "Tactic.refine'" "refine'" [e]))
def stp (s : String) : Lean.MacroM (Lean.TSyntax `tactic) := do
  let m ← Lean.MonadQuotation.getContext
  let c ← Lean.MonadQuotation.getCurrMacroScope
  let qs := [("k", (← `(tactic| decide +kernel)).raw), ("in", (← `(tactic| intro _)).raw), ("z", (← `(tactic| (intro _ z; cases z))).raw), ("v", (← `(tactic| (simp only [List.reverse_cons, List.reverse_nil, List.nil_append, List.cons_append]; rfl))).raw),
    ("y", (← `(tactic| (simp only [isNone, Bool.not_true, Bool.not_false]; done))).raw), ("t", (← `(tactic| (have hLen := RD.len (by assumption); simp only [List.length_map]; lia))).raw)]
  match (s.splitOn ";").map (row qs (Lean.addMacroScope m · c)) with
  | [] => `(tactic| fail)
  | t :: ts => return ⟨ts.foldl (fun a b => (pst [] [b, a] "|").headD .missing) t⟩
end
local macro_rules | `(tactic| k_caught0) => stp "ss_rev VV_;ss_sets0 _;ss_sets U_;ss_set U_;ss_nil _;ss_cons _;s_ret _;s_if _;s_pass _;s_assign K_J;s_expr _Jg;tes_cons _;cv_app _;cv_app0 _;tes_nil _;e_none _;e_bool _;e_int _;e_str _;e_bytes _;e_loc M_R;e_glob TNK_R;e_bin _;e_un _;e_cmp _W;e_attr _I;e_ite _;e_and _;e_or _;iteT B_;iteF B_;e_tuple R_;e_call R_;e_meth RDR_I;e_slice _;tep_none _;tep_some _;ex_int _;sl_str S_;e_sub _;t_not _;t_cmp _W;t_chain _W;t_and3 _;t_and _;t_or _;t_of _I;o_attr TORGZ_;o_meth TORE_;And.intro P_;And.intro Q_;c_min _;unp_tup X_;c_range _;c_range2 _;c_lenS S_;s_tupS' HFY_J;s_tup HF_YJ;s_for _I;s_raise A_;i_lst ILlw_;m_str st_;m_list Luv_;c_split Dp_;gm_exc A_;o_add _;o_sub _;o_lt _;o_le _;o_gt _;o_ge _;o_eqi _;o_nei _;o_neb _;o_eqb _;o_eqs _;o_nes _;bq _;c_len Ll_;u_lst Ll_;o_is _;o_isnt _;u_bool _;u_none _"
section
section
variable {k : Nat} {c : FC} {loc : Loc} {Q : V → Store → Prop} {QL : List V → Store → Prop} {X : Addr → Prop} {σ : Store} {x y : String} {p1 p2 p : Pos} {a C d f : Addr} {fs : List (String × V)} {v : V} {es : List Expr}
theorem e_attrL (G₀ : GOk g) (mm : (x, .ref a) ∈ loc) (hd : (Str.ofString x == ("__debug__" : Str)) = false) (h1 : σ a = some (.inst C d fs)) (h2 : fs.lookup y = some v) (h3 : getOk g.K C (Str.ofString y) = true) (h4 : ∀ n, v ≠ .bi n) (hb : ∀ env w, attributeBase (.Name (Str.ofString x) p1) (Str.ofString y) env w = w) (h : Q v σ) :
    TE prog g k c loc (.Attribute (.Name (Str.ofString x) p1) (Str.ofString y) p2) Q X σ := e_attr (e_loc mm (o_attr G₀ h1 h2 h3 h4 h) hd) hb
theorem e_methL (G₀ : GOk g) (mm : (x, .ref a) ∈ loc) (hd : (Str.ofString x == ("__debug__" : Str)) = false) (h1 : σ a = some (.inst C d fs)) (h2 : fs.lookup y = none) (h3 : methOk g.K C (Str.ofString y) f = true) (kp : Kp g (.ref f)) (hs : es.all (fun e => !isStarred e) = true) (hl : es.length < 30) (hp : (p2.endLine == p.line) = true)
    (hb : ∀ env w, attributeBase (.Name (Str.ofString x) p1) (Str.ofString y) env w = w) (h : TEs prog g k c loc es (KO prog g k Q X f a) X σ) :
    TE prog g k c loc (.Call (.Attribute (.Name (Str.ofString x) p1) (Str.ofString y) p2) es [] p) Q X σ := e_meth hs hl hp (e_loc mm (o_meth G₀ h1 h2 h3 ⟨kp, h⟩) hd) hb
theorem e_callG (G₀ : GOk g) (nm : Nm g x v) (hk : c.sc.names.lookup (Str.ofString x) = some .globalImplicit) (hd : (Str.ofString x == ("__debug__" : Str)) = false) (kp : Kp g v) (hs : es.all (fun e => !isStarred e) = true) (h : TEs prog g k c loc es (KF prog g k Q X v) X σ) :
    TE prog g k c loc (.Call (.Name (Str.ofString x) p1) es [] p) Q X σ := e_call hs (e_glob G₀ nm hk ⟨kp, h⟩ hd)
theorem tes_L (mm : (x, v) ∈ loc) (hd : (Str.ofString x == ("__debug__" : Str)) = false) (h : TEs prog g k c loc es (KS QL v) X σ) : TEs prog g k c loc (.Name (Str.ofString x) p :: es) QL X σ := tes_cons (e_loc mm h hd)
theorem tes_L1 (mm : (x, v) ∈ loc) (hd : (Str.ofString x == ("__debug__" : Str)) = false) (h : QL [v] σ) : TEs prog g k c loc [.Name (Str.ofString x) p] QL X σ := tes_cons (e_loc mm h hd)
theorem tes_S1 {n : Nat} {z : Str} (h : QL [.str z] σ) : TEs prog g k c loc [.Constant (.str z) n p] QL X σ := tes_cons (e_str h)
theorem tes_I1 {n : Nat} {i : Int} (h : QL [.int i] σ) : TEs prog g k c loc [.Constant (.int i) n p] QL X σ := tes_cons (e_int h)
theorem tes_S {n : Nat} {z : Str} (h : TEs prog g k c loc es (KS QL (.str z)) X σ) : TEs prog g k c loc (.Constant (.str z) n p :: es) QL X σ := tes_cons (e_str h)
end
end
local macro_rules | `(tactic| k_caught0) => stp "e_attrL TMRORGZI_;e_methL TMROREPRDRI_;e_callG TNKRPR_;tes_L1 MR_;tes_L MR_;tes_S1 _;tes_I1 _;tes_S _"
section
end
local macro_rules | `(tactic| k_caughtB) => `(tactic| ((repeat k_caught0); (with_reducible refine' s_setattr (Top.ok (by assumption)) ?_ ?hs); (case hs => (intro _; rfl)); (repeat k_caught0)))
section
end
section
noncomputable def Ext (D : List Addr) (σ σ' : Store) : Prop := ∀ a, σ a ≠ none → a ∉ D → σ' a = σ a
theorem Ext.refl (D : List Addr) (σ : Store) : Ext D σ σ := fun _ _ _ => rfl
theorem Ext.trans {D : List Addr} {σ₁ σ₂ σ₃ : Store} (x : Ext D σ₁ σ₂) (y : Ext D σ₂ σ₃) : Ext D σ₁ σ₃ := fun a n m => (y a (by rw [x a n m]; exact n) m).trans (x a n m)
theorem Ext.get {D : List Addr} {σ σ' : Store} (x : Ext D σ σ') {a : Addr} {o : O} (h : σ a = some o) (n : a ∉ D) : σ' a = some o := (x a (by rw [h]; intro z; cases z) n).trans h
theorem Ext.mono {D D' : List Addr} {σ σ' : Store} (x : Ext D σ σ') (h : ∀ a ∈ D, a ∈ D') : Ext D' σ σ' := fun a n m => x a n fun z => m (h a z)
theorem Ext.of_same {D : List Addr} {σ σ' : Store} (x : Same σ σ') : Ext D σ σ' := fun a n _ => x a n
theorem Ext.same {σ σ' : Store} (x : Ext [] σ σ') : Same σ σ' := fun a n => x a n (by simp)
theorem Ext.upd_new {D : List Addr} {σ σ' : Store} (x : Ext D σ σ') {a : Addr} {o : O} (n : σ a = none) : Ext D σ (upd σ' a o) := fun b h m => (upd_ne fun (z : b = a) => h (by rw [z]; exact n)).trans (x b h m)
theorem Ext.upd_in {D : List Addr} {σ σ' : Store} (x : Ext D σ σ') {a : Addr} {o : O} (n : a ∈ D) : Ext D σ (upd σ' a o) := fun b h m => (upd_ne fun (z : b = a) => m (by rw [z]; exact n)).trans (x b h m)
theorem Ext.fresh {D : List Addr} {σ₁ σ₂ : Store} (x : Ext D σ₁ σ₂) {a : Addr} (n : σ₂ a = none) (hd : ∀ d ∈ D, σ₂ d ≠ none) : σ₁ a = none := by
  cases q : σ₁ a with
  | none => rfl
  | some o =>
    by_cases m : a ∈ D
    · exact absurd n (hd a m)
    · rw [x.get q m] at n; cases n
section
variable {k : Nat} {Q : V → Store → Prop} {X : Addr → Prop} {σ : Store} {r : Addr} {R : RdA} {n : Nat} {rest : List Tk}
theorem RD.ne (hR : RD σ r R n rest) : R.l ≠ r ∧ ∀ p ∈ R.tk, p.1 ≠ r ∧ p.1 ≠ R.l := by
  refine ⟨fun z => ?_, fun p hp => ?_⟩
  · have := hR.list; rw [z, hR.self] at this; cases this
  · obtain ⟨d, hd⟩ := hR.tok p hp
    refine ⟨fun z => ?_, fun z => ?_⟩
    · rw [z, hR.self] at hd; injection hd with hd; injection hd with hd; exact absurd hd (by decide)
    · rw [z, hR.list] at hd; cases hd
theorem RD.ext {σ' : Store} {D : List Addr} (hR : RD σ r R n rest) (e : Ext D σ σ') (hr : r ∉ D) (hl : R.l ∉ D) (ht : ∀ p ∈ R.tk, p.1 ∉ D) : RD σ' r R n rest :=
  ⟨e.get hR.self hr, e.get hR.list hl, fun p hp => let ⟨d, hd⟩ := hR.tok p hp; ⟨d, e.get hd (ht p hp)⟩, hR.rest, hR.le, hR.len⟩
theorem RD.same {σ' : Store} (hR : RD σ r R n rest) (e : Same σ σ') : RD σ' r R n rest := hR.ext (D := []) (Ext.of_same e) (by simp) (by simp) (fun _ _ => by simp)
theorem RD.moved {σ' : Store} {m : Nat} (hR : RD σ r R n rest) (e : Ext [r] σ σ') (hs : σ' r = some (rdO R m)) (hm : m ≤ R.tk.length) : RD σ' r R m (R.tk.drop m) :=
  ⟨hs, e.get hR.list (by simp [hR.ne.1]), fun p hp => let ⟨d, hd⟩ := hR.tok p hp; ⟨d, e.get hd (by simp [(hR.ne.2 p hp).1])⟩, rfl, hm, hR.len⟩
theorem RD.upd_new {i : Addr} {o : O} {σ₀ : Store} {n₀ : Nat} {rest₀ : List Tk} (hR : RD σ r R n rest) (hR₀ : RD σ₀ r R n₀ rest₀) (h : σ₀ i = none) : RD (upd σ i o) r R n rest := by
  have ne : ∀ {a : Addr} {x : O}, σ₀ a = some x → a ≠ i := fun e z => by rw [z, h] at e; cases e
  exact ⟨(upd_ne (ne hR₀.self)).trans hR.self, (upd_ne (ne hR₀.list)).trans hR.list, fun p hp => by
    obtain ⟨d₀, hd₀⟩ := hR₀.tok p hp
    obtain ⟨d, hd⟩ := hR.tok p hp
    exact ⟨d, (upd_ne (ne hd₀)).trans hd⟩, hR.rest, hR.le, hR.len⟩
theorem RD.mem (hR : RD σ r R n rest) {j : Nat} {p : Tk} (h : rest[j]? = some p) : p ∈ R.tk := by
  rw [hR.rest] at h
  exact List.mem_of_mem_drop (List.mem_iff_getElem?.mpr ⟨j, h⟩)
theorem RD.rlen (hR : RD σ r R n rest) : rest.length = R.tk.length - n := by rw [hR.rest, List.length_drop]
theorem pk_at (hR : RD σ r R n rest) {j : Nat} (h : n + j < R.tk.length) : ∃ p, rest[j]? = some p ∧ R.tk[n + j]? = some p := by
  rw [hR.rest, List.getElem?_drop]
  exact ⟨_, List.getElem?_eq_getElem h, List.getElem?_eq_getElem h⟩
theorem c_peek (T : Top g) {i : Int} (hR : RD σ r R n rest) (hi : 0 ≤ i) (h : Q (pk rest i.toNat) σ) : CV prog g (k + 1) (.ref 485) [.ref r, .int i] Q X σ := by
  refine CF.cv (call_Reader_peek_2 T fun c hsc hcl => ?_)
  conv => arg 6; whnf
  repeat k_caught0
  refine iteS (fun hb => ?_) fun hb => ?_
  · have hb : n + i.toNat < R.tk.length := by have := of_decide_eq_true hb; simp only [List.length_map] at this; lia
    obtain ⟨p, hp, hp'⟩ := pk_at hR hb
    repeat k_caught0
    refine i_lst (v := .ref p.1) (vs := R.tk.map fun p => .ref p.1) (fun _ _ => rfl) (.inr ⟨_, rfl, hR.list⟩) (by have := hR.len; simp only [List.length_map]; lia) ⟨?_, ?_⟩ ?_
    · rw [if_neg (by lia), show (↑n + i).toNat = n + i.toNat by lia, List.getElem?_map, hp']; rfl
    · lia
    · unfold pk at h; rw [hp] at h; exact h
  · have hb : ¬ n + i.toNat < R.tk.length := by have := of_decide_eq_false hb; simp only [List.length_map] at this; lia
    have hp : rest[i.toNat]? = none := by rw [hR.rest, List.getElem?_drop]; exact List.getElem?_eq_none (by lia)
    repeat k_caught0
    unfold pk at h; rw [hp] at h; exact h
theorem c_peek0 (T : Top g) (hR : RD σ r R n rest) (h : Q (pk rest 0) σ) : CV prog g (k + 1) (.ref 485) [.ref r] Q X σ := by
  refine CF.cv (call_Reader_peek_1 T fun c hsc hcl => ?_)
  have := c_peek (prog := prog) (k := k) (Q := Q) (X := X) T (i := 0) hR (by lia) h
  conv => arg 6; whnf
  repeat k_caught0
  refine iteS (fun hb => ?_) fun hb => ?_
  · have hb : n + 0 < R.tk.length := by have := of_decide_eq_true hb; simp only [List.length_map] at this; lia
    obtain ⟨p, hp, hp'⟩ := pk_at hR hb
    repeat k_caught0
    refine i_lst (v := .ref p.1) (vs := R.tk.map fun p => .ref p.1) (fun _ _ => rfl) (.inr ⟨_, rfl, hR.list⟩) (by have := hR.len; simp only [List.length_map]; lia) ⟨?_, ?_⟩ ?_
    · rw [if_neg (by lia), show ((↑n : Int) + 0).toNat = n + 0 by lia, List.getElem?_map, hp']; rfl
    · lia
    · unfold pk at h; rw [hp] at h; exact h
  · have hb : ¬ n + 0 < R.tk.length := by have := of_decide_eq_false hb; simp only [List.length_map] at this; lia
    have hp : rest[0]? = none := by rw [hR.rest, List.getElem?_drop]; exact List.getElem?_eq_none (by lia)
    repeat k_caught0
    unfold pk at h; rw [hp] at h; exact h
theorem c_is_done (T : Top g) (hR : RD σ r R n rest) (h : Q (.bool rest.isEmpty) σ) : CV prog g (k + 1) (.ref 492) [.ref r] Q X σ := by
  refine CF.cv (call_Reader_is_done_1 T fun c hsc hcl => ?_)
  conv => arg 6; whnf
  repeat k_caught0
  have : decide ((n : Int) ≥ ↑(List.map (fun p => V.ref p.fst) R.tk).length) = rest.isEmpty := by
    rw [hR.rest, List.length_map, Bool.eq_iff_iff, decide_eq_true_eq, List.isEmpty_iff, List.drop_eq_nil_iff]
    lia
  rw [this]
  exact h
end
end
section
section
variable {k : Nat} {Q : V → Store → Prop} {X : Addr → Prop} {σ : Store} {r : Addr} {R : RdA} {n : Nat} {rest : List Tk}
theorem c_gf (T : Top g) {w a : V} (h : ∀ e d σ', σ e = none → σ' e = some (.exc 84 (some d)) → Same σ σ' → Q (.ref e) σ') : CV prog g (k + 2) (.ref 84) [w, a] Q X σ := by
  refine CF.cv (c_exc T (by simp) fun e he => call_LedgerError_init_3 T fun c hsc hcl => ?_)
  conv => arg 6; whnf
  repeat k_caught0
  refine c_excinit T (upd_self ..) ?_
  repeat k_caught0
  refine s_setattr_exc T ea_what ?_ (by intro _; rfl)
  repeat k_caught0
  refine ⟨e, rfl, .inl ⟨upd_self .., fun d hd => ?_⟩⟩
  repeat k_caught0
  refine s_setattr_exc T ea_at ?_ (by intro _; rfl)
  repeat k_caught0
  have nde : e ≠ d := fun z => by rw [z, upd_self] at hd; cases hd
  refine ⟨e, rfl, .inr ⟨d, 1, by rw [upd_ne nde, upd_self], upd_self .., by decide, ?_⟩⟩
  repeat k_caught0
  refine ⟨rfl, h e d _ he (by rw [upd_ne nde, upd_ne nde, upd_self]) ?_⟩
  have fd : σ d = none := by rw [upd_ne nde.symm] at hd; exact hd
  exact (((((Same.refl σ).upd he).upd he).upd fd).upd fd)
theorem c_fault (T : Top g) {w : V} (hR : RD σ r R n rest) (h : ∀ e d σ', σ e = none → σ' e = some (.exc 84 (some d)) → Same σ σ' → Q (.ref e) σ') : CV prog g (k + 3) (.ref 499) [.ref r, w] Q X σ := by
  refine CF.cv (call_Reader_fault_2 T fun c hsc hcl => ?_)
  conv => arg 6; whnf
  repeat k_caught0
  refine iteS (fun hb => ?_) fun hb => ?_
  · repeat k_caught0
    exact (c_gf T h)
  · repeat k_caught0
    have ne : 0 < R.tk.length := by
      rw [Bool.not_not] at hb
      cases q : R.tk with
      | nil => rw [q] at hb; cases hb
      | cons a l => simp
    obtain ⟨j, hj, e⟩ : ∃ j : Nat, j < R.tk.length ∧ (if ((R.tk.map fun p => V.ref p.1).length : Int) - 1 < n then ((R.tk.map fun p => V.ref p.1).length : Int) - 1 else n) = j := by
      rw [List.length_map]
      by_cases q : (R.tk.length : Int) - 1 < n
      · exact ⟨R.tk.length - 1, by lia, by rw [if_pos q]; lia⟩
      · exact ⟨n, by lia, by rw [if_neg q]⟩
    rw [e]
    have hp : R.tk[j]? = some R.tk[j] := List.getElem?_eq_getElem hj
    obtain ⟨d, hd⟩ := hR.tok R.tk[j] (List.getElem_mem hj)
    have ha : At (R.tk.map fun p => V.ref p.1) j (.ref R.tk[j].1) := ⟨by rw [if_neg (by lia), show (j : Int).toNat = j from rfl, List.getElem?_map, hp]; rfl, by lia⟩
    repeat k_caught0
    exact (c_gf T h)
end
end
section
noncomputable def pKind (rest : List Tk) (j : Nat) (kd : Str) : Bool := match rest[j]? with
  | some p => p.2.1 == kd
  | none => false
noncomputable def pWd (rest : List Tk) (j : Nat) (kd w : Str) : Bool := match rest[j]? with
  | some p => p.2.1 == kd && p.2.2 == w
  | none => false
section
variable {k : Nat} {c : FC} {Q : V → Store → Prop} {X : Addr → Prop} {σ : Store} {r : Addr} {R : RdA} {n : Nat} {rest : List Tk}
end
end
local macro_rules | `(tactic| k_caught0) => stp "c_peek0 Aa_;c_peek Aan_;c_is_done Aa_"
section
section
variable {k : Nat} {c : FC} {Q : V → Store → Prop} {X : Addr → Prop} {σ : Store} {r : Addr} {R : RdA} {n : Nat} {rest : List Tk}
theorem b_is_kind (T : Top g) {i : Int} {kd : Str} (hsc : c.sc = s_Reader_is_kind) (hR : RD σ r R n rest) (hi : 0 ≤ i) (h : Q (.bool (pKind rest i.toNat kd)) σ) :
    TSs prog g (k + 1) c [("self", .ref r), ("kind", .str kd), ("ahead", .int i)] b_Reader_is_kind ⟨fun _ σ' => Q .none σ', Q, fun _ _ => False⟩ X σ := by
  conv => arg 6; whnf
  repeat k_caught0
  unfold pk
  unfold pKind at h
  cases hp : rest[i.toNat]? with
  | none => rw [hp] at h; repeat k_caught0
            exact h
  | some p =>
    rw [hp] at h
    obtain ⟨d, hd⟩ := hR.tok p (hR.mem hp)
    repeat k_caught0
    exact h
theorem c_is_kind (T : Top g) {i : Int} {kd : Str} (hR : RD σ r R n rest) (hi : 0 ≤ i) (h : Q (.bool (pKind rest i.toNat kd)) σ) : CV prog g (k + 2) (.ref 514) [.ref r, .str kd, .int i] Q X σ :=
  CF.cv (call_Reader_is_kind_3 T fun c hsc _ => b_is_kind T hsc hR hi h)
theorem c_is_kind0 (T : Top g) {kd : Str} (hR : RD σ r R n rest) (h : Q (.bool (pKind rest 0 kd)) σ) : CV prog g (k + 2) (.ref 514) [.ref r, .str kd] Q X σ :=
  CF.cv (call_Reader_is_kind_2 T fun c hsc _ => b_is_kind T hsc hR (Int.le_refl 0) h)
end
end
local macro_rules | `(tactic| k_caught0) => stp "c_is_kind0 Aa_;c_is_kind Aan_"
section
section
variable {k : Nat} {c : FC} {Q : V → Store → Prop} {X : Addr → Prop} {σ : Store} {r : Addr} {R : RdA} {n : Nat} {rest : List Tk}
theorem b_is_sign (T : Top g) {i : Int} {w : Str} (hsc : c.sc = s_Reader_is_sign) (hR : RD σ r R n rest) (hi : 0 ≤ i) (h : Q (.bool (pWd rest i.toNat (Str.ofString "sign") w)) σ) :
    TSs prog g (k + 2) c [("self", .ref r), ("sign", .str w), ("ahead", .int i)] b_Reader_is_sign ⟨fun _ σ' => Q .none σ', Q, fun _ _ => False⟩ X σ := by
  conv => arg 6; whnf
  repeat k_caught0
  unfold pWd at h
  unfold pKind
  cases hp : rest[i.toNat]? with
  | none => rw [hp] at h; repeat k_caught0
            exact h
  | some p =>
    rw [hp] at h
    obtain ⟨d, hd⟩ := hR.tok p (hR.mem hp)
    refine iteS (fun hb => ?_) fun hb => ?_
    · dsimp only at hb h
      repeat k_caught0
      rw [hb, Bool.true_and] at h
      unfold pk; rw [hp]
      repeat k_caught0
      exact h
    · dsimp only at hb h
      rw [hb, Bool.false_and] at h
      show Q (.bool (p.2.1 == Str.ofString "sign")) σ
      rw [hb]
      exact h
theorem c_is_sign (T : Top g) {i : Int} {w : Str} (hR : RD σ r R n rest) (hi : 0 ≤ i) (h : Q (.bool (pWd rest i.toNat (Str.ofString "sign") w)) σ) : CV prog g (k + 3) (.ref 579) [.ref r, .str w, .int i] Q X σ :=
  CF.cv (call_Reader_is_sign_3 T fun c hsc _ => b_is_sign T hsc hR hi h)
theorem c_is_sign0 (T : Top g) {w : Str} (hR : RD σ r R n rest) (h : Q (.bool (pWd rest 0 (Str.ofString "sign") w)) σ) : CV prog g (k + 3) (.ref 579) [.ref r, .str w] Q X σ :=
  CF.cv (call_Reader_is_sign_2 T fun c hsc _ => b_is_sign T hsc hR (Int.le_refl 0) h)
end
end
local macro_rules | `(tactic| k_caught0) => stp "c_is_sign0 Aa_;c_is_sign Aan_"
section
section
variable {k : Nat} {c : FC} {Q : V → Store → Prop} {X : Addr → Prop} {σ : Store} {r : Addr} {R : RdA} {n : Nat} {rest : List Tk}
noncomputable def pWords : List Tk → List Str → Bool
  | _, [] => true
  | rest, w :: ws => pWd rest 0 (Str.ofString "word") w && pWords (rest.drop 1) ws
theorem pWd_drop (rest : List Tk) (m j : Nat) (kd w : Str) : pWd (rest.drop m) j kd w = pWd rest (m + j) kd w := by unfold pWd; rw [List.getElem?_drop]
theorem c_is_word (T : Top g) {ws : Str} (hR : RD σ r R n rest) (hl : ws.length ≤ 1000000) (h : Q (.bool (pWords rest (Txt.split ws (Str.ofString " ")))) σ) : CV prog g (k + 3) (.ref 521) [.ref r, .str ws] Q X σ := by
  refine CF.cv (call_Reader_is_word_2 T fun c hsc hcl => ?_)
  conv => arg 6; whnf
  repeat k_caught0
  refine ⟨_, [], Src.lst T.ok, ?_⟩
  revert h
  suffices H : ∀ (l : List Str) (m : Nat) (loc : Loc), (∀ p ∈ [("ahead", V.int m), ("self", V.ref r)], p ∈ loc) → Q (.bool (pWords (rest.drop m) l)) σ →
      ForL prog g (k + 2) c _ _ _ X [] (l.map V.str) loc σ from fun h => H _ 0 _ (by simp) h
  intro l
  induction l with
  | nil =>
    intro m loc hs h
    refine TSs.sub ?_ hs
    repeat k_caught0
    exact h
  | cons w l ih =>
    intro m loc hs h
    refine ta_name (lk_of hsc rfl) ?_
    refine TSs.sub (loc' := [("word", V.str w), ("ahead", V.int m), ("self", V.ref r)]) ?_ ?_
    · repeat k_caught0
      rw [pWords, pWd_drop, pWd, Nat.add_zero] at h
      have tn : ((m : Int)).toNat = m := rfl
      cases hp : rest[m]? with
      | none =>
        rw [hp] at h
        refine iteT (by rw [tn, pKind, hp]; rfl) ?_
        repeat k_caught0
        exact h
      | some p =>
        obtain ⟨d, hd⟩ := hR.tok p (hR.mem hp)
        rw [hp] at h
        dsimp only at h
        cases hk : p.2.1 == Str.ofString "word" with
        | false =>
          rw [hk] at h
          refine iteT (by rw [tn, pKind, hp]; dsimp only; rw [hk]; rfl) ?_
          repeat k_caught0
          exact h
        | true =>
          rw [hk, Bool.true_and] at h
          refine iteF (by rw [tn, pKind, hp]; dsimp only; rw [hk]; rfl) ?_
          repeat k_caught0
          unfold pk
          rw [tn, hp]
          repeat k_caught0
          cases hw : p.2.2 == w with
          | false =>
            rw [hw] at h
            refine iteT (by simp [bne, hw]) ?_
            repeat k_caught0
            exact h
          | true =>
            rw [hw, Bool.true_and, List.drop_drop] at h
            refine iteF (by simp [bne, hw]) ?_
            repeat k_caught0
            exact ⟨by simp, ih (m + 1) _ (by simp) h⟩
    · intro p hp
      rcases List.mem_cons.mp hp with rfl | hp
      · exact .head _
      · refine .tail _ (List.mem_filter.mpr ⟨hs p hp, ?_⟩)
        simp only [List.mem_cons, List.not_mem_nil, or_false] at hp
        rcases hp with rfl | rfl <;> simp
end
end
section
section
variable {k : Nat} {c : FC} {Q : V → Store → Prop} {X : Addr → Prop} {σ : Store} {r : Addr} {R : RdA} {n : Nat} {rest : List Tk}
end
end
local macro_rules | `(tactic| k_caught0) => stp "c_is_word Aad_"
section
section
variable {k : Nat} {c : FC} {Q : V → Store → Prop} {X : Addr → Prop} {σ : Store} {r : Addr} {R : RdA} {n : Nat} {rest : List Tk}
theorem fset_at {a b d v : V} : fset [("tokens", a), ("at", b), ("named", d)] "at" v = [("tokens", a), ("at", v), ("named", d)] := by simp [fset]
theorem pWords_len : ∀ (l : List Str) (rest : List Tk), pWords rest l = true → l.length ≤ rest.length
  | [], _, _ => Nat.zero_le _
  | w :: l, rest, h => by
    rw [pWords, Bool.and_eq_true] at h
    have := pWords_len l _ h.2
    cases rest with
    | nil => simp [pWd] at h
    | cons p rest => simpa using this
theorem RD.go (hR : RD σ r R n rest) {m : Nat} (hm : m ≤ rest.length) : RD (upd σ r (rdO R (n + m))) r R (n + m) (rest.drop m) ∧ Ext [r] σ (upd σ r (rdO R (n + m))) := by
  have e : Ext [r] σ (upd σ r (rdO R (n + m))) := (Ext.refl _ σ).upd_in (List.mem_singleton.mpr rfl)
  have := hR.moved e (upd_self ..) (by have := hR.rlen; have := hR.le; lia)
  rw [← List.drop_drop, ← hR.rest] at this
  exact ⟨this, e⟩
theorem c_skip (T : Top g) {ws : Str} (hR : RD σ r R n rest) (hl : ws.length ≤ 1000000) (hs : (Txt.split ws (Str.ofString " ")).length ≤ 1000)
    (ht : pWords rest (Txt.split ws (Str.ofString " ")) = true → ∀ σ', RD σ' r R (n + (Txt.split ws (Str.ofString " ")).length) (rest.drop (Txt.split ws (Str.ofString " ")).length) → Ext [r] σ σ' → Q (.bool true) σ')
    (hf : pWords rest (Txt.split ws (Str.ofString " ")) = false → Q (.bool false) σ) : CV prog g (k + 4) (.ref 528) [.ref r, .str ws] Q X σ := by
  refine CF.cv (call_Reader_skip_2 T fun c hsc hcl => ?_)
  conv => arg 6; whnf
  repeat k_caught0
  cases hw : pWords rest (Txt.split ws (Str.ofString " ")) with
  | false =>
    refine iteT rfl ?_
    repeat k_caught0
    exact hf hw
  | true =>
    refine iteF rfl ?_
    k_caughtB
    refine ⟨_, _, _, _, rfl, hR.self, sa_of T (by kernel_rfl), by simp, ?_⟩
    rw [fset_at, List.length_map, ← Int.natCast_add]
    obtain ⟨h1, h2⟩ := hR.go (pWords_len _ _ hw)
    repeat k_caught0
    exact ht hw _ h1 h2
noncomputable def One (w : Str) : Prop := Txt.split w (Str.ofString " ") = [w] ∧ w.length ≤ 1000
theorem c_skip1 (T : Top g) {w : Str} (hR : RD σ r R n rest) (h1 : One w)
    (ht : pWd rest 0 (Str.ofString "word") w = true → ∀ σ', RD σ' r R (n + 1) (rest.drop 1) → Ext [r] σ σ' → Q (.bool true) σ') (hf : pWd rest 0 (Str.ofString "word") w = false → Q (.bool false) σ) : CV prog g (k + 4) (.ref 528) [.ref r, .str w] Q X σ := by
  have e : pWords rest (Txt.split w (Str.ofString " ")) = pWd rest 0 (Str.ofString "word") w := by rw [h1.1, pWords, pWords, Bool.and_true]
  refine c_skip T hR (Nat.le_trans h1.2 (by decide)) (by rw [h1.1]; simp) (fun hw σ' hr he => ?_) fun hw => hf (e ▸ hw)
  rw [h1.1] at hr
  exact ht (e ▸ hw) σ' hr he
noncomputable def pOne (rest : List Tk) (ws : List Str) : Option Str := ws.find? fun w => pWd rest 0 (Str.ofString "word") w
theorem c_one_of (T : Top g) {ws : Str} (hR : RD σ r R n rest) (hl : ws.length ≤ 1000000) (h1 : ∀ w ∈ Txt.split ws (Str.ofString " "), One w)
    (ht : ∀ w, pOne rest (Txt.split ws (Str.ofString " ")) = some w → ∀ σ', RD σ' r R (n + 1) (rest.drop 1) → Ext [r] σ σ' → Q (.str w) σ')
    (hf : pOne rest (Txt.split ws (Str.ofString " ")) = none → Q (.str (Str.ofString "")) σ) : CV prog g (k + 5) (.ref 542) [.ref r, .str ws] Q X σ := by
  refine CF.cv (call_Reader_one_of_2 T fun c hsc hcl => ?_)
  conv => arg 6; whnf
  repeat k_caught0
  refine ⟨_, [], Src.lst T.ok, ?_⟩
  revert h1 ht hf
  generalize Txt.split ws (Str.ofString " ") = l
  generalize hloc : ([("self", V.ref r), ("words", V.str ws)] : Loc) = loc
  have hs : ("self", V.ref r) ∈ loc := by rw [← hloc]; simp
  clear hloc
  induction l generalizing loc with
  | nil =>
    intro h1 ht hf
    refine TSs.sub (loc' := [("self", V.ref r)]) ?_ (by simpa using hs)
    repeat k_caught0
    exact hf rfl
  | cons w l ih =>
    intro h1 ht hf
    refine ta_name (lk_of hsc rfl) ?_
    refine TSs.sub (loc' := [("word", V.str w), ("self", V.ref r)]) ?_ ?_
    · repeat k_caught0
      refine c_skip1 T hR (h1 w (.head _)) (fun hw σ' hr he => ?_) fun hw => ?_
      · repeat k_caught0
        exact ht w (by unfold pOne; rw [List.find?_cons, hw]) σ' hr he
      · have e : pOne rest (w :: l) = pOne rest l := by unfold pOne; rw [List.find?_cons, hw]
        repeat k_caught0
        refine ⟨by simp, ih _ (by simp) (fun w hw => h1 w (.tail _ hw)) (fun w hw => ht w (e.trans hw)) fun hw => hf (e.trans hw)⟩
    · intro p hp
      rcases List.mem_cons.mp hp with rfl | hp
      · exact .head _
      · simp only [List.mem_cons, List.not_mem_nil, or_false] at hp
        subst hp
        exact .tail _ (List.mem_filter.mpr ⟨hs, by simp⟩)
theorem c_take (T : Top g) {p : Tk} {rest' : List Tk} (hR : RD σ r R n (p :: rest')) (h : ∀ σ', RD σ' r R (n + 1) rest' → Ext [r] σ σ' → Q (.ref p.1) σ') : CV prog g (k + 2) (.ref 506) [.ref r] Q X σ := by
  refine CF.cv (call_Reader_take_1 T fun c hsc hcl => ?_)
  conv => arg 6; whnf
  repeat k_caught0
  refine iteF rfl ?_
  k_caughtB
  refine ⟨_, _, _, _, rfl, hR.self, sa_of T (by kernel_rfl), by simp, ?_⟩
  rw [fset_at, show ((n : Int) + 1) = ((n + 1 : Nat) : Int) from rfl]
  obtain ⟨h1, h2⟩ := hR.go (m := 1) (by simp)
  repeat k_caught0
  exact h _ h1 h2
theorem c_skip_sign (T : Top g) {w : Str} (hR : RD σ r R n rest) (ht : pWd rest 0 (Str.ofString "sign") w = true → ∀ σ', RD σ' r R (n + 1) (rest.drop 1) → Ext [r] σ σ' → Q (.bool true) σ')
    (hf : pWd rest 0 (Str.ofString "sign") w = false → Q (.bool false) σ) : CV prog g (k + 4) (.ref 586) [.ref r, .str w] Q X σ := by
  refine CF.cv (call_Reader_skip_sign_2 T fun c hsc hcl => ?_)
  conv => arg 6; whnf
  repeat k_caught0
  cases hw : pWd rest 0 (Str.ofString "sign") w with
  | false =>
    refine iteT rfl ?_
    repeat k_caught0
    exact hf hw
  | true =>
    have hm : 1 ≤ rest.length := by cases rest with | nil => simp [pWd] at hw | cons a l => simp
    refine iteF rfl ?_
    repeat k_caught0
    k_caughtB
    refine ⟨_, _, _, _, rfl, hR.self, sa_of T (by kernel_rfl), by simp, ?_⟩
    rw [fset_at, show ((n : Int) + 1) = ((n + 1 : Nat) : Int) from rfl]
    obtain ⟨h1, h2⟩ := hR.go hm
    repeat k_caught0
    exact ht hw _ h1 h2
theorem c_need_sign (T : Top g) {w : Str} (hR : RD σ r R n rest) (hl : w.length ≤ 1000) (ht : pWd rest 0 (Str.ofString "sign") w = true → ∀ σ', RD σ' r R (n + 1) (rest.drop 1) → Ext [r] σ σ' → Q .none σ')
    (hf : pWd rest 0 (Str.ofString "sign") w = false → X 84) : CV prog g (k + 5) (.ref 593) [.ref r, .str w] Q X σ := by
  refine CF.cv (call_Reader_need_sign_2 T fun c hsc hcl => ?_)
  conv => arg 6; whnf
  repeat k_caught0
  refine c_skip_sign T hR (fun hw σ' hr he => ?_) fun hw => ?_
  · repeat k_caught0
    exact ht hw σ' hr he
  · repeat k_caught0
    refine o_adds (by rw [show (Str.ofString " is asked here").length = 14 by rfl]; lia) ?_
    repeat k_caught0
    refine c_fault T hR fun e d σ' he hd sm => ⟨e, _, rfl, hd, hf hw⟩
end
end
section
section
variable {k : Nat} {c : FC} {Q : V → Store → Prop} {X : Addr → Prop} {σ : Store} {r : Addr} {R : RdA} {n : Nat} {rest : List Tk}
theorem o_not {b : Bool} (h : Q (.bool (!b)) σ) : OV prog g k [.bool b] (unA .Not) Q X σ := by
  refine ov1 fun A envs b' s u cx r => ?_
  rw [VR] at r
  subst r
  show wpAny _ A (holding [Value.bool b] (do return Value.bool (!(← truthy (Value.bool b))))) _ _ _
  exact wpAny_holding (wpAny_bind (wpAny_truthy_bool (wpAny_pure (pv_same cx.inv vbool h))))
theorem c_index {x y : Str} {i : Nat} {l : List Nat} (ho : Builtin.Str.occurrences x y 0 x.length 1 = i :: l) (h : Q (.int i) σ) : CV prog g k (.bi "str.index") [.str x, .str y] Q X σ :=
  cv2s fun A envs b s t t' cx => PySem.SC.index ho (pv_tok cx.inv vint h)
end
end
local macro_rules | `(tactic| k_caught0) => stp "o_not _;o_adds S_;c_fault Aa_"
section
section
variable {k : Nat} {c : FC} {Q : V → Store → Prop} {X : Addr → Prop} {σ : Store} {r : Addr} {R : RdA} {n : Nat} {rest : List Tk}
noncomputable def isRes (w : Str) : Bool := !(Builtin.Str.occurrences resStr (Str.ofString " " ++ w ++ Str.ofString " ") 0 resStr.length 1).isEmpty
theorem c_is_reserved (T : Top g) {w : Str} (hl : w.length ≤ 1000) (h : Q (.bool (isRes w)) σ) : CV prog g (k + 1) (.ref 457) [.str w] Q X σ := by
  refine CF.cv (call_is_reserved_1 T fun c hsc hcl => ?_)
  conv => arg 6; whnf
  have l1 : (Str.ofString " ").length = 1 := rfl
  repeat k_caught0
  refine o_adds (by rw [l1]; lia) ?_
  repeat k_caught0
  have e : (Str.ofString " " ++ w).length = 1 + w.length := by rw [Str.length_append, l1]
  refine o_adds (by rw [e, l1]; lia) ?_
  repeat k_caught0
  exact o_ins h
noncomputable def pName (rest : List Tk) (j : Nat) : Bool := match rest[j]? with
  | some p => p.2.1 == Str.ofString "word" && !isRes p.2.2
  | none => false
noncomputable def Short (R : RdA) : Prop := ∀ p ∈ R.tk, p.2.2.length ≤ 900
theorem b_is_name (T : Top g) {i : Int} (hsc : c.sc = s_Reader_is_name) (hR : RD σ r R n rest) (hS : Short R) (hi : 0 ≤ i) (h : Q (.bool (pName rest i.toNat)) σ) :
    TSs prog g (k + 2) c [("self", .ref r), ("ahead", .int i)] b_Reader_is_name ⟨fun _ σ' => Q .none σ', Q, fun _ _ => False⟩ X σ := by
  conv => arg 6; whnf
  repeat k_caught0
  unfold pName at h
  cases hp : rest[i.toNat]? with
  | none =>
    rw [hp] at h
    have e : pKind rest i.toNat (Str.ofString "word") = false := by rw [pKind, hp]
    refine iteF e ?_
    rw [e]
    exact h
  | some p =>
    obtain ⟨d, hd⟩ := hR.tok p (hR.mem hp)
    have e : pKind rest i.toNat (Str.ofString "word") = (p.2.1 == Str.ofString "word") := by rw [pKind, hp]
    rw [hp] at h
    dsimp only at h
    cases hk : p.2.1 == Str.ofString "word" with
    | false =>
      rw [hk, Bool.false_and] at h
      refine iteF (e.trans hk) ?_
      rw [e, hk]
      exact h
    | true =>
      rw [hk, Bool.true_and] at h
      refine iteT (e.trans hk) ?_
      repeat k_caught0
      unfold pk
      rw [hp]
      repeat k_caught0
      refine c_is_reserved T (Nat.le_trans (hS p (hR.mem hp)) (by decide)) ?_
      repeat k_caught0
      exact h
theorem c_is_name0 (T : Top g) (hR : RD σ r R n rest) (hS : Short R) (h : Q (.bool (pName rest 0)) σ) : CV prog g (k + 3) (.ref 557) [.ref r] Q X σ :=
  CF.cv (call_Reader_is_name_1 T fun c hsc _ => b_is_name T hsc hR hS (Int.le_refl 0) h)
theorem c_name (T : Top g) {p : Tk} {rest' : List Tk} (hR : RD σ r R n (p :: rest')) (hS : Short R) (hn : pName (p :: rest') 0 = true) (h : ∀ σ', RD σ' r R (n + 1) rest' → Ext [r] σ σ' → Q (.str p.2.2) σ') : CV prog g (k + 4) (.ref 564) [.ref r] Q X σ := by
  refine CF.cv (call_Reader_name_1 T fun c hsc hcl => ?_)
  conv => arg 6; whnf
  repeat k_caught0
  refine c_is_name0 T hR hS ?_
  repeat k_caught0
  refine iteF (by rw [hn]; rfl) ?_
  repeat k_caught0
  refine c_take T hR fun σ' hr he => ?_
  obtain ⟨d, hd⟩ := hr.tok p (hR.mem (j := 0) rfl)
  repeat k_caught0
  exact h σ' hr he
theorem c_is_number (T : Top g) (hR : RD σ r R n rest) (h1 : pWd rest 0 (Str.ofString "sign") (Str.ofString "+") = false) (h2 : pWd rest 0 (Str.ofString "sign") (Str.ofString "-") = false) (h : Q (.bool (pKind rest 0 (Str.ofString "number"))) σ) : CV prog g (k + 4) (.ref 600) [.ref r] Q X σ := by
  refine CF.cv (call_Reader_is_number_1 T fun c hsc hcl => ?_)
  conv => arg 6; whnf
  repeat k_caught0
  exact h
end
end
section
section
variable {k : Nat} {c : FC} {Q : V → Store → Prop} {X : Addr → Prop} {σ : Store} {r : Addr} {R : RdA} {n : Nat} {rest : List Tk}
noncomputable abbrev figs : Str := Str.ofString "0123456789"
noncomputable def figOf (ch : Nat) : Option Nat := (Builtin.Str.occurrences figs ⟨#[ch]⟩ 0 figs.length 1).head?
noncomputable def worthL : List Nat → Nat → Option Nat
  | [], n => some n
  | ch :: l, n => match figOf ch with
    | some i => worthL l (n * 10 + i)
    | none => none
theorem c_worth_of (T : Top g) {x : Str} {u : Nat} (hw : worthL x.cps.toList 0 = some u) (h : Q (.int u) σ) : CV prog g (k + 1) (.ref 443) [.str x] Q X σ := by
  refine CF.cv (call_worth_of_1 T fun c hsc hcl => ?_)
  conv => arg 6; whnf
  repeat k_caught0
  refine ⟨_, [], Src.str T.ok, ?_⟩
  revert hw
  unfold chars
  suffices H : ∀ (l : List Nat) (n : Nat) (loc : Loc), ("number", V.int n) ∈ loc → worthL l n = some u → ForL prog g k c _ _ _ X [] (l.map fun c => V.str ⟨#[c]⟩) loc σ from fun hw => H _ 0 _ (by simp) hw
  intro l
  induction l with
  | nil =>
    intro n loc hs hw
    obtain rfl : n = u := by simpa [worthL] using hw
    refine TSs.sub (loc' := [("number", V.int n)]) ?_ (by simpa using hs)
    repeat k_caught0
    exact h
  | cons ch l ih =>
    intro n loc hs hw
    rw [worthL] at hw
    refine ta_name (lk_of hsc rfl) ?_
    refine TSs.sub (loc' := [("figure", V.str ⟨#[ch]⟩), ("number", V.int n)]) ?_ ?_
    · repeat k_caught0
      refine o_mul (IntMulOk.of_right (by decide)) ?_
      repeat k_caught0
      unfold figOf at hw
      cases ho : Builtin.Str.occurrences figs ⟨#[ch]⟩ 0 figs.length 1 with
      | nil => rw [ho] at hw; cases hw
      | cons i l' =>
        rw [ho] at hw
        refine c_index ho ?_
        repeat k_caught0
        exact ⟨by simp, ih (n * 10 + i) _ (by simp) hw⟩
    · intro p hp
      rcases List.mem_cons.mp hp with rfl | hp
      · exact .head _
      · simp only [List.mem_cons, List.not_mem_nil, or_false] at hp
        subst hp
        exact .tail _ (List.mem_filter.mpr ⟨hs, by simp⟩)
theorem c_decimal0 (T : Top g) {u : Int} (h : Q (.tup [.int u, .int 0]) σ) : CV prog g (k + 1) (.ref 408) [.int u, .int 0] Q X σ := by
  refine CF.cv (call_decimal_2 T fun c hsc hcl => ?_)
  conv => arg 6; whnf
  repeat k_caught0
  refine s_while (fun n loc σ' => loc = [("units", V.int u), ("scale", V.int 0)] ∧ σ' = σ) 0 ⟨rfl, rfl⟩ ?_
  rintro n _ _ ⟨rfl, rfl⟩
  repeat k_caught0
  exact h
theorem c_is_whole (T : Top g) {u : Int} (h : Q (.bool true) σ) : CV prog g (k + 1) (.ref 429) [.tup [.int u, .int 0]] Q X σ := by
  refine CF.cv (call_is_whole_1 T fun c hsc hcl => ?_)
  conv => arg 6; whnf
  repeat k_caught0
  refine i_tup (v := .int 0) (fun _ _ => rfl) (by simp) ⟨rfl, by simp⟩ ?_
  repeat k_caught0
  exact h
theorem c_whole_of (T : Top g) {u : Int} (hu : -1000 ≤ u ∧ u ≤ 1000) (h : Q (.int u) σ) : CV prog g (k + 2) (.ref 436) [.tup [.int u, .int 0]] Q X σ := by
  refine CF.cv (call_whole_of_1 T fun c hsc hcl => ?_)
  conv => arg 6; whnf
  repeat k_caught0
  refine CF.cv (call_units_at_3 T fun c hsc hcl => ?_)
  conv => arg 6; whnf
  repeat k_caught0
  refine i_tup (v := .int 0) (fun _ _ => rfl) (by simp) ⟨rfl, by simp⟩ ?_
  repeat k_caught0
  refine i_tup (v := .int u) (fun _ _ => rfl) (by simp) ⟨rfl, by simp⟩ ?_
  repeat k_caught0
  refine i_tup (v := .int 0) (fun _ _ => rfl) (by simp) ⟨rfl, by simp⟩ ?_
  repeat k_caught0
  refine o_pow (by decide) (by decide) ?_
  refine o_mul (IntMulOk.of_right (by decide)) ?_
  repeat k_caught0
  have e : u * 10 ^ ((0 : Int) - 0).toNat = u := by simp
  rw [e]
  exact h
end
end
section
section
variable {k : Nat} {c : FC} {Q : V → Store → Prop} {X : Addr → Prop} {σ : Store} {r : Addr} {R : RdA} {n : Nat} {rest : List Tk}
noncomputable def chAt (x : Str) (i : Int) : Option Nat := (seqIndex? i x.length).bind (x.cps[·]?)
structure DecOk (x : Str) (u : Nat) : Prop where
  len : x.length ≤ 100
  sign : ([Str.ofString "+", Str.ofString "-"].any (· == cut x none (some 1))) = false
  minus : (cut x none (some 1) == Str.ofString "-") = false
  all : cut x (some 0) none = x
  dot : (!(Builtin.Str.occurrences x (Str.ofString ".") 0 x.length 1).isEmpty) = false
  app : x ++ Str.ofString "" = x
  ne : (x == Str.ofString "") = false
  chs : ∀ i : Nat, i < x.length → ∃ ch, chAt x i = some ch ∧ (!(!(Builtin.Str.occurrences figs ⟨#[ch]⟩ 0 figs.length 1).isEmpty)) = false
  worth : worthL x.cps.toList 0 = some u
theorem c_read_decimal (T : Top g) {x : Str} {u : Nat} (hx : DecOk x u) (h : Q (.tup [.int u, .int 0]) σ) : CV prog g (k + 2) (.ref 450) [.str x] Q X σ := by
  refine CF.cv (call_read_decimal_1 T fun c hsc hcl => ?_)
  have hL : x.length ≤ 1000000 := Nat.le_trans hx.len (by decide)
  conv => arg 6; whnf
  repeat k_caught0
  refine o_ints (ns := [Str.ofString "+", Str.ofString "-"]) ?_
  repeat k_caught0
  refine iteF hx.sign ?_
  repeat k_caught0
  rw [hx.all]
  repeat k_caught0
  refine o_ins ?_
  repeat k_caught0
  refine iteF hx.dot ?_
  repeat k_caught0
  rw [hx.app]
  repeat k_caught0
  refine iteF hx.ne ?_
  repeat k_caught0
  refine ⟨_, [], Src.rng T.ok (by decide) (by decide) (by lia) (by lia), ?_⟩
  suffices H : ∀ (l : List V) (loc : Loc), (∀ p ∈ [("ahead", V.str x), ("behind", V.str (Str.ofString "")), ("begin", V.int 0), ("text", V.str x)], p ∈ loc) → (∀ v ∈ l, ∃ i : Nat, v = .int (0 + (i : Int)) ∧ i < x.length) → ForL prog g (k + 1) c _ _ _ X [] l loc σ from
    H _ _ (by simp) fun v hv => by
      obtain ⟨i, hi, rfl⟩ := List.mem_map.mp hv
      exact ⟨i, rfl, by have := List.mem_range.mp hi; lia⟩
  intro l
  induction l with
  | nil =>
    intro loc hs hv
    refine TSs.sub ?_ hs
    repeat k_caught0
    rw [hx.app]
    refine c_worth_of T hx.worth ?_
    repeat k_caught0
    refine iteF hx.minus ?_
    repeat k_caught0
    exact c_decimal0 T h
  | cons v l ih =>
    intro loc hs hv
    obtain ⟨i, rfl, hi⟩ := hv v (.head _)
    obtain ⟨ch, hc1, hc2⟩ := hx.chs i hi
    refine ta_name (lk_of hsc rfl) ?_
    refine TSs.sub (loc' := [("at", V.int (0 + (i : Int))), ("ahead", V.str x), ("behind", V.str (Str.ofString "")), ("begin", V.int 0), ("text", V.str x)]) ?_ ?_
    · repeat k_caught0
      refine i_str (ch := ch) (fun _ _ => rfl) hL (by rw [Int.zero_add]; exact hc1) (by lia) (by have := hx.len; lia) ?_
      repeat k_caught0
      refine o_nins ?_
      repeat k_caught0
      exact ⟨by simp, ih _ (by simp) fun v hv' => hv v (.tail _ hv')⟩
    · intro p hp
      rcases List.mem_cons.mp hp with rfl | hp
      · exact .head _
      · refine .tail _ (List.mem_filter.mpr ⟨hs p hp, ?_⟩)
        simp only [List.mem_cons, List.not_mem_nil, or_false] at hp
        rcases hp with rfl | rfl | rfl | rfl <;> simp
end
end
section
theorem chs1 {x : Str} {a : Nat} (hl : x.length = 1) (h0 : chAt x 0 = some a ∧ (!(!(Builtin.Str.occurrences figs ⟨#[a]⟩ 0 figs.length 1).isEmpty)) = false) : ∀ i : Nat, i < x.length → ∃ ch, chAt x i = some ch ∧ (!(!(Builtin.Str.occurrences figs ⟨#[ch]⟩ 0 figs.length 1).isEmpty)) = false := fun i hi => by
  obtain rfl : i = 0 := by lia
  exact ⟨a, h0⟩
theorem chs2 {x : Str} {a b : Nat} (hl : x.length = 2) (h0 : chAt x 0 = some a ∧ (!(!(Builtin.Str.occurrences figs ⟨#[a]⟩ 0 figs.length 1).isEmpty)) = false) (h1 : chAt x 1 = some b ∧ (!(!(Builtin.Str.occurrences figs ⟨#[b]⟩ 0 figs.length 1).isEmpty)) = false) :
    ∀ i : Nat, i < x.length → ∃ ch, chAt x i = some ch ∧ (!(!(Builtin.Str.occurrences figs ⟨#[ch]⟩ 0 figs.length 1).isEmpty)) = false := fun i hi => by
  rcases (show i = 0 ∨ i = 1 by lia) with rfl | rfl
  · exact ⟨a, h0⟩
  · exact ⟨b, h1⟩
theorem dec_01 : DecOk (Str.ofString "01") 1 := ⟨by decide +kernel, by decide +kernel, by decide +kernel, by decide +kernel, by decide +kernel, by decide +kernel, by decide +kernel, chs2 (a := 48) (b := 49) (by decide +kernel) (by decide +kernel) (by decide +kernel), by decide +kernel⟩
theorem dec_05 : DecOk (Str.ofString "05") 5 := ⟨by decide +kernel, by decide +kernel, by decide +kernel, by decide +kernel, by decide +kernel, by decide +kernel, by decide +kernel, chs2 (a := 48) (b := 53) (by decide +kernel) (by decide +kernel) (by decide +kernel), by decide +kernel⟩
theorem dec_88 : DecOk (Str.ofString "88") 88 := ⟨by decide +kernel, by decide +kernel, by decide +kernel, by decide +kernel, by decide +kernel, by decide +kernel, by decide +kernel, chs2 (a := 56) (b := 56) (by decide +kernel) (by decide +kernel) (by decide +kernel), by decide +kernel⟩
theorem dec_66 : DecOk (Str.ofString "66") 66 := ⟨by decide +kernel, by decide +kernel, by decide +kernel, by decide +kernel, by decide +kernel, by decide +kernel, by decide +kernel, chs2 (a := 54) (b := 54) (by decide +kernel) (by decide +kernel) (by decide +kernel), by decide +kernel⟩
theorem dec_0 : DecOk (Str.ofString "0") 0 := ⟨by decide +kernel, by decide +kernel, by decide +kernel, by decide +kernel, by decide +kernel, by decide +kernel, by decide +kernel, chs1 (a := 48) (by decide +kernel) (by decide +kernel), by decide +kernel⟩
theorem dec_1 : DecOk (Str.ofString "1") 1 := ⟨by decide +kernel, by decide +kernel, by decide +kernel, by decide +kernel, by decide +kernel, by decide +kernel, by decide +kernel, chs1 (a := 49) (by decide +kernel) (by decide +kernel), by decide +kernel⟩
theorem dec_5 : DecOk (Str.ofString "5") 5 := ⟨by decide +kernel, by decide +kernel, by decide +kernel, by decide +kernel, by decide +kernel, by decide +kernel, by decide +kernel, chs1 (a := 53) (by decide +kernel) (by decide +kernel), by decide +kernel⟩
section
variable {k : Nat} {c : FC} {Q : V → Store → Prop} {X : Addr → Prop} {σ : Store} {r : Addr} {R : RdA} {n : Nat} {rest : List Tk}
theorem c_whole (T : Top g) {p : Tk} {rest' : List Tk} {u : Nat} (hR : RD σ r R n (p :: rest')) (hk : p.2.1 = Str.ofString "number") (hx : DecOk p.2.2 u) (hu : u ≤ 1000) (h : ∀ σ', RD σ' r R (n + 1) rest' → Ext [r] σ σ' → Q (.int u) σ') : CV prog g (k + 3) (.ref 614) [.ref r] Q X σ := by
  refine CF.cv (call_Reader_whole_1 T fun c hsc hcl => ?_)
  conv => arg 6; whnf
  obtain ⟨d, hd⟩ := hR.tok p (hR.mem (j := 0) rfl)
  have hp : pKind (p :: rest') 0 (Str.ofString "number") = true := by rw [pKind]; simp [hk]
  repeat k_caught0
  refine iteF (by rw [hp]; rfl) ?_
  repeat k_caught0
  rw [show pk (p :: rest') 0 = .ref p.1 from rfl]
  repeat k_caught0
  refine c_read_decimal T hx ?_
  repeat k_caught0
  refine c_is_whole T ?_
  repeat k_caught0
  k_caughtB
  refine ⟨_, _, _, _, rfl, hR.self, sa_of T (by kernel_rfl), by simp, ?_⟩
  rw [fset_at, show ((n : Int) + 1) = ((n + 1 : Nat) : Int) from rfl]
  obtain ⟨h1, h2⟩ := hR.go (m := 1) (by simp)
  repeat k_caught0
  exact c_whole_of T (by lia) (h _ h1 h2)
theorem c_signed (T : Top g) {p : Tk} {rest' : List Tk} {u : Nat} (hR : RD σ r R n (p :: rest')) (hk : p.2.1 = Str.ofString "number") (hx : DecOk p.2.2 u) (h : ∀ σ', RD σ' r R (n + 1) rest' → Ext [r] σ σ' → Q (.tup [.int u, .int 0]) σ') : CV prog g (k + 5) (.ref 607) [.ref r] Q X σ := by
  refine CF.cv (call_Reader_signed_1 T fun c hsc hcl => ?_)
  conv => arg 6; whnf
  have hs : ∀ w, pWd (p :: rest') 0 (Str.ofString "sign") w = false := fun w => by
    rw [pWd]
    simp only [List.getElem?_cons_zero, hk]
    rw [show (Str.ofString "number" == Str.ofString "sign") = false by decide +kernel, Bool.false_and]
  have hp : pKind (p :: rest') 0 (Str.ofString "number") = true := by rw [pKind]; simp [hk]
  repeat k_caught0
  refine c_is_number T hR (hs _) (hs _) ?_
  repeat k_caught0
  refine iteF (by rw [hp]; rfl) ?_
  repeat k_caught0
  refine c_skip_sign T hR (fun z => by rw [hs] at z; cases z) fun _ => ?_
  repeat k_caught0
  refine c_skip_sign T hR (fun z => by rw [hs] at z; cases z) fun _ => ?_
  repeat k_caught0
  refine c_take T hR fun σ' hr he => ?_
  obtain ⟨d, hd⟩ := hr.tok p (hR.mem (j := 0) rfl)
  repeat k_caught0
  refine c_read_decimal T hx ?_
  repeat k_caught0
  exact h σ' hr he
end
end
section
section
variable {k : Nat} {c : FC} {P : Post} {Q : V → Store → Prop} {X : Addr → Prop} {σ : Store} {r : Addr} {R : RdA} {n : Nat} {rest : List Tk} {loc : Loc}
theorem compOk0 {scope : Scope} {x : String} (h : (scope.names.all fun y => decide (y.2 ≠ .free ∧ y.2 ≠ .cell ∧ (y.2 = .local → scope.names.lookup y.1 = some .local))) = true)
    (hk : scope.kind = .function) (hx : scope.names.lookup (Str.ofString x) = some .local) : CompOk c scope [] x loc [] := by
  have key : ∀ y ∈ scope.names, y.2 ≠ .free ∧ y.2 ≠ .cell ∧ (y.2 = .local → scope.names.lookup y.1 = some .local) := fun y hy => of_decide_eq_true (List.all_eq_true.mp h y hy)
  exact ⟨closureFor_none fun y hy => (key y hy).1, fun y hy => (key y hy).2.1, hk, fun y hy => (key y hy).2.2, hx, (fun _ h => nomatch h), (fun _ _ h => nomatch h)⟩
theorem swapw_of {e : Expr} {t : Option Expr} {l : Nat} {r : Sem Bool} {S : Scope} (hsc : c.sc = S) (h : swapsWith e t l { c with sc := S }.env = r) : swapsWith e t l c.env = r := by
  cases c; cases hsc; exact h
theorem turn0 {scope : Scope} {cl : List (Str × Addr)} {C : Addr} {loc : Loc} {elt : Expr} {r : Option V} (h : ∀ c' : FC, c'.sc = relabel scope c.env → c'.cl = cl → TE prog g k c' loc elt (fun w σ' => r = some w ∧ Same σ σ') (fun _ => False) σ) : Turn prog g k (cfc c scope cl C) loc [] elt r σ := h _ rfl rfl
theorem turn1 {scope : Scope} {cl : List (Str × Addr)} {C : Addr} {loc : Loc} {t elt : Expr} {r : Option V} (h : ∀ c' : FC, c'.sc = relabel scope c.env → c'.cl = cl → TB prog g k c' loc t (fun b σ₁ => Same σ σ₁ ∧ if b then TE prog g k c' loc elt (fun w σ' => r = some w ∧ Same σ₁ σ') (fun _ => False) σ₁ else r = none) (fun _ => False) σ) : Turn prog g k (cfc c scope cl C) loc [t] elt r σ := h _ rfl rfl
noncomputable def ordOf : V → Option V
  | .str s => some (.int (s.cps[0]?.getD 0 : Nat))
  | _ => none
theorem ords (x : Str) : (chars x).filterMap ordOf = (x.cps.toList.map fun c : Nat => (c : Int)).map V.int := by
  unfold chars
  induction x.cps.toList with
  | nil => rfl
  | cons a l ih => simp [ordOf, ih]
noncomputable def over : V → Option V
  | .int i => if i > 255 then some (.int i) else none
  | _ => none
theorem c_octets_of_text (T : Top g) {x : Str} (hl : x.length ≤ 1000) (hx : ∀ ch ∈ x.cps.toList, ch < 256) (h : ∀ σ', Same σ σ' → Q (.bytes (byteArr (x.cps.toList.map fun c : Nat => (c : Int)))) σ') : CV prog g (k + 2) (.ref 462) [.str x] Q X σ := by
  refine CF.cv (call_octets_of_text_1 T fun c hsc hcl => ?_)
  conv => arg 6; whnf
  refine ss_cons ?_
  refine s_assign_comp T.ok (lk_of hsc rfl) (compOk0 (by rfl) rfl rfl) (swapw_of hsc rfl) ?_ (by intro _ _; rfl)
  have hlen : (chars x).length = x.length := by unfold chars; rw [List.length_map, Array.length_toList]; rfl
  repeat k_caught0
  refine ⟨_, [], ordOf, Src.str T.ok, by simp, by rw [hlen]; lia, fun C w σ₂ hw sm => ?_, fun σ₂ sm => ?_⟩
  · unfold chars at hw
    obtain ⟨ch, hch, rfl⟩ := List.mem_map.mp hw
    refine turn0 fun c' hsc' _ => te_set .nil ?_
    repeat k_caught0
    refine c_ord ?_
    exact ⟨rfl, Same.refl _⟩
  · rw [ords]
    repeat k_caught0
    refine e_comp T.ok (compOk0 (by rfl) rfl rfl) ?_ (by intro _ _; rfl)
    repeat k_caught0
    refine ⟨_, [], over, Src.lst T.ok, by simp, by rw [List.length_map, List.length_map, Array.length_toList]; exact Nat.le_trans hl (by decide), fun C w σ₃ hw sm₂ => ?_, fun σ₃ sm₂ => ?_⟩
    · obtain ⟨i, hi, rfl⟩ := List.mem_map.mp hw
      obtain ⟨ch, hch, rfl⟩ := List.mem_map.mp hi
      have hc := hx ch hch
      refine turn1 fun c' hsc' _ => tb_set .nil ?_
      repeat k_caught0
      have e : decide ((ch : Int) > 255) = false := decide_eq_false (by lia)
      refine ⟨Same.refl _, ?_⟩
      rw [e]
      refine iteF rfl ?_
      show (if (ch : Int) > 255 then _ else _) = _
      rw [if_neg (by lia)]
    · have e : ((x.cps.toList.map fun c : Nat => (c : Int)).map V.int).filterMap over = [] := by
        rw [List.filterMap_eq_nil_iff]
        intro v hv
        obtain ⟨i, hi, rfl⟩ := List.mem_map.mp hv
        obtain ⟨ch, hch, rfl⟩ := List.mem_map.mp hi
        have hc := hx ch hch
        show (if (ch : Int) > 255 then _ else _) = _
        rw [if_neg (by lia)]
      rw [e]
      repeat k_caught0
      refine c_bytes (ns := x.cps.toList.map fun c : Nat => (c : Int)) (.inl rfl) (by rw [List.length_map, Array.length_toList]; exact Nat.le_trans hl (by decide)) (fun n hn => ?_) ?_
      · obtain ⟨ch, hch, rfl⟩ := List.mem_map.mp hn
        have := hx ch hch
        lia
      · exact h _ (sm.trans sm₂)
theorem c_octets (T : Top g) {p : Tk} {rest' : List Tk} (hR : RD σ r R n (p :: rest')) (hk : p.2.1 = Str.ofString "literal") (hl : p.2.2.length ≤ 1000) (hx : ∀ ch ∈ p.2.2.cps.toList, ch < 256) (h : ∀ σ', RD σ' r R (n + 1) rest' → Ext [r] σ σ' → Q (.bytes (byteArr (p.2.2.cps.toList.map fun c : Nat => (c : Int)))) σ') : CV prog g (k + 3) (.ref 628) [.ref r] Q X σ := by
  refine CF.cv (call_Reader_octets_1 T fun c hsc hcl => ?_)
  conv => arg 6; whnf
  obtain ⟨d, hd⟩ := hR.tok p (hR.mem (j := 0) rfl)
  have hp : pKind (p :: rest') 0 (Str.ofString "literal") = true := by rw [pKind]; simp [hk]
  repeat k_caught0
  refine iteF (by rw [hp]; rfl) ?_
  repeat k_caught0
  rw [show pk (p :: rest') 0 = .ref p.1 from rfl]
  repeat k_caught0
  refine c_octets_of_text T hl hx fun σ₁ sm => ?_
  have hR₁ := hR.same sm
  repeat k_caught0
  k_caughtB
  refine ⟨_, _, _, _, rfl, hR₁.self, sa_of T (by kernel_rfl), by simp, ?_⟩
  rw [fset_at, show ((n : Int) + 1) = ((n + 1 : Nat) : Int) from rfl]
  obtain ⟨h1, h2⟩ := hR₁.go (m := 1) (by simp)
  repeat k_caught0
  exact h _ h1 ((Ext.of_same sm).trans h2)
end
end
section
theorem bd_pairs {prog : Program} {w : World} : ∀ (L : List (Str × Tok × Str × Tok)), PySem.Pairs (PySem.strKind prog w) (L.map fun q => (⟨PyData.keyHash w.params q.1, .str q.1 q.2.1, .str q.2.2.1 q.2.2.2⟩ : DictEntry)) (L.map fun q => (q.1, Value.str q.2.2.1 q.2.2.2))
  | [] => .nil
  | q :: L => by
    rw [List.map_cons, List.map_cons]
    exact .cons (PySem.strKind_is prog w q.1 q.2.1) rfl (bd_pairs L)
theorem bd_kr {σ : Store} {h : Heap} : ∀ (L : List (Str × Tok × Str × Tok)), KR σ h (L.map fun q => (q.1, V.str q.2.2.1)) (L.map fun q => (q.1, Value.str q.2.2.1 q.2.2.2))
  | [] => by simp [KR]
  | q :: L => by
    rw [List.map_cons, List.map_cons, KR]
    exact ⟨_, _, rfl, vstr, bd_kr L⟩
theorem bd_of (T : Top g) {a : Addr} {n : Nat} {L : List (Str × Tok × Str × Tok)} (hl : (K0 g.w.params).lookup a = some ⟨.type "dict", none, .dict (L.map fun q => (⟨PyData.keyHash g.w.params q.1, .str q.1 q.2.1, .str q.2.2.1 q.2.2.2⟩ : DictEntry)).toArray n, #[]⟩)
    (hs : (a == sysModules) = false) (hnd : (L.map (·.1)).Nodup) : BD g a (L.map fun q => (q.1, V.str q.2.2.1)) := by
  refine ⟨hs, fun prog σ s I => ⟨_, n, ⟨_, _, I.base _ _ (T.base hl), ⟨rfl, rfl, rfl⟩, rfl, fun e he => ?_, bd_pairs L, ?_⟩, bd_kr L⟩⟩
  · have he' := Array.mem_toList_iff.mpr he
    rw [List.toList_toArray] at he'
    obtain ⟨q, _, rfl⟩ := List.mem_map.mp he'
    exact ⟨q.1, PySem.strKind_is prog g.w q.1 q.2.1, rfl⟩
  · rw [List.map_map]; exact hnd
noncomputable def figNamesL : List (Str × Tok × Str × Tok) := [(Str.ofString "ZERO", 495, Str.ofString "ZERO", 496), (Str.ofString "ZEROS", 497, Str.ofString "ZERO", 498), (Str.ofString "ZEROES", 499, Str.ofString "ZERO", 500), (Str.ofString "SPACE", 501, Str.ofString "SPACE", 502), (Str.ofString "SPACES", 503, Str.ofString "SPACE", 504), (Str.ofString "HIGH-VALUE", 505, Str.ofString "HIGH", 506), (Str.ofString "HIGH-VALUES", 507, Str.ofString "HIGH", 508), (Str.ofString "LOW-VALUE", 509, Str.ofString "LOW", 510), (Str.ofString "LOW-VALUES", 511, Str.ofString "LOW", 512), (Str.ofString "QUOTE", 513, Str.ofString "QUOTE", 514), (Str.ofString "QUOTES", 515, Str.ofString "QUOTE", 516)]
theorem bd_figNames (T : Top g) : BD g 219 (figNamesL.map fun q => (q.1, V.str q.2.2.1)) := bd_of T (n := 11) rfl (by decide +kernel) (by decide +kernel)
noncomputable def useWordsL : List (Str × Tok × Str × Tok) := [(Str.ofString "DISPLAY", 601, Str.ofString "display", 602), (Str.ofString "COMP", 603, Str.ofString "binary", 604), (Str.ofString "COMPUTATIONAL", 605, Str.ofString "binary", 606), (Str.ofString "BINARY", 607, Str.ofString "binary", 608), (Str.ofString "PACKED-DECIMAL", 609, Str.ofString "packed", 610), (Str.ofString "COMP-3", 611, Str.ofString "packed", 612), (Str.ofString "COMPUTATIONAL-3", 613, Str.ofString "packed", 614), (Str.ofString "INDEX", 615, Str.ofString "index", 616)]
theorem bd_useWords (T : Top g) : BD g 269 (useWordsL.map fun q => (q.1, V.str q.2.2.1)) := bd_of T (n := 8) rfl (by decide +kernel) (by decide +kernel)
end
section
noncomputable def infixB : List Nat → List Nat → Bool
  | [], y => y.isEmpty
  | a :: x, y => y.isPrefixOf (a :: x) || infixB x y
theorem prefix_take : ∀ (y x : List Nat), y.isPrefixOf x = (x.take y.length == y)
  | [], x => by simp
  | b :: y, [] => by simp
  | b :: y, a :: x => by
    rw [List.isPrefixOf_cons_cons, List.length_cons, List.take_succ_cons, prefix_take y x]
    by_cases h : b = a
    · subst h; simp
    · have : (b == a) = false := beq_eq_false_iff_ne.mpr h
      have h2 : (a :: List.take y.length x == b :: y) = false := beq_eq_false_iff_ne.mpr fun z => h (List.cons.inj z).1.symm
      rw [this, h2, Bool.false_and]
theorem infix_iff : ∀ (x y : List Nat), infixB x y = true ↔ ∃ i, i + y.length ≤ x.length ∧ ((x.drop i).take y.length == y) = true := by
  intro x
  induction x with
  | nil =>
    intro y
    rw [infixB, List.isEmpty_iff]
    constructor
    · rintro rfl; exact ⟨0, by simp, by simp⟩
    · rintro ⟨i, h, _⟩
      simp only [List.length_nil] at h
      exact List.length_eq_zero_iff.mp (by lia)
  | cons a x ih =>
    intro y
    rw [infixB, Bool.or_eq_true, prefix_take, ih y]
    constructor
    · rintro (h | ⟨i, h1, h2⟩)
      · refine ⟨0, ?_, by simpa using h⟩
        have := congrArg List.length (eq_of_beq h)
        rw [List.length_take] at this
        lia
      · exact ⟨i + 1, by simp; lia, by simpa using h2⟩
    · rintro ⟨i, h1, h2⟩
      cases i with
      | zero => exact .inl (by simpa using h2)
      | succ i => exact .inr ⟨i, by simp at h1; lia, by simpa using h2⟩
theorem isRes_eq (w : Str) : isRes w = infixB resStr.cps.toList (Str.ofString " " ++ w ++ Str.ofString " ").cps.toList := by
  have h := PySem.StrLaws.found_iff resStr (Str.ofString " " ++ w ++ Str.ofString " ")
  unfold isRes
  rw [Bool.eq_iff_iff, h, infix_iff]
  have e : ∀ s : Str, s.length = s.cps.toList.length := fun s => by rw [Array.length_toList]; rfl
  constructor
  · rintro ⟨i, h1, h2⟩
    rw [PySem.StrLaws.subAt_eq] at h2
    exact ⟨i, by rw [← e, ← e]; exact h1, by rw [← e]; exact h2⟩
  · rintro ⟨i, h1, h2⟩
    refine ⟨i, by rw [e, e]; exact h1, ?_⟩
    rw [PySem.StrLaws.subAt_eq, e]
    exact h2
theorem res_of {s : String} {cs : List Char} (e : s = String.ofList cs) {P : List Nat → Prop} (h : P (cs.map Char.toNat)) : P (Str.ofString s).cps.toList := by
  subst e
  rw [Fast.ofString_ofList]
  exact h
noncomputable def resB (l : List Nat) : Bool := !l.contains 48 && !l.contains 49 && infixB l [32, 90, 69, 82, 79, 32] && !infixB l [32, 70, 32] && !infixB l [32, 65, 32] && !infixB l [32, 66, 32]
theorem res_facts : resB resStr.cps.toList = true := by
  refine res_of (P := fun l => resB l = true) rfl ?_
  decide +kernel
end
section
theorem cps_app (x y : Str) : (x ++ y).cps.toList = x.cps.toList ++ y.cps.toList := by
  show (x.cps ++ y.cps).toList = _
  rw [Array.toList_append]
theorem isRes_eq' (w : Str) : isRes w = infixB resStr.cps.toList (32 :: (w.cps.toList ++ [32])) := by
  rw [isRes_eq, cps_app, cps_app]
  rfl
theorem resB_parts : resStr.cps.toList.contains 48 = false ∧ resStr.cps.toList.contains 49 = false ∧ infixB resStr.cps.toList [32, 90, 69, 82, 79, 32] = true ∧ infixB resStr.cps.toList [32, 70, 32] = false ∧ infixB resStr.cps.toList [32, 65, 32] = false ∧ infixB resStr.cps.toList [32, 66, 32] = false := by
  have := res_facts
  unfold resB at this
  simp only [Bool.and_eq_true, Bool.not_eq_true'] at this
  obtain ⟨⟨⟨⟨⟨a, b⟩, c⟩, d⟩, e⟩, f⟩ := this
  exact ⟨a, b, c, d, e, f⟩
theorem res_ZERO : isRes (Str.ofString "ZERO") = true := (isRes_eq' _).trans resB_parts.2.2.1
theorem res_F : isRes (Str.ofString "F") = false := (isRes_eq' _).trans resB_parts.2.2.2.1
theorem res_A : isRes (Str.ofString "A") = false := (isRes_eq' _).trans resB_parts.2.2.2.2.1
theorem res_B : isRes (Str.ofString "B") = false := (isRes_eq' _).trans resB_parts.2.2.2.2.2
theorem res_fig {w : Str} (h : 48 ∈ w.cps.toList ∨ 49 ∈ w.cps.toList) : isRes w = false := by
  rw [isRes_eq']
  cases q : infixB resStr.cps.toList (32 :: (w.cps.toList ++ [32])) with
  | false => rfl
  | true =>
    obtain ⟨i, _, e⟩ := (infix_iff _ _).mp q
    have e := eq_of_beq e
    have key : ∀ ch ∈ w.cps.toList, ch ∈ resStr.cps.toList := fun ch hc => by
      have : ch ∈ 32 :: (w.cps.toList ++ [32]) := .tail _ (List.mem_append_left _ hc)
      rw [← e] at this
      exact List.mem_of_mem_drop (List.mem_of_mem_take this)
    have p := resB_parts
    rcases h with h | h
    · have := List.contains_iff_mem.mpr (key _ h); rw [p.1] at this; cases this
    · have := List.contains_iff_mem.mpr (key _ h); rw [p.2.1] at this; cases this
section
variable {k : Nat} {c : FC} {P : Post} {Q : V → Store → Prop} {X : Addr → Prop} {σ : Store} {r : Addr} {R : RdA} {n : Nat} {rest : List Tk} {loc : Loc}
theorem c_read_figure (T : Top g) {p : Tk} {rest' : List Tk} {v : Str} (hR : RD σ r R n (p :: rest')) (hk : p.2.1 = Str.ofString "word") (hv : dget (figNamesL.map fun q => (q.1, V.str q.2.2.1)) p.2.2 = some (.str v))
    (h : ∀ σ', RD σ' r R (n + 1) rest' → Ext [r] σ σ' → Q (.tup [.str (Str.ofString "figure"), .str v]) σ') : CV prog g (k + 3) (.ref 261) [.ref r] Q X σ := by
  refine CF.cv (call_read_figure_1 T fun c hsc hcl => ?_)
  conv => arg 6; whnf
  obtain ⟨d, hd⟩ := hR.tok p (hR.mem (j := 0) rfl)
  have hp : pKind (p :: rest') 0 (Str.ofString "word") = true := by rw [pKind]; simp [hk]
  repeat k_caught0
  refine iteF (by rw [hp]; rfl) ?_
  repeat k_caught0
  rw [show pk (p :: rest') 0 = .ref p.1 from rfl]
  repeat k_caught0
  refine o_nind T.ok T.hb (.inl (bd_figNames T)) ?_
  repeat k_caught0
  refine iteF (by rw [hv]; rfl) ?_
  repeat k_caught0
  refine c_take T hR fun σ' hr he => ?_
  obtain ⟨d', hd'⟩ := hr.tok p (hR.mem (j := 0) rfl)
  repeat k_caught0
  refine i_dict T.ok T.hb (fun _ _ => rfl) (.inl (bd_figNames T)) hv ?_
  repeat k_caught0
  exact h σ' hr he
end
end
section
noncomputable abbrev sWord : Str := Str.ofString "word"
noncomputable abbrev sNum : Str := Str.ofString "number"
noncomputable abbrev sLit : Str := Str.ofString "literal"
noncomputable abbrev sSign : Str := Str.ofString "sign"
theorem k_nw : (sNum == sWord) = false := by decide +kernel
theorem k_ns : (sNum == sSign) = false := by decide +kernel
theorem k_lw : (sLit == sWord) = false := by decide +kernel
theorem k_ln : (sLit == sNum) = false := by decide +kernel
theorem k_ls : (sLit == sSign) = false := by decide +kernel
theorem k_wn : (sWord == sNum) = false := by decide +kernel
theorem k_wl : (sWord == sLit) = false := by decide +kernel
theorem k_ws : (sWord == sSign) = false := by decide +kernel
theorem k_sw : (sSign == sWord) = false := by decide +kernel
theorem pKind_cons {p : Tk} {rest' : List Tk} {kd kd' : Str} {b : Bool} (hk : p.2.1 = kd) (e : (kd == kd') = b) : pKind (p :: rest') 0 kd' = b := by rw [pKind, List.getElem?_cons_zero]; dsimp only; rw [hk]; exact e
theorem pWd_kind {p : Tk} {rest' : List Tk} {kd kd' w : Str} (hk : p.2.1 = kd) (e : (kd == kd') = false) : pWd (p :: rest') 0 kd' w = false := by rw [pWd, List.getElem?_cons_zero]; dsimp only; rw [hk, e, Bool.false_and]
theorem pWd_word {p : Tk} {rest' : List Tk} {kd w : Str} {b : Bool} (hk : p.2.1 = kd) (e : (p.2.2 == w) = b) : pWd (p :: rest') 0 kd w = b := by rw [pWd, List.getElem?_cons_zero]; dsimp only; rw [hk, beq_self_eq_true, Bool.true_and]; exact e
theorem pName_kind {p : Tk} {rest' : List Tk} {kd : Str} (hk : p.2.1 = kd) (e : (kd == sWord) = false) : pName (p :: rest') 0 = false := by rw [pName, List.getElem?_cons_zero]; dsimp only; rw [hk, e, Bool.false_and]
theorem pName_word {p : Tk} {rest' : List Tk} {b : Bool} (hk : p.2.1 = sWord) (e : isRes p.2.2 = b) : pName (p :: rest') 0 = !b := by rw [pName, List.getElem?_cons_zero]; dsimp only; rw [hk, beq_self_eq_true, Bool.true_and, e]
inductive Lit (p : Tk) : V → Prop
  | num {u : Nat} : p.2.1 = sNum → DecOk p.2.2 u → Lit p (.tup [.str sNum, .tup [.int u, .int 0]])
  | text : p.2.1 = sLit → p.2.2.length ≤ 1000 → (∀ ch ∈ p.2.2.cps.toList, ch < 256) → Lit p (.tup [.str (Str.ofString "text"), .bytes (byteArr (p.2.2.cps.toList.map fun c : Nat => (c : Int)))])
  | fig {f : Str} : p.2.1 = sWord → dget (figNamesL.map fun q => (q.1, V.str q.2.2.1)) p.2.2 = some (.str f) → (p.2.2 == Str.ofString "ALL") = false → isRes p.2.2 = true → Lit p (.tup [.str (Str.ofString "figure"), .str f])
theorem one_ALL : One (Str.ofString "ALL") := ⟨by decide +kernel, by decide +kernel⟩
section
variable {k : Nat} {c : FC} {P : Post} {Q : V → Store → Prop} {X : Addr → Prop} {σ : Store} {r : Addr} {R : RdA} {n : Nat} {rest : List Tk} {loc : Loc}
theorem c_read_operand (T : Top g) {p : Tk} {rest' : List Tk} {v e : V} (hR : RD σ r R n (p :: rest')) (hl : Lit p v) (h : ∀ σ', RD σ' r R (n + 1) rest' → Ext [r] σ σ' → Q v σ') : CV prog g (k + 6) (.ref 268) [.ref r, e] Q X σ := by
  refine CF.cv (call_read_operand_2 T fun c hsc hcl => ?_)
  conv => arg 6; whnf
  repeat k_caught0
  cases hl with
  | num hk hx =>
    refine c_is_number T hR (pWd_kind hk k_ns) (pWd_kind hk k_ns) ?_
    repeat k_caught0
    refine iteT (pKind_cons hk (beq_self_eq_true _)) ?_
    repeat k_caught0
    refine c_signed T hR hk hx fun σ' hr he => ?_
    repeat k_caught0
    exact h σ' hr he
  | text hk hx1 hx2 =>
    refine c_is_number T hR (pWd_kind hk k_ls) (pWd_kind hk k_ls) ?_
    repeat k_caught0
    refine iteF (pKind_cons hk k_ln) ?_
    repeat k_caught0
    refine iteT (pKind_cons hk (beq_self_eq_true _)) ?_
    repeat k_caught0
    refine c_octets T hR hk hx1 hx2 fun σ' hr he => ?_
    repeat k_caught0
    exact h σ' hr he
  | fig hk hf ha hres =>
    refine c_is_number T hR (pWd_kind hk k_ws) (pWd_kind hk k_ws) ?_
    repeat k_caught0
    refine iteF (pKind_cons hk k_wn) ?_
    repeat k_caught0
    refine iteF (pKind_cons hk k_wl) ?_
    repeat k_caught0
    refine c_skip1 T hR one_ALL (fun z => by rw [pWd_word hk ha] at z; cases z) fun _ => ?_
    repeat k_caught0
    refine c_read_figure T hR hk hf fun σ' hr he => ?_
    repeat k_caught0
    exact h σ' hr he
theorem c_read_literal (T : Top g) {p : Tk} {rest' : List Tk} {v : V} (hR : RD σ r R n (p :: rest')) (hS : Short R) (hl : Lit p v) (h : ∀ σ', RD σ' r R (n + 1) rest' → Ext [r] σ σ' → Q v σ') : CV prog g (k + 7) (.ref 283) [.ref r] Q X σ := by
  refine CF.cv (call_read_literal_1 T fun c hsc hcl => ?_)
  conv => arg 6; whnf
  repeat k_caught0
  refine c_is_name0 T hR hS ?_
  have e : pName (p :: rest') 0 = false := by
    cases hl with
    | num hk => exact pName_kind hk k_nw
    | text hk => exact pName_kind hk k_lw
    | fig hk _ _ hres => rw [pName_word hk hres]; rfl
  repeat k_caught0
  exact c_read_operand T hR hl h
end
end
section
section
variable {k : Nat} {c : FC} {P : Post} {Q : V → Store → Prop} {X : Addr → Prop} {σ σ' : Store} {r : Addr} {R : RdA} {n : Nat} {rest : List Tk} {loc : Loc}
theorem forl_cons {t : Expr} {body : List Stmt} {D : List Addr} {v : V} {vs : List V} (h : TA prog g k c loc t v (fun loc₁ => TSs prog g k c loc₁ body { nx := fun l σ₂ => (∀ d ∈ D, σ₂ d = σ d) ∧ ForL prog g k c t body P X D vs l σ₂, ct := fun l σ₂ => (∀ d ∈ D, σ₂ d = σ d) ∧ ForL prog g k c t body P X D vs l σ₂, rt := P.rt } X σ) X σ) :
    ForL prog g k c t body P X D (v :: vs) loc σ := h
theorem forl_nil {t : Expr} {body : List Stmt} {D : List Addr} (h : P.nx loc σ) : ForL prog g k c t body P X D [] loc σ := h
theorem forl_next {t : Expr} {body : List Stmt} {vs : List V} (h : ForL prog g k c t body P X [] vs loc σ') : (∀ d ∈ ([] : List Addr), σ' d = σ d) ∧ ForL prog g k c t body P X [] vs loc σ' := ⟨by simp, h⟩
theorem src_tup (T : Top g) {vs : List V} {p : List V → List Addr → Prop} (h : p vs []) : ∃ ws D, Src prog g (.tup vs) ws D σ ∧ p ws D := ⟨vs, [], Src.tup T.ok, h⟩
end
end
local macro_rules | `(tactic| k_caught0) => stp "forl_cons _;forl_nil _;forl_next _;src_tup A_;s_continue _;ta_name K_"
section
section
variable {k : Nat} {c : FC} {P : Post} {Q : V → Store → Prop} {X : Addr → Prop} {σ σ' : Store} {r : Addr} {R : RdA} {n : Nat} {rest : List Tk} {loc : Loc}
theorem pOne_word {p : Tk} {rest' : List Tk} (hk : p.2.1 = sWord) (ws : List Str) : pOne (p :: rest') ws = ws.find? fun w => p.2.2 == w := by
  unfold pOne
  congr 1
  funext w
  rw [pWd, List.getElem?_cons_zero]
  dsimp only
  rw [hk, beq_self_eq_true, Bool.true_and]
theorem pOne_kind {p : Tk} {rest' : List Tk} {kd : Str} (hk : p.2.1 = kd) (e : (kd == sWord) = false) (ws : List Str) : pOne (p :: rest') ws = none := by
  unfold pOne
  rw [List.find?_eq_none]
  intro w _
  rw [pWd_kind hk e]
  decide
noncomputable def oneB (l : List Str) : Bool := l.all fun w => Txt.split w (Str.ofString " ") == [w] && decide (w.length ≤ 1000)
theorem one_of_B {l : List Str} (h : oneB l = true) : ∀ w ∈ l, One w := fun w hw => by
  have := List.all_eq_true.mp h w hw
  rw [Bool.and_eq_true] at this
  exact ⟨eq_of_beq this.1, of_decide_eq_true this.2⟩
noncomputable abbrev useJ : Str := Txt.join (Str.ofString " ") ((useWordsL.map fun q => (q.1, V.str q.2.2.1)).map (·.1))
theorem sp_pic : Txt.split (Str.ofString "PIC PICTURE") (Str.ofString " ") = [Str.ofString "PIC", Str.ofString "PICTURE"] := by decide +kernel
theorem sp_lead : Txt.split (Str.ofString "LEADING TRAILING") (Str.ofString " ") = [Str.ofString "LEADING", Str.ofString "TRAILING"] := by decide +kernel
theorem sp_use : Txt.split useJ (Str.ofString " ") = useWordsL.map (·.1) := by decide +kernel
theorem sp_val : Txt.split (Str.ofString "VALUE VALUES") (Str.ofString " ") = [Str.ofString "VALUE", Str.ofString "VALUES"] := by decide +kernel
theorem sp_isare : Txt.split (Str.ofString "IS ARE") (Str.ofString " ") = [Str.ofString "IS", Str.ofString "ARE"] := by decide +kernel
theorem sp_thru : Txt.split (Str.ofString "THRU THROUGH") (Str.ofString " ") = [Str.ofString "THRU", Str.ofString "THROUGH"] := by decide +kernel
end
end
section
theorem fset_new : ∀ {fs : List (String × V)} {x : String} {v : V}, fs.lookup x = none → fset fs x v = fs ++ [(x, v)]
  | [], _, _, _ => rfl
  | p :: fs, x, v, h => by
    obtain ⟨y, w⟩ := p
    rw [List.lookup_cons] at h
    rw [fset]
    cases q : x == y with
    | true => rw [q] at h; cases h
    | false =>
      rw [q] at h
      have ne : ¬ y = x := fun z => by rw [z] at q; simp at q
      simp only [fset_new h, List.cons_append, ne]
      try rfl
section
variable {k : Nat} {c : FC} {P : Post} {Q : V → Store → Prop} {X : Addr → Prop} {σ σ' : Store} {r : Addr} {R : RdA} {n : Nat} {rest : List Tk} {loc : Loc}
theorem fld_new {a C d : Addr} {fs : List (String × V)} {x : String} {v : V} {p : Store → Prop} (hobj : σ a = some (.inst C d fs)) (hx : fs.lookup x = none) (ok : setOk g.K C (Str.ofString x) = true) (hl : fs.length ≤ 900)
    (h : ∀ σ', σ' a = some (.inst C d (fs ++ [(x, v)])) → Ext [a] σ σ' → p σ') : ∃ a' C' d' fs', V.ref a = .ref a' ∧ σ a' = some (.inst C' d' fs') ∧ setOk g.K C' (Str.ofString x) = true ∧ fs'.length ≤ 900 ∧ p (upd σ a' (.inst C' d' (fset fs' x v))) := by
  refine ⟨a, C, d, fs, rfl, hobj, ok, hl, ?_⟩
  rw [fset_new hx]
  exact h _ (upd_self ..) ((Ext.refl _ σ).upd_in (List.mem_singleton.mpr rfl))
theorem fld_set {a C d : Addr} {fs fs₂ : List (String × V)} {x : String} {v : V} {p : Store → Prop} (hobj : σ a = some (.inst C d fs)) (hx : fset fs x v = fs₂) (ok : setOk g.K C (Str.ofString x) = true) (hl : fs.length ≤ 900)
    (h : ∀ σ', σ' a = some (.inst C d fs₂) → Ext [a] σ σ' → p σ') : ∃ a' C' d' fs', V.ref a = .ref a' ∧ σ a' = some (.inst C' d' fs') ∧ setOk g.K C' (Str.ofString x) = true ∧ fs'.length ≤ 900 ∧ p (upd σ a' (.inst C' d' (fset fs' x v))) := by
  refine ⟨a, C, d, fs, rfl, hobj, ok, hl, ?_⟩
  rw [hx]
  exact h _ (upd_self ..) ((Ext.refl _ σ).upd_in (List.mem_singleton.mpr rfl))
theorem Same.fld {σ₁ σ₂ σ₃ : Store} {a : Addr} (x : Same σ₁ σ₂) (n : σ₁ a = none) (e : Ext [a] σ₂ σ₃) : Same σ₁ σ₃ := fun b hb => (e b (by rw [x b hb]; exact hb) (by simp; rintro rfl; exact hb n)).trans (x b hb)
noncomputable abbrev itF (lv : Int) (nm : Str) (val cd : V) (kd : Addr) (pa ren : V) : List (String × V) :=
  [("level", .int lv), ("name", .str nm), ("picture_text", .none), ("usage", .str (Str.ofString "")), ("sign", .str (Str.ofString "")), ("is_separate", .bool false), ("occurs", .none), ("redefines", .str (Str.ofString "")), ("value", val), ("is_justified", .bool false),
    ("is_blank_zero", .bool false), ("conditions", cd), ("kids", .ref kd), ("parent", pa), ("renames", ren), ("base", .str (Str.ofString "")), ("offset", .int 0), ("size", .int 0), ("shape", .none)]
set_option maxHeartbeats 4000000 in
theorem c_Item (T : Top g) {lv : Int} {nm : Str} (h : ∀ a d c k σ', σ' a = some (.inst 188 d (itF lv nm .none (.ref c) k .none .none)) → σ' c = some (.list []) → σ' k = some (.list []) → σ a = none → σ c = none → σ k = none → c ≠ k → Same σ σ' → Q (.ref a) σ') :
    CV prog g (k + 2) (.ref 188) [.int lv, .str nm] Q X σ := by
  refine CF.cv (mk_Item T fun a d ha hd nad => ?_)
  have x0 : Same σ (upd (upd σ d (.shadow a)) a (.inst 188 d [])) := ((Same.refl σ).upd hd).upd ha
  have q0 : (upd (upd σ d (.shadow a)) a (.inst 188 d [])) a = some (.inst 188 d []) := upd_self ..
  refine call_Item_init_3 T fun c hsc hcl => ?_
  conv => arg 6; whnf
  k_caughtB
  refine fld_new q0 (by kernel_rfl) (sa_of T (by kernel_rfl)) (by simp) fun σ1 q1 e1 => ?_
  have x1 := x0.fld ha e1
  k_caughtB
  refine fld_new q1 (by kernel_rfl) (sa_of T (by kernel_rfl)) (by simp) fun σ2 q2 e2 => ?_
  have x2 := x1.fld ha e2
  clear q1 x1 e2
  k_caughtB
  refine fld_new q2 (by kernel_rfl) (sa_of T (by kernel_rfl)) (by simp) fun σ3 q3 e3 => ?_
  have x3 := x2.fld ha e3
  clear q2 x2 e3
  k_caughtB
  refine fld_new q3 (by kernel_rfl) (sa_of T (by kernel_rfl)) (by simp) fun σ4 q4 e4 => ?_
  have x4 := x3.fld ha e4
  clear q3 x3 e4
  k_caughtB
  refine fld_new q4 (by kernel_rfl) (sa_of T (by kernel_rfl)) (by simp) fun σ5 q5 e5 => ?_
  have x5 := x4.fld ha e5
  clear q4 x4 e5
  k_caughtB
  refine fld_new q5 (by kernel_rfl) (sa_of T (by kernel_rfl)) (by simp) fun σ6 q6 e6 => ?_
  have x6 := x5.fld ha e6
  clear q5 x5 e6
  k_caughtB
  refine fld_new q6 (by kernel_rfl) (sa_of T (by kernel_rfl)) (by simp) fun σ7 q7 e7 => ?_
  have x7 := x6.fld ha e7
  clear q6 x6 e7
  k_caughtB
  refine fld_new q7 (by kernel_rfl) (sa_of T (by kernel_rfl)) (by simp) fun σ8 q8 e8 => ?_
  have x8 := x7.fld ha e8
  clear q7 x7 e8
  k_caughtB
  refine fld_new q8 (by kernel_rfl) (sa_of T (by kernel_rfl)) (by simp) fun σ9 q9 e9 => ?_
  have x9 := x8.fld ha e9
  clear q8 x8 e9
  k_caughtB
  refine fld_new q9 (by kernel_rfl) (sa_of T (by kernel_rfl)) (by simp) fun σ10 q10 e10 => ?_
  have x10 := x9.fld ha e10
  clear q9 x9 e10
  k_caughtB
  refine fld_new q10 (by kernel_rfl) (sa_of T (by kernel_rfl)) (by simp) fun σ11 q11 e11 => ?_
  have x11 := x10.fld ha e11
  clear q10 x10 e11
  repeat k_caught0
  refine s_setattr T.ok ?_ (by intro _; rfl)
  refine e_list T.ok rfl ⟨by decide, fun c1 hc => ?_⟩
  have nc : c1 ≠ a := fun z => by rw [z, q11] at hc; cases hc
  have q11' : (upd σ11 c1 (.list [])) a = some _ := (upd_ne nc.symm).trans q11
  have fc : σ c1 = none := x11.fresh hc
  repeat k_caught0
  refine fld_new q11' (by kernel_rfl) (sa_of T (by kernel_rfl)) (by simp) fun σ12 q12 e12 => ?_
  have x12 := (x11.upd fc).fld ha e12
  have lc12 := e12.get (upd_self σ11 c1 (.list [])) (by simp [nc])
  clear q11 x11 e12 q11'
  repeat k_caught0
  refine s_setattr T.ok ?_ (by intro _; rfl)
  refine e_list T.ok rfl ⟨by decide, fun k1 hk => ?_⟩
  have nk : k1 ≠ a := fun z => by rw [z, q12] at hk; cases hk
  have q12' : (upd σ12 k1 (.list [])) a = some _ := (upd_ne nk.symm).trans q12
  have fk : σ k1 = none := x12.fresh hk
  have nck : c1 ≠ k1 := fun z => by rw [← z, lc12] at hk; cases hk
  repeat k_caught0
  refine fld_new q12' (by kernel_rfl) (sa_of T (by kernel_rfl)) (by simp) fun σ13 q13 e13 => ?_
  have x13 := (x12.upd fk).fld ha e13
  have lc13 := e13.get ((upd_ne nck).trans lc12) (by simp [nc])
  have lk13 := e13.get (upd_self σ12 k1 (.list [])) (by simp [nk])
  clear q12 x12 e13 q12' lc12
  k_caughtB
  refine fld_new q13 (by kernel_rfl) (sa_of T (by kernel_rfl)) (by simp) fun σ14 q14 e14 => ?_
  have x14 := x13.fld ha e14
  have lc14 := e14.get lc13 (by simp [nc])
  have lk14 := e14.get lk13 (by simp [nk])
  clear q13 x13 e14 lc13 lk13
  k_caughtB
  refine fld_new q14 (by kernel_rfl) (sa_of T (by kernel_rfl)) (by simp) fun σ15 q15 e15 => ?_
  have x15 := x14.fld ha e15
  have lc15 := e15.get lc14 (by simp [nc])
  have lk15 := e15.get lk14 (by simp [nk])
  clear q14 x14 e15 lc14 lk14
  k_caughtB
  refine fld_new q15 (by kernel_rfl) (sa_of T (by kernel_rfl)) (by simp) fun σ16 q16 e16 => ?_
  have x16 := x15.fld ha e16
  have lc16 := e16.get lc15 (by simp [nc])
  have lk16 := e16.get lk15 (by simp [nk])
  clear q15 x15 e16 lc15 lk15
  k_caughtB
  refine fld_new q16 (by kernel_rfl) (sa_of T (by kernel_rfl)) (by simp) fun σ17 q17 e17 => ?_
  have x17 := x16.fld ha e17
  have lc17 := e17.get lc16 (by simp [nc])
  have lk17 := e17.get lk16 (by simp [nk])
  clear q16 x16 e17 lc16 lk16
  k_caughtB
  refine fld_new q17 (by kernel_rfl) (sa_of T (by kernel_rfl)) (by simp) fun σ18 q18 e18 => ?_
  have x18 := x17.fld ha e18
  have lc18 := e18.get lc17 (by simp [nc])
  have lk18 := e18.get lk17 (by simp [nk])
  clear q17 x17 e18 lc17 lk17
  k_caughtB
  refine fld_new q18 (by kernel_rfl) (sa_of T (by kernel_rfl)) (by simp) fun σ19 q19 e19 => ?_
  have x19 := x18.fld ha e19
  have lc19 := e19.get lc18 (by simp [nc])
  have lk19 := e19.get lk18 (by simp [nk])
  clear q18 x18 e19 lc18 lk18
  repeat k_caught0
  exact ⟨rfl, h a d c1 k1 σ19 q19 lc19 lk19 ha fc fk nck x19⟩
theorem c_Named (T : Top g) {nm : Str} {l : V} {vs : List V} (hl : Lst l vs σ) (hn : vs.length ≤ 1000) (h : ∀ a d σ', σ' a = some (.inst 141 d [("name", .str nm), ("rows", .tup vs)]) → σ a = none → Same σ σ' → Q (.ref a) σ') : CV prog g (k + 2) (.ref 141) [.str nm, l] Q X σ := by
  refine CF.cv (mk_Named T fun a d ha hd nad => ?_)
  have x0 : Same σ (upd (upd σ d (.shadow a)) a (.inst 141 d [])) := ((Same.refl σ).upd hd).upd ha
  have q0 : (upd (upd σ d (.shadow a)) a (.inst 141 d [])) a = some (.inst 141 d []) := upd_self ..
  refine call_Named_init_3 T fun c hsc hcl => ?_
  conv => arg 6; whnf
  k_caughtB
  refine fld_new q0 rfl (sa_of T (by kernel_rfl)) (by simp) fun σ1 q1 e1 => ?_
  have x1 := x0.fld ha e1
  repeat k_caught0
  refine s_setattr T.ok ?_ (by intro _; rfl)
  repeat k_caught0
  have hl1 : Lst l vs σ1 := by
    rcases hl with rfl | ⟨b, rfl, hb⟩
    · exact .inl rfl
    · exact .inr ⟨b, rfl, x1.get hb⟩
  refine c_tuple hl1 (by lia) ?_
  repeat k_caught0
  refine fld_new q1 rfl (sa_of T (by kernel_rfl)) (by simp) fun σ2 q2 e2 => ?_
  have x2 := x1.fld ha e2
  repeat k_caught0
  exact ⟨rfl, h a d σ2 q2 ha x2⟩
theorem c_Token (T : Top g) {kd w : Str} (h : ∀ a d σ', σ' a = some (tkO d kd w) → σ a = none → Same σ σ' → Q (.ref a) σ') : CV prog g (k + 2) (.ref 661) [.str kd, .str w] Q X σ := by
  refine CF.cv (mk_Token T fun a d ha hd nad => ?_)
  have x0 : Same σ (upd (upd σ d (.shadow a)) a (.inst 661 d [])) := ((Same.refl σ).upd hd).upd ha
  have q0 : (upd (upd σ d (.shadow a)) a (.inst 661 d [])) a = some (.inst 661 d []) := upd_self ..
  refine call_Token_init_3 T fun c hsc hcl => ?_
  conv => arg 6; whnf
  k_caughtB
  refine fld_new q0 rfl (sa_of T (by kernel_rfl)) (by simp) fun σ1 q1 e1 => ?_
  have x1 := x0.fld ha e1
  k_caughtB
  refine fld_new q1 rfl (sa_of T (by kernel_rfl)) (by simp) fun σ2 q2 e2 => ?_
  have x2 := x1.fld ha e2
  k_caughtB
  refine fld_new q2 rfl (sa_of T (by kernel_rfl)) (by simp) fun σ3 q3 e3 => ?_
  have x3 := x2.fld ha e3
  k_caughtB
  refine fld_new q3 rfl (sa_of T (by kernel_rfl)) (by simp) fun σ4 q4 e4 => ?_
  have x4 := x3.fld ha e4
  repeat k_caught0
  exact ⟨rfl, h a d σ4 q4 ha x4⟩
theorem c_Reader (T : Top g) {l : Addr} {tk : List Tk} (hl : σ l = some (.list (tk.map fun p => .ref p.1))) (ht : ∀ p ∈ tk, ∃ d, σ p.1 = some (tkO d p.2.1 p.2.2)) (hn : tk.length ≤ 900)
    (h : ∀ r d nd σ', RD σ' r ⟨d, l, nd, tk⟩ 0 tk → σ r = none → Same σ σ' → Q (.ref r) σ') : CV prog g (k + 2) (.ref 631) [.ref l] Q X σ := by
  refine CF.cv (mk_Reader T fun a d ha hd nad => ?_)
  have x0 : Same σ (upd (upd σ d (.shadow a)) a (.inst 631 d [])) := ((Same.refl σ).upd hd).upd ha
  have q0 : (upd (upd σ d (.shadow a)) a (.inst 631 d [])) a = some (.inst 631 d []) := upd_self ..
  refine call_Reader_init_2 T fun c hsc hcl => ?_
  conv => arg 6; whnf
  k_caughtB
  refine fld_new q0 rfl (sa_of T (by kernel_rfl)) (by simp) fun σ1 q1 e1 => ?_
  have x1 := x0.fld ha e1
  k_caughtB
  refine fld_new q1 rfl (sa_of T (by kernel_rfl)) (by simp) fun σ2 q2 e2 => ?_
  have x2 := x1.fld ha e2
  repeat k_caught0
  refine s_setattr T.ok ?_ (by intro _; rfl)
  refine e_dict0 T.ok fun nd m hnd => ?_
  have nn : nd ≠ a := fun z => by rw [z, q2] at hnd; cases hnd
  have q2' : (upd σ2 nd (.dict [] m)) a = some _ := (upd_ne nn.symm).trans q2
  repeat k_caught0
  refine fld_new q2' rfl (sa_of T (by kernel_rfl)) (by simp) fun σ3 q3 e3 => ?_
  have x3 := (x2.upd (x2.fresh hnd)).fld ha e3
  repeat k_caught0
  exact ⟨rfl, h a d nd σ3 ⟨q3, x3.get hl, fun p hp => let ⟨d, hd⟩ := ht p hp; ⟨d, x3.get hd⟩, rfl, Nat.zero_le _, hn⟩ ha x3⟩
end
end
section
end
local macro_rules | `(tactic| k_caught0) => stp "iteT k_;iteF k_"
section
noncomputable def Is (p : Tk) (kd w : Str) : Prop := p.2.1 = kd ∧ p.2.2 = w
section
variable {k : Nat} {c : FC} {P : Post} {Q : V → Store → Prop} {X : Addr → Prop} {σ σ' : Store} {r : Addr} {R : RdA} {n : Nat} {rest : List Tk} {loc : Loc}
theorem pOne_is {p : Tk} {rest' : List Tk} {w : Str} {l : List Str} {o : Option Str} (hp : Is p sWord w) (e : (l.find? fun x => w == x) = o) : pOne (p :: rest') l = o := by
  rw [pOne_word hp.1, hp.2]; exact e
theorem pWd_is {p : Tk} {rest' : List Tk} {kd w w' : Str} {b : Bool} (hp : Is p kd w) (e : (w == w') = b) : pWd (p :: rest') 0 kd w' = b := pWd_word hp.1 (by rw [hp.2]; exact e)
theorem pWd_is' {p : Tk} {rest' : List Tk} {kd kd' w w' : Str} (hp : Is p kd w) (e : (kd == kd') = false) : pWd (p :: rest') 0 kd' w' = false := pWd_kind hp.1 e
theorem c_one_none (T : Top g) {ws : Str} {l : List Str} (hR : RD σ r R n rest) (sp : Txt.split ws (Str.ofString " ") = l) (hl : ws.length ≤ 1000000) (on : oneB l = true) (hn : pOne rest l = none) (h : Q (.str (Str.ofString "")) σ) : CV prog g (k + 5) (.ref 542) [.ref r, .str ws] Q X σ := by
  subst sp
  exact c_one_of T hR hl (one_of_B on) (fun w e => by rw [hn] at e; cases e) fun _ => h
theorem c_one_some (T : Top g) {ws w : Str} {l : List Str} {p : Tk} {rest' : List Tk} (hR : RD σ r R n (p :: rest')) (sp : Txt.split ws (Str.ofString " ") = l) (hl : ws.length ≤ 1000000) (on : oneB l = true) (hn : pOne (p :: rest') l = some w) (h : ∀ σ', RD σ' r R (n + 1) rest' → Ext [r] σ σ' → Q (.str w) σ') :
    CV prog g (k + 5) (.ref 542) [.ref r, .str ws] Q X σ := by
  subst sp
  exact c_one_of T hR hl (one_of_B on) (fun w' e σ' hr he => by rw [hn] at e; cases e; exact h σ' hr he) fun e => by rw [hn] at e; cases e
theorem c_skip_no (T : Top g) {w : Str} (hR : RD σ r R n rest) (h1 : oneB [w] = true) (hn : pWd rest 0 sWord w = false) (h : Q (.bool false) σ) : CV prog g (k + 4) (.ref 528) [.ref r, .str w] Q X σ :=
  c_skip1 T hR (one_of_B h1 w (.head _)) (fun e => by rw [hn] at e; cases e) fun _ => h
theorem c_skip_yes (T : Top g) {w : Str} {p : Tk} {rest' : List Tk} (hR : RD σ r R n (p :: rest')) (h1 : oneB [w] = true) (hn : pWd (p :: rest') 0 sWord w = true) (h : ∀ σ', RD σ' r R (n + 1) rest' → Ext [r] σ σ' → Q (.bool true) σ') : CV prog g (k + 4) (.ref 528) [.ref r, .str w] Q X σ :=
  c_skip1 T hR (one_of_B h1 w (.head _)) (fun _ σ' hr he => h σ' hr he) fun e => by rw [hn] at e; cases e
theorem c_need1 (T : Top g) {w : Str} {p : Tk} {rest' : List Tk} (hR : RD σ r R n (p :: rest')) (h1 : oneB [w] = true) (hn : pWd (p :: rest') 0 sWord w = true) (h : ∀ σ', RD σ' r R (n + 1) rest' → Ext [r] σ σ' → Q .none σ') : CV prog g (k + 5) (.ref 535) [.ref r, .str w] Q X σ := by
  refine CF.cv (call_Reader_need_2 T fun c hsc hcl => ?_)
  conv => arg 6; whnf
  repeat k_caught0
  refine c_skip_yes T hR h1 hn fun σ' hr he => ?_
  repeat k_caught0
  exact h σ' hr he
theorem c_read_bare (T : Top g) {p : Tk} {rest' : List Tk} {v : V} (hR : RD σ r R n (p :: rest')) (hp : Is p sWord (Str.ofString "VALUE")) (h : Q (.str (Str.ofString "")) σ) : CV prog g (k + 6) (.ref 316) [.ref r, v] Q X σ := by
  refine CF.cv (call_read_bare_clause_2 T fun c hsc hcl => ?_)
  conv => arg 6; whnf
  repeat k_caught0
  refine c_one_none T hR sp_pic (by decide) (by decide +kernel) (pOne_is hp (by decide +kernel)) ?_
  repeat k_caught0
  refine c_join T.ok T.hb (.inl (bd_useWords T)) (by decide +kernel) (by decide +kernel) ?_
  repeat k_caught0
  refine c_one_none T hR sp_use (by decide +kernel) (by decide +kernel) (pOne_is hp (by decide +kernel)) ?_
  repeat k_caught0
  refine c_one_none T hR sp_lead (by decide +kernel) (by decide +kernel) (pOne_is hp (by decide +kernel)) ?_
  repeat k_caught0
  exact h
theorem c_clause_word (T : Top g) {p : Tk} {rest' : List Tk} (hR : RD σ r R n (p :: rest')) (hp : Is p sWord (Str.ofString "VALUE")) (h : ∀ σ', RD σ' r R (n + 1) rest' → Ext [r] σ σ' → Q (.str (Str.ofString "VALUE")) σ') : CV prog g (k + 5) (.ref 309) [.ref r] Q X σ := by
  refine CF.cv (call_clause_word_1 T fun c hsc hcl => ?_)
  conv => arg 6; whnf
  repeat k_caught0
  refine c_skip_no T hR (by decide +kernel) (pWd_is hp (by decide +kernel)) ?_
  repeat k_caught0
  refine c_skip_no T hR (by decide +kernel) (pWd_is hp (by decide +kernel)) ?_
  repeat k_caught0
  refine c_skip_no T hR (by decide +kernel) (pWd_is hp (by decide +kernel)) ?_
  repeat k_caught0
  refine c_skip_yes T hR (by decide +kernel) (pWd_is hp (by decide +kernel)) fun σ' hr he => ?_
  repeat k_caught0
  exact h σ' hr he
end
end
section
noncomputable def NoRd : O → Prop
  | .list _ => False
  | .inst C _ _ => C ≠ 631 ∧ C ≠ 661
  | _ => True
section
variable {k : Nat} {c : FC} {P : Post} {Q : V → Store → Prop} {X : Addr → Prop} {σ σ' : Store} {r : Addr} {R : RdA} {n : Nat} {rest : List Tk} {loc : Loc}
theorem ne_new {a b : Addr} {o : O} (ha : σ a = some o) (hb : σ b = none) : b ≠ a := fun z => by rw [z, ha] at hb; cases hb
theorem RD.off (hR : RD σ r R n rest) {a : Addr} {o : O} (ha : σ a = some o) (no : NoRd o) : r ≠ a ∧ R.l ≠ a ∧ ∀ p ∈ R.tk, p.1 ≠ a := by
  refine ⟨fun z => ?_, fun z => ?_, fun p hp z => ?_⟩
  · rw [← z, hR.self] at ha; cases ha; exact no.1 rfl
  · rw [← z, hR.list] at ha; cases ha; exact no
  · obtain ⟨d, hd⟩ := hR.tok p hp
    rw [← z, hd] at ha; cases ha; exact no.2 rfl
theorem RD.set (hR : RD σ r R n rest) {a : Addr} {o : O} (ha : σ a = some o) (no : NoRd o) (e : Ext [a] σ σ') : RD σ' r R n rest := by
  obtain ⟨h1, h2, h3⟩ := hR.off ha no
  exact hR.ext e (by simpa using h1) (by simpa using h2) (fun p hp => by simpa using h3 p hp)
theorem no188 {d : Addr} {fs : List (String × V)} : NoRd (.inst 188 d fs) := ⟨by decide, by decide⟩
theorem no214 {d : Addr} {fs : List (String × V)} : NoRd (.inst 214 d fs) := ⟨by decide, by decide⟩
theorem c_read_named (T : Top g) {p : Tk} {rest' : List Tk} {i d : Addr} {lv : Int} {nm : Str} {v0 cd pa ren : V} {kd : Addr} {u : Nat} (hR : RD σ r R n (p :: rest')) (hS : Short R) (hi : σ i = some (.inst 188 d (itF lv nm v0 cd kd pa ren)))
    (hk : p.2.1 = sNum) (hx : DecOk p.2.2 u)
    (h : ∀ σ', RD σ' r R (n + 1) rest' → Ext [r, i] σ σ' → σ' i = some (.inst 188 d (itF lv nm (.tup [.str sNum, .tup [.int u, .int 0]]) cd kd pa ren)) → Q .none σ') : CV prog g (k + 8) (.ref 302) [.ref r, .ref i, .str (Str.ofString "VALUE")] Q X σ := by
  refine CF.cv (call_read_named_clause_3 T fun c hsc hcl => ?_)
  conv => arg 6; whnf
  repeat k_caught0
  refine c_skip_no T hR (by decide +kernel) (pWd_kind hk k_nw) ?_
  repeat k_caught0
  refine s_setattr T.ok ?_ (by intro _; rfl)
  repeat k_caught0
  refine c_read_literal T hR hS (.num hk hx) fun σ1 hR1 e1 => ?_
  have hi1 := e1.get hi (by simpa using (hR.off hi no188).1.symm)
  repeat k_caught0
  refine fld_set hi1 (fs₂ := itF lv nm (.tup [.str sNum, .tup [.int u, .int 0]]) cd kd pa ren) (by kernel_rfl) (sa_of T (by kernel_rfl)) (by simp) fun σ2 q2 e2 => ?_
  repeat k_caught0
  exact h σ2 (hR1.set hi1 no188 e2) ((e1.mono (by simp)).trans (e2.mono (by simp))) q2
theorem c_read_clauses0 (T : Top g) {p : Tk} {rest' : List Tk} {v : V} (hR : RD σ r R n (p :: rest')) (hp : Is p sSign (Str.ofString ".")) (h : ∀ σ', Same σ σ' → Q .none σ') : CV prog g (k + 9) (.ref 323) [.ref r, v] Q X σ := by
  refine CF.cv (call_read_clauses_2 T fun c hsc hcl => ?_)
  conv => arg 6; whnf
  refine ss_cons ?_
  refine s_assign (lk_of hsc rfl) (e_list T.ok rfl ⟨by decide, fun m hm => ?_⟩) (by intro _; rfl)
  have sm := (Same.refl σ).upd (o := .list []) hm
  have hR := hR.same sm
  repeat k_caught0
  refine s_while (fun n loc₁ σ₁ => (∀ p ∈ ([("reader", .ref r)] : Loc), p ∈ loc₁) ∧ σ₁ = upd σ m (.list [])) 0 ⟨by simp, rfl⟩ ?_
  rintro n loc₁ σ₁ ⟨hs, rfl⟩
  refine TB.sub ?_ hs
  repeat k_caught0
  refine iteF (by rw [pWd_is hp (b := true) (by decide +kernel)]; rfl) ?_
  repeat k_caught0
  exact h _ sm
theorem c_read_clauses1 (T : Top g) {p pv pd : Tk} {rest' : List Tk} {i d : Addr} {lv : Int} {nm : Str} {v0 cd pa ren : V} {kd : Addr} {u : Nat} (hR : RD σ r R n (p :: pv :: pd :: rest')) (hS : Short R) (hi : σ i = some (.inst 188 d (itF lv nm v0 cd kd pa ren)))
    (hp : Is p sWord (Str.ofString "VALUE")) (hk : pv.2.1 = sNum) (hx : DecOk pv.2.2 u) (hd : Is pd sSign (Str.ofString "."))
    (h : ∀ σ', RD σ' r R (n + 1 + 1) (pd :: rest') → Ext [r, i] σ σ' → σ' i = some (.inst 188 d (itF lv nm (.tup [.str sNum, .tup [.int u, .int 0]]) cd kd pa ren)) → Q .none σ') : CV prog g (k + 9) (.ref 323) [.ref r, .ref i] Q X σ := by
  refine CF.cv (call_read_clauses_2 T fun c hsc hcl => ?_)
  conv => arg 6; whnf
  refine ss_cons ?_
  refine s_assign (lk_of hsc rfl) (e_list T.ok rfl ⟨by decide, fun m hm => ?_⟩) (by intro _; rfl)
  have sm := (Same.refl σ).upd (o := .list []) hm
  have hR0 := hR.same sm
  have hi0 := sm.get hi
  repeat k_caught0
  refine s_while (fun j loc₁ σ₁ => (∀ p ∈ ([("reader", .ref r), ("item", .ref i), ("met", .ref m)] : Loc), p ∈ loc₁) ∧ match j with
    | 0 => RD σ₁ r R (n + 1 + 1) (pd :: rest') ∧ Ext [r, i] σ σ₁ ∧ σ₁ i = some (.inst 188 d (itF lv nm (.tup [.str sNum, .tup [.int u, .int 0]]) cd kd pa ren))
    | 1 => σ₁ = upd σ m (.list [])
    | _ => False) 1 ⟨by simp, rfl⟩ ?_
  rintro j loc₁ σ₁ ⟨hs, hj⟩
  match j, hj with
  | 0, hj =>
    obtain ⟨hR2, e2, q2⟩ := hj
    refine TB.sub ?_ hs
    repeat k_caught0
    refine iteF (by rw [pWd_is hd (b := true) (by decide +kernel)]; rfl) ?_
    repeat k_caught0
    exact h _ hR2 e2 q2
  | 1, hj =>
    subst hj
    refine TB.sub ?_ hs
    repeat k_caught0
    refine iteT (by rw [pWd_is' hp k_ws]; rfl) ?_
    refine TSs.sub ?_ hs
    repeat k_caught0
    refine c_read_bare T hR0 hp ?_
    repeat k_caught0
    refine c_clause_word T hR0 hp fun σ1 hR1 e1 => ?_
    have nr := hR0.off hi0 no188
    have hm0 : (upd σ m (.list [])) m = some (.list []) := upd_self ..
    have nmr : m ≠ r := ne_new hR.self hm
    have nmi : m ≠ i := ne_new hi hm
    have hi1 := e1.get hi0 (by simpa using nr.1.symm)
    have hm1 := e1.get hm0 (by simpa using nmr)
    repeat k_caught0
    refine c_read_named T hR1 hS hi1 hk hx fun σ2 hR2 e2 q2 => ?_
    have hm2 := e2.get hm1 (by simp [nmr, nmi])
    repeat k_caught0
    refine o_inls (ns := []) (.inr ⟨_, rfl, hm2⟩) ?_
    repeat k_caught0
    refine c_append hm2 (by decide) ?_
    repeat k_caught0
    refine ⟨0, by decide, by simp, ?_, ?_, ?_⟩
    · have := hR2.ext (D := [m]) (σ' := upd σ2 m (.list ([] ++ [V.str (Str.ofString "VALUE")]))) ((Ext.refl _ σ2).upd_in (by simp)) (by simpa using nmr.symm) ?_ ?_
      · exact this
      · simpa using (ne_new hR.list hm).symm
      · intro p hp
        obtain ⟨d, hd⟩ := hR.tok p hp
        simpa using (ne_new hd hm).symm
    · exact (((Ext.of_same (sm : Same σ _)).trans (e1.mono (by simp))).trans e2).upd_new hm
    · exact (upd_ne nmi.symm).trans q2
end
end
section
section
variable {k : Nat} {c : FC} {P : Post} {Q : V → Store → Prop} {X : Addr → Prop} {σ σ' : Store} {r : Addr} {R : RdA} {n : Nat} {rest : List Tk} {loc : Loc}
theorem RD.upd_list (hR : RD σ r R n rest) {σ₀ : Store} {n₀ : Nat} {rest₀ : List Tk} (hR₀ : RD σ₀ r R n₀ rest₀) {m : Addr} (hm : σ₀ m = none) {o : O} (e : Ext [m] σ σ') : RD σ' r R n rest :=
  hR.ext e (by simpa using (ne_new hR₀.self hm).symm) (by simpa using (ne_new hR₀.list hm).symm) fun p hp => by
    obtain ⟨d, hd⟩ := hR₀.tok p hp
    simpa using (ne_new hd hm).symm
theorem RD.live (hR : RD σ r R n rest) : ∀ d ∈ [r], σ d ≠ none := fun d hd => by rw [List.mem_singleton.mp hd, hR.self]; intro z; cases z
theorem c_read_worths (T : Top g) {pv pa p1 pt p2 p3 p4 pd : Tk} {rest' : List Tk} {v1 v2 v3 v4 : V} (hR : RD σ r R n (pv :: pa :: p1 :: pt :: p2 :: p3 :: p4 :: pd :: rest')) (hS : Short R)
    (hv : Is pv sWord (Str.ofString "VALUES")) (ha : Is pa sWord (Str.ofString "ARE")) (h1 : Lit p1 v1) (ht : Is pt sWord (Str.ofString "THRU")) (h2 : Lit p2 v2) (h3 : Lit p3 v3) (h4 : Lit p4 v4) (hd : Is pd sSign (Str.ofString "."))
    (k2 : p2.2.1 = sLit) (k3 : p3.2.1 = sNum) (k4 : Is p4 sWord (Str.ofString "ZERO"))
    (h : ∀ w σ', RD σ' r R (n + 7) (pd :: rest') → Ext [r] σ σ' → σ w = none → σ' w = some (.list [.tup [v1, v2], .tup [v3, .none], .tup [v4, .none]]) → Q (.ref w) σ') : CV prog g (k + 9) (.ref 330) [.ref r] Q X σ := by
  refine CF.cv (call_read_worths_1 T fun c hsc hcl => ?_)
  conv => arg 6; whnf
  repeat k_caught0
  refine c_one_some T hR sp_val (by decide) (by decide +kernel) (pOne_is hv (o := some (Str.ofString "VALUES")) (by decide +kernel)) fun σ1 hR1 e1 => ?_
  repeat k_caught0
  refine c_one_some T hR1 sp_isare (by decide) (by decide +kernel) (pOne_is ha (o := some (Str.ofString "ARE")) (by decide +kernel)) fun σ2 hR2 e2 => ?_
  repeat k_caught0
  refine e_list T.ok rfl ⟨by decide, fun m hm => ?_⟩
  have e3 : Ext [r] σ (upd σ2 m (.list [])) := (e1.trans e2).trans (Ext.of_same ((Same.refl σ2).upd hm))
  have hR3 : RD (upd σ2 m (.list [])) r R (n + 2) (p1 :: pt :: p2 :: p3 :: p4 :: pd :: rest') := hR2.same ((Same.refl σ2).upd hm)
  have fm : σ m = none := (e1.trans e2).fresh hm hR2.live
  have nmr : m ≠ r := ne_new hR.self fm
  have hm3 : (upd σ2 m (.list [])) m = some (.list []) := upd_self ..
  repeat k_caught0
  refine s_while (fun j loc₁ σ₁ => (∀ p ∈ ([("reader", .ref r), ("rows", .ref m)] : Loc), p ∈ loc₁) ∧ Ext [r, m] σ σ₁ ∧ match j with
    | 0 => RD σ₁ r R (n + 7) (pd :: rest') ∧ σ₁ m = some (.list [.tup [v1, v2], .tup [v3, .none], .tup [v4, .none]])
    | 1 => RD σ₁ r R (n + 6) (p4 :: pd :: rest') ∧ σ₁ m = some (.list [.tup [v1, v2], .tup [v3, .none]])
    | 2 => RD σ₁ r R (n + 5) (p3 :: p4 :: pd :: rest') ∧ σ₁ m = some (.list [.tup [v1, v2]])
    | 3 => RD σ₁ r R (n + 2) (p1 :: pt :: p2 :: p3 :: p4 :: pd :: rest') ∧ σ₁ m = some (.list [])
    | _ => False) 3 ⟨by simp, e3.mono (by simp), hR3, hm3⟩ ?_
  rintro j loc₁ σ₁ ⟨hs, ex, hj⟩
  match j, hj with
  | 0, ⟨hR', hm'⟩ =>
    refine TB.sub ?_ hs
    repeat k_caught0
    refine e_lst rfl ?_
    repeat k_caught0
    refine o_eql (.inr ⟨_, rfl, hm'⟩) (.inl rfl) (.inr (by simp)) ?_
    repeat k_caught0
    refine iteF rfl ?_
    repeat k_caught0
    refine iteF (by rw [pWd_is hd (b := true) (by decide +kernel)]; rfl) ?_
    refine TSs.sub ?_ hs
    repeat k_caught0
    exact h m _ hR' (fun b hb hn => ex b hb (by simp at hn ⊢; exact ⟨hn, fun z => hb (z ▸ fm)⟩)) fm hm'
  | 1, ⟨hR', hm'⟩ =>
    refine TB.sub ?_ hs
    repeat k_caught0
    refine e_lst rfl ?_
    repeat k_caught0
    refine o_eql (.inr ⟨_, rfl, hm'⟩) (.inl rfl) (.inr (by simp)) ?_
    repeat k_caught0
    refine iteF rfl ?_
    repeat k_caught0
    refine iteT (by rw [pWd_is' k4 k_ws]; rfl) ?_
    refine TSs.sub ?_ hs
    repeat k_caught0
    refine c_read_literal T hR' hS h4 fun σ4 hR4 e4 => ?_
    repeat k_caught0
    refine c_one_none T hR4 sp_thru (by decide) (by decide +kernel) (pOne_kind hd.1 k_sw _) ?_
    have hm4 := e4.get hm' (by simpa using nmr)
    repeat k_caught0
    refine c_append hm4 (by simp) ?_
    have em : Ext [m] σ4 (upd σ4 m (.list ([.tup [v1, v2], .tup [v3, .none]] ++ [.tup [v4, .none]]))) := (Ext.refl _ _).upd_in (by simp)
    repeat k_caught0
    exact ⟨0, by decide, by simp, (ex.trans (e4.mono (by simp))).trans (em.mono (by simp)), hR4.upd_list (o := .list []) hR fm em, upd_self ..⟩
  | 2, ⟨hR', hm'⟩ =>
    refine TB.sub ?_ hs
    repeat k_caught0
    refine e_lst rfl ?_
    repeat k_caught0
    refine o_eql (.inr ⟨_, rfl, hm'⟩) (.inl rfl) (.inr (by simp)) ?_
    repeat k_caught0
    refine iteF rfl ?_
    repeat k_caught0
    refine iteT (by rw [pWd_kind k3 k_ns]; rfl) ?_
    refine TSs.sub ?_ hs
    repeat k_caught0
    refine c_read_literal T hR' hS h3 fun σ4 hR4 e4 => ?_
    repeat k_caught0
    refine c_one_none T hR4 sp_thru (by decide) (by decide +kernel) (pOne_is k4 (by decide +kernel)) ?_
    have hm4 := e4.get hm' (by simpa using nmr)
    repeat k_caught0
    refine c_append hm4 (by simp) ?_
    have em : Ext [m] σ4 (upd σ4 m (.list ([.tup [v1, v2]] ++ [.tup [v3, .none]]))) := (Ext.refl _ _).upd_in (by simp)
    repeat k_caught0
    exact ⟨1, by decide, by simp, (ex.trans (e4.mono (by simp))).trans (em.mono (by simp)), hR4.upd_list (o := .list []) hR fm em, upd_self ..⟩
  | 3, ⟨hR', hm'⟩ =>
    refine TB.sub ?_ hs
    repeat k_caught0
    refine e_lst rfl ?_
    repeat k_caught0
    refine o_eql (.inr ⟨_, rfl, hm'⟩) (.inl rfl) (.inl ⟨rfl, by decide +kernel⟩) ?_
    refine bq (iteT rfl (iteT rfl ?_))
    refine TSs.sub ?_ hs
    repeat k_caught0
    refine c_read_literal T hR' hS h1 fun σ4 hR4 e4 => ?_
    repeat k_caught0
    refine c_one_some T hR4 sp_thru (by decide) (by decide +kernel) (pOne_is ht (o := some (Str.ofString "THRU")) (by decide +kernel)) fun σ5 hR5 e5 => ?_
    repeat k_caught0
    refine c_read_literal T hR5 hS h2 fun σ6 hR6 e6 => ?_
    have e6 := (e4.trans e5).trans e6
    have hm4 := e6.get hm' (by simpa using nmr)
    repeat k_caught0
    refine c_append hm4 (by simp) ?_
    have em : Ext [m] σ6 (upd σ6 m (.list ([] ++ [.tup [v1, v2]]))) := (Ext.refl _ _).upd_in (by simp)
    repeat k_caught0
    exact ⟨2, by decide, by simp, (ex.trans (e6.mono (by simp))).trans (em.mono (by simp)), hR6.upd_list (o := .list []) hR fm em, upd_self ..⟩
theorem c_read_renames0 (T : Top g) {pr p1 pd : Tk} {rest' : List Tk} (hR : RD σ r R n (pr :: p1 :: pd :: rest')) (hS : Short R) (hr : Is pr sWord (Str.ofString "RENAMES")) (h1 : p1.2.1 = sWord) (h1' : isRes p1.2.2 = false) (hd : Is pd sSign (Str.ofString "."))
    (h : ∀ σ', RD σ' r R (n + 2) (pd :: rest') → Ext [r] σ σ' → Q (.tup [.str p1.2.2, .none]) σ') : CV prog g (k + 6) (.ref 337) [.ref r] Q X σ := by
  refine CF.cv (call_read_renames_1 T fun c hsc hcl => ?_)
  conv => arg 6; whnf
  repeat k_caught0
  refine c_need1 T hR (by decide +kernel) (pWd_is hr (by decide +kernel)) fun σ1 hR1 e1 => ?_
  repeat k_caught0
  refine c_name T hR1 hS (by rw [pName_word h1 h1']; rfl) fun σ2 hR2 e2 => ?_
  repeat k_caught0
  refine c_one_none T hR2 sp_thru (by decide) (by decide +kernel) (pOne_kind hd.1 k_sw _) ?_
  repeat k_caught0
  exact h σ2 hR2 (e1.trans e2)
theorem c_read_renames1 (T : Top g) {pr p1 pt p2 pd : Tk} {rest' : List Tk} (hR : RD σ r R n (pr :: p1 :: pt :: p2 :: pd :: rest')) (hS : Short R) (hr : Is pr sWord (Str.ofString "RENAMES")) (h1 : p1.2.1 = sWord) (h1' : isRes p1.2.2 = false)
    (ht : Is pt sWord (Str.ofString "THROUGH")) (h2 : p2.2.1 = sWord) (h2' : isRes p2.2.2 = false)
    (h : ∀ σ', RD σ' r R (n + 4) (pd :: rest') → Ext [r] σ σ' → Q (.tup [.str p1.2.2, .str p2.2.2]) σ') : CV prog g (k + 6) (.ref 337) [.ref r] Q X σ := by
  refine CF.cv (call_read_renames_1 T fun c hsc hcl => ?_)
  conv => arg 6; whnf
  repeat k_caught0
  refine c_need1 T hR (by decide +kernel) (pWd_is hr (by decide +kernel)) fun σ1 hR1 e1 => ?_
  repeat k_caught0
  refine c_name T hR1 hS (by rw [pName_word h1 h1']; rfl) fun σ2 hR2 e2 => ?_
  repeat k_caught0
  refine c_one_some T hR2 sp_thru (by decide) (by decide +kernel) (pOne_is ht (o := some (Str.ofString "THROUGH")) (by decide +kernel)) fun σ3 hR3 e3 => ?_
  repeat k_caught0
  refine c_name T hR3 hS (by rw [pName_word h2 h2']; rfl) fun σ4 hR4 e4 => ?_
  repeat k_caught0
  exact h σ4 hR4 (((e1.trans e2).trans e3).trans e4)
end
end
section
structure NewIt (σ σ' : Store) (i : Addr) (lv : Int) (nm : Str) (val cd ren : V) (kd : Addr) : Prop where
  self : ∃ d, σ' i = some (.inst 188 d (itF lv nm val cd kd .none ren))
  kids : σ' kd = some (.list [])
  fi : σ i = none
  fk : σ kd = none
theorem fset_nm {lv : Int} {nm nm' : Str} {val cd pa ren : V} {kd : Addr} : fset (itF lv nm val cd kd pa ren) "name" (.str nm') = itF lv nm' val cd kd pa ren := by kernel_rfl
theorem fset_cd {lv : Int} {nm : Str} {val cd cd' pa ren : V} {kd : Addr} : fset (itF lv nm val cd kd pa ren) "conditions" cd' = itF lv nm val cd' kd pa ren := by kernel_rfl
theorem fset_ren {lv : Int} {nm : Str} {val cd pa ren ren' : V} {kd : Addr} : fset (itF lv nm val cd kd pa ren) "renames" ren' = itF lv nm val cd kd pa ren' := by kernel_rfl
theorem fset_pa {lv : Int} {nm : Str} {val cd pa pa' ren : V} {kd : Addr} : fset (itF lv nm val cd kd pa ren) "parent" pa' = itF lv nm val cd kd pa' ren := by kernel_rfl
section
variable {k : Nat} {c : FC} {P : Post} {Q : V → Store → Prop} {X : Addr → Prop} {σ σ' : Store} {r : Addr} {R : RdA} {n : Nat} {rest : List Tk} {loc : Loc}
theorem c_need_dot (T : Top g) {p : Tk} {rest' : List Tk} {w : Str} (hR : RD σ r R n (p :: rest')) (hl : w.length ≤ 1000) (hp : Is p sSign w) (h : ∀ σ', RD σ' r R (n + 1) rest' → Ext [r] σ σ' → Q .none σ') : CV prog g (k + 5) (.ref 593) [.ref r, .str w] Q X σ :=
  c_need_sign T hR hl (fun _ σ' hr he => h σ' hr he) fun e => by rw [pWd_is hp (b := true) (by simp)] at e; cases e
theorem b_entry (T : Top g) {p1 p2 : Tk} {rest' : List Tk} {u : Nat} (hsc : c.sc = s_read_entry) (hR : RD σ r R n (p1 :: p2 :: rest')) (hS : Short R) (h1 : p1.2.1 = sNum) (hu : DecOk p1.2.2 u) (hu4 : u = 1 ∨ u = 5 ∨ u = 66 ∨ u = 88) (h2 : p2.2.1 = sWord) (h2' : isRes p2.2.2 = false)
    (h : ∀ i d c1 kd σ', RD σ' r R (n + 2) rest' → Ext [r] σ σ' → σ' i = some (.inst 188 d (itF u p2.2.2 .none (.ref c1) kd .none .none)) → σ' c1 = some (.list []) → σ' kd = some (.list []) → σ i = none → σ c1 = none → σ kd = none → c1 ≠ kd →
      TSs prog g (k + 9) c [("item", .ref i), ("level", .int u), ("reader", .ref r)] (b_read_entry.drop 5) P X σ') : TSs prog g (k + 9) c [("reader", .ref r)] b_read_entry P X σ := by
  conv => arg 6; whnf
  repeat k_caught0
  intro e de σ0 he hde sm0
  have hR0 := hR.same sm0
  repeat k_caught0
  refine c_whole T hR0 h1 hu (by lia) fun σ1 hR1 e1 => ?_
  have x1 : Ext [r] σ σ1 := (Ext.of_same sm0).trans e1
  have fin : ∀ i d c1 kd σ2 σ3 σ4, σ2 i = some (.inst 188 d (itF u (Str.ofString "FILLER") .none (.ref c1) kd .none .none)) → σ2 c1 = some (.list []) → σ2 kd = some (.list []) → σ1 i = none → σ1 c1 = none → σ1 kd = none → c1 ≠ kd → Same σ1 σ2 →
      RD σ3 r R (n + 2) rest' → Ext [r] σ2 σ3 → σ4 i = some (.inst 188 d (itF u p2.2.2 .none (.ref c1) kd .none .none)) → Ext [i] σ3 σ4 → ∀ loc', (∀ p ∈ ([("item", .ref i), ("level", .int u), ("reader", .ref r)] : Loc), p ∈ loc') → TSs prog g (k + 9) c loc' (b_read_entry.drop 5) P X σ4 := by
    intro i d c1 kd σ2 σ3 σ4 q2 lc lk fi fc fk nck x2 hR3 e3 q4 e4 loc' hs
    refine TSs.sub ?_ hs
    have nir : i ≠ r := ne_new hR1.self fi
    have ncr : c1 ≠ r := ne_new hR1.self fc
    have nkr : kd ≠ r := ne_new hR1.self fk
    have q3 := e3.get q2 (by simpa using nir)
    have lc3 := e3.get lc (by simpa using ncr)
    have lk3 := e3.get lk (by simpa using nkr)
    have nci : c1 ≠ i := fun z => by rw [z, q2] at lc; cases lc
    have nki : kd ≠ i := fun z => by rw [z, q2] at lk; cases lk
    have lc4 := e4.get lc3 (by simpa using nci)
    have lk4 := e4.get lk3 (by simpa using nki)
    have live : ∀ d ∈ [r], σ1 d ≠ none := hR1.live
    have fi' := x1.fresh fi live
    refine h i d c1 kd σ4 (hR3.set q3 no188 e4) (fun b hb hn => ?_) q4 lc4 lk4 fi' (x1.fresh fc live) (x1.fresh fk live) nck
    have y1 : σ1 b ≠ none := by rw [x1 b hb hn]; exact hb
    have y2 : σ2 b ≠ none := by rw [x2 b y1]; exact y1
    have y3 : σ3 b ≠ none := by rw [e3 b y2 hn]; exact y2
    exact (((e4 b y3 (by simp; rintro rfl; exact hb fi')).trans (e3 b y2 hn)).trans (x2 b y1)).trans (x1 b hb hn)
  clear h
  rcases hu4 with rfl | rfl | rfl | rfl <;>
  · repeat k_caught0
    try (refine o_ninti (ns := [66, 77, 88]) ?_; repeat k_caught0)
    refine c_Item T fun i d c1 kd σ2 q2 lc lk fi fc fk nck x2 => ?_
    have hR2 := hR1.same x2
    repeat k_caught0
    refine c_is_name0 T hR2 hS ?_
    repeat k_caught0
    refine iteT (by rw [pName_word h2 h2']; rfl) ?_
    repeat k_caught0
    refine s_setattr T.ok ?_ (by intro _; rfl)
    repeat k_caught0
    refine c_name T hR2 hS (by rw [pName_word h2 h2']; rfl) fun σ3 hR3 e3 => ?_
    have q3 := e3.get q2 (by simpa using (ne_new hR1.self fi))
    repeat k_caught0
    refine fld_set q3 fset_nm (sa_of T (by kernel_rfl)) (by simp) fun σ4 q4 e4 => ?_
    refine ss_nil ?_
    refine fin i d c1 kd σ2 σ3 σ4 q2 lc lk fi fc fk nck x2 hR3 e3 q4 e4 _ ?_
    intro p hp
    simp only [List.mem_cons, List.not_mem_nil, or_false] at hp ⊢
    rcases hp with rfl | rfl | rfl <;> simp
end
end
section
section
variable {k : Nat} {c : FC} {P : Post} {Q : V → Store → Prop} {X : Addr → Prop} {σ σ' : Store} {r : Addr} {R : RdA} {n : Nat} {rest : List Tk} {loc : Loc}
noncomputable abbrev vNum (u : Nat) : V := .tup [.str sNum, .tup [.int u, .int 0]]
theorem Ext.drop {D : List Addr} {a : Addr} (e : Ext (a :: D) σ σ') (n : σ a = none) : Ext D σ σ' := fun b hb hn => e b hb (by simp; exact ⟨fun z => hb (z ▸ n), hn⟩)
theorem Ext.drop1 {r a : Addr} (e : Ext [r, a] σ σ') (n : σ a = none) : Ext [r] σ σ' := fun b hb hn => e b hb (by simp at hn ⊢; exact ⟨hn, fun z => hb (z ▸ n)⟩)
theorem c_entry01 (T : Top g) {p1 p2 pd : Tk} {rest' : List Tk} (hR : RD σ r R n (p1 :: p2 :: pd :: rest')) (hS : Short R) (h1 : Is p1 sNum (Str.ofString "01")) (h2 : p2.2.1 = sWord) (h2' : isRes p2.2.2 = false) (hd : Is pd sSign (Str.ofString "."))
    (h : ∀ i c1 kd σ', RD σ' r R (n + 3) rest' → Ext [r] σ σ' → NewIt σ σ' i 1 p2.2.2 .none (.ref c1) .none kd → σ' c1 = some (.list []) → σ c1 = none → c1 ≠ kd → Q (.ref i) σ') : CV prog g (k + 10) (.ref 344) [.ref r] Q X σ := by
  refine CF.cv (call_read_entry_1 T fun c hsc hcl => ?_)
  refine b_entry T hsc hR hS h1.1 (h1.2 ▸ dec_01) (.inl rfl) h2 h2' fun i d c1 kd σ1 hR1 e1 q1 lc lk fi fc fk nck => ?_
  conv => arg 6; whnf
  repeat k_caught0
  refine c_read_clauses0 T hR1 hd fun σ2 x2 => ?_
  have hR2 := hR1.same x2
  repeat k_caught0
  refine c_need_dot T hR2 (by decide +kernel) hd fun σ3 hR3 e3 => ?_
  repeat k_caught0
  have g3 : ∀ {a o}, σ1 a = some o → σ a = none → σ3 a = some o := fun ha fa => e3.get (x2.get ha) (by simpa using ne_new hR.self fa)
  exact h i c1 kd σ3 hR3 ((e1.trans (Ext.of_same x2)).trans e3) ⟨⟨d, g3 q1 fi⟩, g3 lk fk, fi, fk⟩ (g3 lc fc) fc nck
theorem c_entry05 (T : Top g) {p1 p2 pv pn pd : Tk} {rest' : List Tk} {u : Nat} (hR : RD σ r R n (p1 :: p2 :: pv :: pn :: pd :: rest')) (hS : Short R) (h1 : Is p1 sNum (Str.ofString "05")) (h2 : p2.2.1 = sWord) (h2' : isRes p2.2.2 = false)
    (hv : Is pv sWord (Str.ofString "VALUE")) (hn : pn.2.1 = sNum) (hu : DecOk pn.2.2 u) (hd : Is pd sSign (Str.ofString "."))
    (h : ∀ i c1 kd σ', RD σ' r R (n + 5) rest' → Ext [r] σ σ' → NewIt σ σ' i 5 p2.2.2 (vNum u) (.ref c1) .none kd → σ' c1 = some (.list []) → σ c1 = none → c1 ≠ kd → Q (.ref i) σ') : CV prog g (k + 10) (.ref 344) [.ref r] Q X σ := by
  refine CF.cv (call_read_entry_1 T fun c hsc hcl => ?_)
  refine b_entry T hsc hR hS h1.1 (h1.2 ▸ dec_05) (.inr (.inl rfl)) h2 h2' fun i d c1 kd σ1 hR1 e1 q1 lc lk fi fc fk nck => ?_
  conv => arg 6; whnf
  repeat k_caught0
  refine c_read_clauses1 T hR1 hS q1 hv hn hu hd fun σ2 hR2 e2 q2 => ?_
  repeat k_caught0
  refine c_need_dot T hR2 (by decide +kernel) hd fun σ3 hR3 e3 => ?_
  repeat k_caught0
  have g2 : ∀ {a o}, σ1 a = some o → σ a = none → a ≠ i → σ2 a = some o := fun ha fa hi => e2.get ha (by simp; exact ⟨ne_new hR.self fa, hi⟩)
  have g3 : ∀ {a o}, σ2 a = some o → σ a = none → σ3 a = some o := fun ha fa => e3.get ha (by simpa using ne_new hR.self fa)
  have nci : c1 ≠ i := fun z => by rw [z, q1] at lc; cases lc
  have nki : kd ≠ i := fun z => by rw [z, q1] at lk; cases lk
  exact h i c1 kd σ3 hR3 (((e1.mono (by simp)).trans e2).drop1 fi |>.trans e3) ⟨⟨d, g3 q2 fi⟩, g3 (g2 lk fk nki) fk, fi, fk⟩ (g3 (g2 lc fc nci) fc) fc nck
theorem c_entry66a (T : Top g) {p1 p2 pr p3 pd : Tk} {rest' : List Tk} (hR : RD σ r R n (p1 :: p2 :: pr :: p3 :: pd :: rest')) (hS : Short R) (h1 : Is p1 sNum (Str.ofString "66")) (h2 : p2.2.1 = sWord) (h2' : isRes p2.2.2 = false)
    (hr : Is pr sWord (Str.ofString "RENAMES")) (h3 : p3.2.1 = sWord) (h3' : isRes p3.2.2 = false) (hd : Is pd sSign (Str.ofString "."))
    (h : ∀ i c1 kd σ', RD σ' r R (n + 5) rest' → Ext [r] σ σ' → NewIt σ σ' i 66 p2.2.2 .none (.ref c1) (.tup [.str p3.2.2, .none]) kd → σ' c1 = some (.list []) → σ c1 = none → c1 ≠ kd → Q (.ref i) σ') : CV prog g (k + 10) (.ref 344) [.ref r] Q X σ := by
  refine CF.cv (call_read_entry_1 T fun c hsc hcl => ?_)
  refine b_entry T hsc hR hS h1.1 (h1.2 ▸ dec_66) (.inr (.inr (.inl rfl))) h2 h2' fun i d c1 kd σ1 hR1 e1 q1 lc lk fi fc fk nck => ?_
  conv => arg 6; whnf
  repeat k_caught0
  refine s_setattr T.ok ?_ (by intro _; rfl)
  repeat k_caught0
  refine c_read_renames0 T hR1 hS hr h3 h3' hd fun σ2 hR2 e2 => ?_
  have g2 : ∀ {a o}, σ1 a = some o → σ a = none → σ2 a = some o := fun ha fa => e2.get ha (by simpa using ne_new hR.self fa)
  have q2 := g2 q1 fi
  repeat k_caught0
  refine fld_set q2 fset_ren (sa_of T (by kernel_rfl)) (by simp) fun σ3 q3 e3 => ?_
  have hR3 := hR2.set q2 no188 e3
  repeat k_caught0
  refine c_need_dot T hR3 (by decide +kernel) hd fun σ4 hR4 e4 => ?_
  repeat k_caught0
  have nci : c1 ≠ i := fun z => by rw [z, q1] at lc; cases lc
  have nki : kd ≠ i := fun z => by rw [z, q1] at lk; cases lk
  have g3 : ∀ {a o}, σ2 a = some o → σ a = none → a ≠ i → σ3 a = some o := fun ha fa hi => e3.get ha (by simpa using hi)
  have g4 : ∀ {a o}, σ3 a = some o → σ a = none → σ4 a = some o := fun ha fa => e4.get ha (by simpa using ne_new hR.self fa)
  have ee : Ext [r, i] σ σ3 := ((e1.trans e2).mono (by simp)).trans (e3.mono (by simp))
  exact h i c1 kd σ4 hR4 ((ee.drop1 fi).trans e4) ⟨⟨d, g4 q3 fi⟩, g4 (g3 (g2 lk fk) fk nki) fk, fi, fk⟩ (g4 (g3 (g2 lc fc) fc nci) fc) fc nck
theorem c_entry66b (T : Top g) {p1 p2 pr p3 pt p4 pd : Tk} {rest' : List Tk} (hR : RD σ r R n (p1 :: p2 :: pr :: p3 :: pt :: p4 :: pd :: rest')) (hS : Short R) (h1 : Is p1 sNum (Str.ofString "66")) (h2 : p2.2.1 = sWord) (h2' : isRes p2.2.2 = false)
    (hr : Is pr sWord (Str.ofString "RENAMES")) (h3 : p3.2.1 = sWord) (h3' : isRes p3.2.2 = false) (ht : Is pt sWord (Str.ofString "THROUGH")) (h4 : p4.2.1 = sWord) (h4' : isRes p4.2.2 = false) (hd : Is pd sSign (Str.ofString "."))
    (h : ∀ i c1 kd σ', RD σ' r R (n + 7) rest' → Ext [r] σ σ' → NewIt σ σ' i 66 p2.2.2 .none (.ref c1) (.tup [.str p3.2.2, .str p4.2.2]) kd → σ' c1 = some (.list []) → σ c1 = none → c1 ≠ kd → Q (.ref i) σ') : CV prog g (k + 10) (.ref 344) [.ref r] Q X σ := by
  refine CF.cv (call_read_entry_1 T fun c hsc hcl => ?_)
  refine b_entry T hsc hR hS h1.1 (h1.2 ▸ dec_66) (.inr (.inr (.inl rfl))) h2 h2' fun i d c1 kd σ1 hR1 e1 q1 lc lk fi fc fk nck => ?_
  conv => arg 6; whnf
  repeat k_caught0
  refine s_setattr T.ok ?_ (by intro _; rfl)
  repeat k_caught0
  refine c_read_renames1 T hR1 hS hr h3 h3' ht h4 h4' fun σ2 hR2 e2 => ?_
  have g2 : ∀ {a o}, σ1 a = some o → σ a = none → σ2 a = some o := fun ha fa => e2.get ha (by simpa using ne_new hR.self fa)
  have q2 := g2 q1 fi
  repeat k_caught0
  refine fld_set q2 fset_ren (sa_of T (by kernel_rfl)) (by simp) fun σ3 q3 e3 => ?_
  have hR3 := hR2.set q2 no188 e3
  repeat k_caught0
  refine c_need_dot T hR3 (by decide +kernel) hd fun σ4 hR4 e4 => ?_
  repeat k_caught0
  have nci : c1 ≠ i := fun z => by rw [z, q1] at lc; cases lc
  have nki : kd ≠ i := fun z => by rw [z, q1] at lk; cases lk
  have g3 : ∀ {a o}, σ2 a = some o → σ a = none → a ≠ i → σ3 a = some o := fun ha fa hi => e3.get ha (by simpa using hi)
  have g4 : ∀ {a o}, σ3 a = some o → σ a = none → σ4 a = some o := fun ha fa => e4.get ha (by simpa using ne_new hR.self fa)
  have ee : Ext [r, i] σ σ3 := ((e1.trans e2).mono (by simp)).trans (e3.mono (by simp))
  exact h i c1 kd σ4 hR4 ((ee.drop1 fi).trans e4) ⟨⟨d, g4 q3 fi⟩, g4 (g3 (g2 lk fk) fk nki) fk, fi, fk⟩ (g4 (g3 (g2 lc fc) fc nci) fc) fc nck
theorem c_entry88 (T : Top g) {p1 p2 pv pa l1 pt l2 l3 l4 pd : Tk} {rest' : List Tk} {v1 v2 v3 v4 : V} (hR : RD σ r R n (p1 :: p2 :: pv :: pa :: l1 :: pt :: l2 :: l3 :: l4 :: pd :: rest')) (hS : Short R) (h1 : Is p1 sNum (Str.ofString "88")) (h2 : p2.2.1 = sWord) (h2' : isRes p2.2.2 = false)
    (hv : Is pv sWord (Str.ofString "VALUES")) (ha : Is pa sWord (Str.ofString "ARE")) (w1 : Lit l1 v1) (ht : Is pt sWord (Str.ofString "THRU")) (w2 : Lit l2 v2) (w3 : Lit l3 v3) (w4 : Lit l4 v4) (hd : Is pd sSign (Str.ofString "."))
    (k2 : l2.2.1 = sLit) (k3 : l3.2.1 = sNum) (k4 : Is l4 sWord (Str.ofString "ZERO"))
    (h : ∀ i na dn kd σ', RD σ' r R (n + 10) rest' → Ext [r] σ σ' → NewIt σ σ' i 88 p2.2.2 .none (.lst [.ref na]) .none kd → σ' na = some (.inst 141 dn [("name", .str p2.2.2), ("rows", .tup [.tup [v1, v2], .tup [v3, .none], .tup [v4, .none]])]) → σ na = none → Q (.ref i) σ') : CV prog g (k + 10) (.ref 344) [.ref r] Q X σ := by
  refine CF.cv (call_read_entry_1 T fun c hsc hcl => ?_)
  refine b_entry T hsc hR hS h1.1 (h1.2 ▸ dec_88) (.inr (.inr (.inr rfl))) h2 h2' fun i d c1 kd σ1 hR1 e1 q1 lc lk fi fc fk nck => ?_
  conv => arg 6; whnf
  repeat k_caught0
  refine s_setattr T.ok ?_ (by intro _; rfl)
  refine e_lst rfl ?_
  repeat k_caught0
  refine c_read_worths T hR1 hS hv ha w1 ht w2 w3 w4 hd k2 k3 k4 fun w σ2 hR2 e2 fw hw => ?_
  have g2 : ∀ {a o}, σ1 a = some o → σ a = none → σ2 a = some o := fun ha fa => e2.get ha (by simpa using ne_new hR.self fa)
  have q2 := g2 q1 fi
  repeat k_caught0
  refine c_Named T (.inr ⟨w, rfl, hw⟩) (by simp) fun na dn σ3 q3 fn x3 => ?_
  have hR3 := hR2.same x3
  have q3' := x3.get q2
  repeat k_caught0
  refine fld_set q3' fset_cd (sa_of T (by kernel_rfl)) (by simp) fun σ4 q4 e4 => ?_
  have hR4 := hR3.set q3' no188 e4
  repeat k_caught0
  refine c_need_dot T hR4 (by decide +kernel) hd fun σ5 hR5 e5 => ?_
  repeat k_caught0
  have nki : kd ≠ i := fun z => by rw [z, q1] at lk; cases lk
  have nni : na ≠ i := fun z => by rw [z, q3'] at q3; cases q3
  have fna : σ na = none := (e1.trans e2).fresh fn hR2.live
  have g4 : ∀ {a o}, σ3 a = some o → σ a = none → a ≠ i → σ4 a = some o := fun ha fa hi => e4.get ha (by simpa using hi)
  have g5 : ∀ {a o}, σ4 a = some o → σ a = none → σ5 a = some o := fun ha fa => e5.get ha (by simpa using ne_new hR.self fa)
  have ee : Ext [r, i] σ σ4 := (((e1.trans e2).trans (Ext.of_same x3)).mono (by simp)).trans (e4.mono (by simp))
  exact h i na dn kd σ5 hR5 ((ee.drop1 fi).trans e5) ⟨⟨d, g5 q4 fi⟩, g5 (g4 (x3.get (g2 lk fk)) fk nki) fk, fi, fk⟩ (g5 (g4 q3 fna nni) fna) fna
end
end
section
theorem Src.ref (G₀ : GOk g) {ax : Addr} {vs : List V} {σ : Store} (hσ : σ ax = some (.list vs)) : Src prog g (.ref ax) vs [ax] σ := by
  intro A E Q s u hh I r q
  rw [VR] at r
  subst r
  obtain ⟨its, n0, h1, rs⟩ := I.obj ax _ hσ
  have fz := frz_push (o := { cls := .type "list_iterator", data := .fields #[.ref ax, .int 0 0] }) I
  have hne : ax ≠ s.heap.objs.size := fun z => by rw [z] at h1; exact absurd (Heap.lt_size h1) (Nat.lt_irrefl _)
  refine wpAny_pyIter_list ⟨_, h1, rfl, _, rfl⟩ ?_
  refine q (fun i σ' h => h.IsListIter s.heap.objs.size ax i ∧ σ' ax = some (.list vs) ∧ σ' s.heap.objs.size = none) _ fz.1 fz.2 (fun b o e => Heap.get?_push_of_some _ e) (base_le G₀ I) (fun A' hA => ?_)
    ⟨⟨_, Heap.get?_push_size _ rfl, rfl, rfl⟩, hσ, I.fresh (Nat.le_refl _)⟩
  refine ⟨fun i σ' h st => ?_, fun i σ' s₁ v Q E hv I st q => ?_, fun σ' s₁ Q E I st q => ?_, fun i σ' s₁ Q E st q => wpAny_pyIter_listiter st.1 q, fun i σ' s₁ σ'' s₂ st I' hk hD => ?_⟩
  · obtain ⟨⟨o, h1, h2, h3⟩, _, n⟩ := st
    exact ⟨⟨o, _, _, h1, h3, h2, by decide⟩, n⟩
  · obtain ⟨t1, t2, t3⟩ := st
    obtain ⟨its', n', l1, t5⟩ := I.obj ax _ t2
    have hl : s₁.heap.IsList ax its' := ⟨_, l1, rfl, _, rfl⟩
    obtain ⟨u, hu, ru⟩ := VRs.get t5 hv
    have lt : i < its'.size := by
      have := (List.getElem?_eq_some_iff.mp hu).1
      simpa using this
    refine (Walks.list (prog := prog) (w := g.w) hA s.heap.objs.size ax hne its').item i s₁ Q E lt ⟨t1, hl⟩ fun x h' tk hx hs hk => ?_
    have off : Off s.heap.objs.size s₁.heap h' := ⟨IsIt.off (by obtain ⟨o, h1, h2, h3⟩ := t1; exact ⟨o, _, _, h1, h3, h2, by decide⟩), fun b o n e => hk b o (by simpa using n) e⟩
    have hx' : its'.toList[i]? = some x := by simpa using hx
    rw [hu] at hx'
    cases hx'
    exact q u h' tk off.2 (ru.touch off) ⟨hs.1, t2, t3⟩
  · obtain ⟨t1, t2, t3⟩ := st
    obtain ⟨its', n', l1, t5⟩ := I.obj ax _ t2
    have len := t5.length
    refine (Walks.list (prog := prog) (w := g.w) hA s.heap.objs.size ax hne its').done s₁ Q E ⟨by rw [← len] at t1; simpa using t1, _, l1, rfl, _, rfl⟩ fun h' tk hk => q h' tk fun b o n e => hk b o (by simpa using n) e
  · obtain ⟨⟨o, t1, c1, d1⟩, t2, t3⟩ := st
    obtain ⟨a1, a2⟩ := hk _ _ t1 t3 (.inr ⟨_, d1⟩)
    exact ⟨⟨o, a1, c1, d1⟩, (hD ax (.head _)).trans t2, a2⟩
section
variable {k : Nat} {c : FC} {P : Post} {Q : V → Store → Prop} {X : Addr → Prop} {σ σ' : Store} {loc : Loc}
theorem c_add (T : Top g) {ra x d1 d2 k1 k2 : Addr} {lv1 lv2 : Int} {nm1 nm2 : Str} {v1 v2 c1 c2 p1 p2 r1 r2 : V} {ks : List V} (hr : σ ra = some (.inst 188 d1 (itF lv1 nm1 v1 c1 k1 p1 r1))) (hx : σ x = some (.inst 188 d2 (itF lv2 nm2 v2 c2 k2 p2 r2))) (nrx : ra ≠ x)
    (hk : σ k1 = some (.list ks)) (hl : ks.length ≤ 1000) (h : ∀ σ', σ' x = some (.inst 188 d2 (itF lv2 nm2 v2 c2 k2 (.ref ra) r2)) → σ' k1 = some (.list (ks ++ [.ref x])) → Ext [x, k1] σ σ' → Q .none σ') : CV prog g (k + 1) (.ref 166) [.ref ra, .ref x] Q X σ := by
  refine CF.cv (call_Item_add_2 T fun c hsc hcl => ?_)
  conv => arg 6; whnf
  k_caughtB
  refine fld_set hx fset_pa (sa_of T (by kernel_rfl)) (by simp) fun σ1 q1 e1 => ?_
  have hr1 := e1.get hr (by simpa using nrx)
  have nkx : k1 ≠ x := fun z => by rw [z, hx] at hk; cases hk
  have hk1 := e1.get hk (by simpa using nkx)
  repeat k_caught0
  refine c_append hk1 (by lia) ?_
  repeat k_caught0
  exact h _ ((upd_ne nkx.symm).trans q1) (upd_self ..) ((e1.mono (by simp)).trans ((Ext.refl _ σ1).upd_in (by simp)))
end
end
section
end
local macro_rules | `(tactic| k_caught0) => stp "o_neg _;c_len qr_"
section
noncomputable def Lev (σ : Store) (a : Addr) (lv : Int) : Prop := ∃ d nm v c k p r, σ a = some (.inst 188 d (itF lv nm v c k p r))
section
variable {k : Nat} {c : FC} {P : Post} {Q : V → Store → Prop} {X : Addr → Prop} {σ σ' : Store} {loc : Loc}
theorem PF.mono {P' : Post} {envs : List Env} {s s' : Shared} {f : Flow} (h : PF g c envs P σ s f s') (h1 : ∀ l s, P.nx l s → P'.nx l s) (h2 : ∀ v s, P.rt v s → P'.rt v s) (h3 : ∀ l s, P.ct l s → P'.ct l s) : PF g c envs P' σ s f s' := by
  obtain ⟨σ₁, l₁, st₁, I₁, F₁, q⟩ := h
  refine ⟨σ₁, l₁, st₁, I₁, F₁, ?_⟩
  cases f with
  | next => exact h1 _ _ q
  | cont => exact h3 _ _ q
  | ret u => obtain ⟨v, r, q⟩ := q; exact ⟨v, r, h2 _ _ q⟩
  | brk => exact q
theorem TS.mono {P' : Post} {st : Stmt} (h : TS prog g k c loc st P X σ) (h1 : ∀ l s, P.nx l s → P'.nx l s) (h2 : ∀ v s, P.rt v s → P'.rt v s) (h3 : ∀ l s, P.ct l s → P'.ct l s) : TS prog g k c loc st P' X σ := fun A envs b s W cx F =>
  wpAny_mono (h A envs b s W cx F) (fun _ _ x => x.mono h1 h2 h3) fun _ _ x => x
theorem TSs.mono {P' : Post} {st : List Stmt} (h : TSs prog g k c loc st P X σ) (h1 : ∀ l s, P.nx l s → P'.nx l s) (h2 : ∀ v s, P.rt v s → P'.rt v s) (h3 : ∀ l s, P.ct l s → P'.ct l s) : TSs prog g k c loc st P' X σ := fun A envs b s W cx F =>
  wpAny_mono (h A envs b s W cx F) (fun _ _ x => x.mono h1 h2 h3) fun _ _ x => x
theorem ss_cut {st : Stmt} {rest : List Stmt} (N : Loc → Store → Prop) (hN : ∀ l s, N l s → TSs prog g k c l rest P X s) (h : TS prog g k c loc st { P with nx := N } X σ) : TSs prog g k c loc (st :: rest) P X σ :=
  ss_cons (h.mono hN (fun _ _ x => x) fun _ _ x => x)
theorem named (R : Loc → Store → Prop) : ∃ N : Loc → Store → Prop, (∀ l s, N l s → R l s) ∧ ∀ l s, R l s → N l s := ⟨R, fun _ _ h => h, fun _ _ h => h⟩
theorem s_whileL {t : Expr} {body : List Stmt} {pos : Pos} (l0 : Loc) (J : Nat → Store → Prop) (n : Nat) (h0 : J n σ) (hs0 : ∀ p ∈ l0, p ∈ loc)
    (turn : ∀ n σ₁, J n σ₁ → TB prog g k c l0 t (fun r σ₂ => if r then TSs prog g k c l0 body { nx := fun l σ₃ => ∃ m, m < n ∧ (∀ p ∈ l0, p ∈ l) ∧ J m σ₃, ct := fun l σ₃ => ∃ m, m < n ∧ (∀ p ∈ l0, p ∈ l) ∧ J m σ₃, rt := P.rt } X σ₂ else ∀ l, (∀ p ∈ l0, p ∈ l) → P.nx l σ₂) X σ₁) :
    TS prog g k c loc (.While t body [] pos) P X σ := by
  refine s_while (fun n l σ' => (∀ p ∈ l0, p ∈ l) ∧ J n σ') n ⟨hs0, h0⟩ fun n l σ₁ ⟨hs, hj⟩ => ((turn n σ₁ hj).sub hs).mono fun b s q => ?_
  cases b
  · exact q l hs
  · exact TSs.sub (TSs.mono q (fun l s ⟨m, h1, h2, h3⟩ => ⟨m, h1, h2, h3⟩) (fun _ _ x => x) fun l s ⟨m, h1, h2, h3⟩ => ⟨m, h1, h2, h3⟩) hs
theorem at_last {vs : List V} {v : V} : At (vs ++ [v]) (-1) v := by
  refine ⟨?_, by rw [List.length_append, List.length_singleton]; lia⟩
  rw [if_pos (by decide), List.length_append, List.length_singleton, show ((-1 : Int) + ((vs.length + 1 : Nat) : Int)).toNat = vs.length by lia]
  simp
theorem at_zero {vs : List V} {v : V} : At (v :: vs) 0 v := ⟨by simp, by lia⟩
theorem c_put (T : Top g) {oo ra x d1 d2 k1 k2 : Addr} {nm1 nm2 : Str} {v1 v2 c1 c2 p1 p2 r1 r2 : V} {ks tl : List V} (hr : σ ra = some (.inst 188 d1 (itF 1 nm1 v1 c1 k1 p1 r1))) (hx : σ x = some (.inst 188 d2 (itF 5 nm2 v2 c2 k2 p2 r2)))
    (ho : σ oo = some (.list (.ref ra :: tl))) (ht : tl = [] ∨ ∃ b, tl = [.ref b] ∧ Lev σ b 5) (nok : oo ≠ k1)
    (hk : σ k1 = some (.list ks)) (hk5 : ks = [] ∨ ∃ b l, ks = .ref b :: l ∧ Lev σ b 5) (hl : ks.length ≤ 1000) (h : ∀ σ', σ' oo = some (.list [.ref ra, .ref x]) → σ' x = some (.inst 188 d2 (itF 5 nm2 v2 c2 k2 (.ref ra) r2)) → σ' k1 = some (.list (ks ++ [.ref x])) → Ext [oo, x, k1] σ σ' → Q .none σ') :
    CV prog g (k + 2) (.ref 358) [.ref oo, .ref x] Q X σ := by
  refine CF.cv (call_put_beneath_2 T fun c hsc hcl => ?_)
  conv => arg 6; whnf
  have nrx : ra ≠ x := fun z => by rw [z, hx] at hr; cases hr
  have nor : oo ≠ ra := fun z => by rw [z, hr] at ho; cases ho
  have nox : oo ≠ x := fun z => by rw [z, hx] at ho; cases ho
  -- behind the loop
  have fin : ∀ (loc₁ : Loc) σ₁ , (∀ p ∈ ([("item", .ref x), ("open_items", .ref oo)] : Loc), p ∈ loc₁) → σ₁ oo = some (.list [.ref ra]) → Ext [oo] σ σ₁ → TSs prog g (k + 1) c loc₁ (b_put_beneath.drop 1) ⟨fun _ σ' => Q .none σ', Q, fun _ _ => False⟩ X σ₁ := by
    intro loc₁ σ₁ hs ho1 e1
    have hr1 := e1.get hr (by simpa using nor.symm)
    have hx1 := e1.get hx (by simpa using nox.symm)
    have hk1 := e1.get hk (by simpa using nok.symm)
    refine TSs.sub ?_ hs
    conv => arg 6; whnf
    repeat k_caught0
    refine e_lst rfl ?_
    repeat k_caught0
    refine o_eql (.inr ⟨_, rfl, ho1⟩) (.inl rfl) (.inr (by simp)) ?_
    repeat k_caught0
    refine iteF rfl ?_
    repeat k_caught0
    refine i_lst (fun _ _ => rfl) (.inr ⟨_, rfl, ho1⟩) (by simp) at_zero ?_
    repeat k_caught0
    refine i_lst (fun _ _ => rfl) (.inr ⟨_, rfl, ho1⟩) (by simp) (at_last (vs := [])) ?_
    refine TSs.sub (loc' := [("above", .ref ra), ("item", .ref x), ("open_items", .ref oo)]) ?_ (by simp [SetL])
    have fin2 : TSs prog g (k + 1) c [("above", .ref ra), ("item", .ref x), ("open_items", .ref oo)] (b_put_beneath.drop 4) ⟨fun _ σ' => Q .none σ', Q, fun _ _ => False⟩ X σ₁ := by
      conv => arg 6; whnf
      repeat k_caught0
      refine iteF (by simp) ?_
      repeat k_caught0
      refine c_add T hr1 hx1 nrx hk1 hl fun σ2 q2 l2 e2 => ?_
      have ho2 := e2.get ho1 (by simp [nox, nok])
      repeat k_caught0
      refine c_append ho2 (by simp) ?_
      repeat k_caught0
      exact h _ (upd_self ..) ((upd_ne nox.symm).trans q2) ((upd_ne nok.symm).trans l2) (((e1.mono (by simp)).trans (e2.mono (by simp))).trans ((Ext.refl _ σ2).upd_in (by simp)))
    obtain ⟨N, hN, hN'⟩ := named fun l s => l = [("above", .ref ra), ("item", .ref x), ("open_items", .ref oo)] ∧ s = σ₁
    refine ss_cut N (fun l s h => by obtain ⟨rfl, rfl⟩ := hN l s h; exact fin2) ?_
    repeat k_caught0
    refine e_lst rfl ?_
    repeat k_caught0
    rcases hk5 with rfl | ⟨b, l, rfl, d5, nm5, v5, c5, k5, p5, r5, h5⟩
    · refine o_nel (.inr ⟨_, rfl, hk1⟩) (.inl rfl) (.inl ⟨rfl, by decide +kernel⟩) ?_
      repeat k_caught0
      exact hN' _ _ ⟨rfl, rfl⟩
    · have nob : oo ≠ b := fun z => by rw [z, h5] at ho; cases ho
      have h51 := e1.get h5 (by simpa using nob.symm)
      refine o_nel (.inr ⟨_, rfl, hk1⟩) (.inl rfl) (.inr (by simp)) ?_
      refine bq (iteT (by simp) ?_)
      repeat k_caught0
      refine i_lst (fun _ _ => rfl) (.inr ⟨_, rfl, hk1⟩) (by simp; simp at hl; lia) at_zero ?_
      repeat k_caught0
      exact hN' _ _ ⟨rfl, rfl⟩
  refine ss_cons ?_
  refine s_whileL [("item", .ref x), ("open_items", .ref oo)] (fun j σ₁ => Ext [oo] σ σ₁ ∧ match j with
    | 0 => σ₁ oo = some (.list [.ref ra])
    | 1 => ∃ b, σ₁ oo = some (.list [.ref ra, .ref b]) ∧ Lev σ b 5
    | _ => False) (if tl = [] then 0 else 1) ⟨Ext.refl _ _, ?_⟩ (by simp) ?_
  · rcases ht with rfl | ⟨b, rfl, hb⟩
    · exact ho
    · exact ⟨b, ho, hb⟩
  rintro j σ₁ ⟨e1, hj⟩
  have hx1 := e1.get hx (by simpa using nox.symm)
  match j, hj with
  | 0, ho1 =>
    have hr1 := e1.get hr (by simpa using nor.symm)
    repeat k_caught0
    refine e_lst rfl ?_
    repeat k_caught0
    refine o_nel (.inr ⟨_, rfl, ho1⟩) (.inl rfl) (.inr (by simp)) ?_
    repeat k_caught0
    try refine iteT (by simp) ?_
    repeat k_caught0
    refine i_lst (fun _ _ => rfl) (.inr ⟨_, rfl, ho1⟩) (by simp) (at_last (vs := [])) ?_
    repeat k_caught0
    exact fun l hs => fin l _ hs ho1 e1
  | 1, ⟨b, ho1, hb⟩ =>
    obtain ⟨d5, nm5, v5, c5, k5, p5, r5, h5⟩ := hb
    have nob : oo ≠ b := fun z => by rw [z, h5] at ho; cases ho
    have h51 := e1.get h5 (by simpa using nob.symm)
    repeat k_caught0
    refine e_lst rfl ?_
    repeat k_caught0
    refine o_nel (.inr ⟨_, rfl, ho1⟩) (.inl rfl) (.inr (by simp)) ?_
    repeat k_caught0
    try refine iteT (by simp) ?_
    repeat k_caught0
    refine i_lst (fun _ _ => rfl) (.inr ⟨_, rfl, ho1⟩) (by simp) (at_last (vs := [.ref ra])) ?_
    repeat k_caught0
    refine c_pop (vs := [.ref ra]) ho1 (by simp) ?_
    repeat k_caught0
    exact ⟨0, by decide, by simp, e1.trans ((Ext.refl _ σ₁).upd_in (by simp)), upd_self ..⟩
end
end
section
inductive Ent
  | e01 (nm : Str) | e05 (nm uw : Str) (u : Nat) | e88 (nm : Str) | e66 (nm f : Str) (l : Option Str)
noncomputable def Ent.lv : Ent → Int
  | .e01 _ => 1 | .e05 _ _ _ => 5 | .e88 _ => 88 | .e66 _ _ _ => 66
noncomputable def Ent.nm : Ent → Str
  | .e01 n => n | .e05 n _ _ => n | .e88 n => n | .e66 n _ _ => n
noncomputable def Ent.val : Ent → V
  | .e05 _ _ u => vNum u | _ => .none
noncomputable def Ent.ren : Ent → V
  | .e66 _ f l => .tup [.str f, match l with | some x => .str x | none => .none] | _ => .none
noncomputable def Ent.is88 : Ent → Bool
  | .e88 _ => true | _ => false
structure It where
  a : Addr
  kd : Addr
  cd : Addr
  e : Ent
noncomputable def It.cdV (x : It) : V := if x.e.is88 then .lst [.ref x.cd] else .ref x.cd
noncomputable abbrev vText (l : List Int) : V := .tup [.str (Str.ofString "text"), .bytes (byteArr l)]
noncomputable abbrev vZero : V := .tup [.str (Str.ofString "figure"), .str (Str.ofString "ZERO")]
noncomputable abbrev rowsV : V := .tup [.tup [vText [97], vText [99]], .tup [vNum 5, .none], .tup [vZero, .none]]
noncomputable def look (log : List (Addr × V)) (b : Addr) : List V := (log.filter fun p => decide (p.1 = b)).map (·.2)
theorem look_app (l l' : List (Addr × V)) (b : Addr) : look (l ++ l') b = look l b ++ look l' b := by unfold look; rw [List.filter_append, List.map_append]
theorem look_hit (a : Addr) (v : V) : look [(a, v)] a = [v] := by simp [look]
theorem look_miss {a b : Addr} (v : V) (h : a ≠ b) : look [(a, v)] b = [] := by simp [look, h]
theorem look_len (l : List (Addr × V)) (b : Addr) : (look l b).length ≤ l.length := by unfold look; rw [List.length_map]; exact List.length_filter_le ..
structure ItS (σ : Store) (log : List (Addr × V)) (x : It) : Prop where
  self : ∃ d p, σ x.a = some (.inst 188 d (itF x.e.lv x.e.nm x.e.val x.cdV x.kd p x.e.ren))
  kids : σ x.kd = some (.list (look log x.kd))
  cond : if x.e.is88 then ∃ dn, σ x.cd = some (.inst 141 dn [("name", .str x.e.nm), ("rows", rowsV)]) else σ x.cd = some (.list (look log x.cd))
noncomputable def View (σ : Store) (L : List It) (log : List (Addr × V)) : Prop := ∀ x ∈ L, ItS σ log x
noncomputable def adds (L : List It) : List Addr := L.flatMap fun x => [x.a, x.kd, x.cd]
noncomputable def Live (σ₀ : Store) (L : List It) : Prop := ∀ x ∈ L, σ₀ x.a ≠ none ∧ σ₀ x.kd ≠ none ∧ σ₀ x.cd ≠ none
theorem mem_adds {L : List It} {x : It} (h : x ∈ L) : x.a ∈ adds L ∧ x.kd ∈ adds L ∧ x.cd ∈ adds L := by
  unfold adds
  refine ⟨List.mem_flatMap.mpr ⟨x, h, by simp⟩, List.mem_flatMap.mpr ⟨x, h, by simp⟩, List.mem_flatMap.mpr ⟨x, h, by simp⟩⟩
theorem Ext.out {D : List Addr} {σ₀ σ σ' : Store} {a : Addr} (e : Ext D σ σ') (hD : ∀ d ∈ D, σ₀ d = none) (ha : σ₀ a ≠ none) {o : O} (h : σ a = some o) : σ' a = some o := e.get h fun m => ha (hD a m)
theorem View.out {σ₀ σ σ' : Store} {L : List It} {log : List (Addr × V)} {D : List Addr} (v : View σ L log) (live : Live σ₀ L) (e : Ext D σ σ') (hD : ∀ d ∈ D, σ₀ d = none) : View σ' L log := fun x hx => by
  obtain ⟨⟨d, p, h1⟩, h2, h3⟩ := v x hx
  obtain ⟨l1, l2, l3⟩ := live x hx
  refine ⟨⟨d, p, e.out hD l1 h1⟩, e.out hD l2 h2, ?_⟩
  split at h3
  · rename_i q
    rw [if_pos q]
    obtain ⟨dn, h3⟩ := h3
    exact ⟨dn, e.out hD l3 h3⟩
  · rename_i q
    rw [if_neg q]
    exact e.out hD l3 h3
theorem View.app {σ₀ σ σ' : Store} {L : List It} {log : List (Addr × V)} {D : List Addr} {b : Addr} {w : V} {xs : List Addr} (v : View σ L log) (live : Live σ₀ L) (e : Ext (b :: xs ++ D) σ σ') (hD : ∀ d ∈ D, σ₀ d = none)
    (hb : σ b = some (.list (look log b))) (hb' : σ' b = some (.list (look log b ++ [w]))) (hxs : ∀ x ∈ xs, ∃ d lv nm va cd kd p p' ren, σ x = some (.inst 188 d (itF lv nm va cd kd p ren)) ∧ σ' x = some (.inst 188 d (itF lv nm va cd kd p' ren))) : View σ' L (log ++ [(b, w)]) := fun x hx => by
  obtain ⟨⟨d, p, h1⟩, h2, h3⟩ := v x hx
  obtain ⟨l1, l2, l3⟩ := live x hx
  have lst : ∀ a, σ₀ a ≠ none → σ a = some (.list (look log a)) → σ' a = some (.list (look (log ++ [(b, w)]) a)) := fun a la ha => by
    rw [look_app]
    by_cases q : a = b
    · rw [q, look_hit]; exact hb'
    · rw [look_miss w (fun z => q z.symm), List.append_nil]
      refine e.get ha fun m => ?_
      rcases List.mem_append.mp m with m | m
      · rcases List.mem_cons.mp m with m | m
        · exact q m
        · obtain ⟨_, _, _, _, _, _, _, _, _, h, _⟩ := hxs a m
          rw [h] at ha; cases ha
      · exact la (hD a m)
  refine ⟨?_, lst _ l2 h2, ?_⟩
  · by_cases m : x.a ∈ xs
    · obtain ⟨d', lv, nm, va, cd, kd, q, q', ren, g1, g2⟩ := hxs x.a m
      rw [h1] at g1
      obtain ⟨-, hd, hf⟩ := O.inst.inj (Option.some.inj g1)
      have := congrArg (fun f => fset f "parent" q') hf
      simp only [fset_pa] at this
      exact ⟨d', q', by rw [g2, ← this]⟩
    · refine ⟨d, p, e.get h1 fun m' => ?_⟩
      rcases List.mem_append.mp m' with m' | m'
      · rcases List.mem_cons.mp m' with m' | m'
        · rw [m', hb] at h1; cases h1
        · exact m m'
      · exact l1 (hD _ m')
  · split at h3
    · rename_i q
      rw [if_pos q]
      obtain ⟨dn, h3⟩ := h3
      refine ⟨dn, e.get h3 fun m' => ?_⟩
      rcases List.mem_append.mp m' with m' | m'
      · rcases List.mem_cons.mp m' with m' | m'
        · rw [m', hb] at h3; cases h3
        · obtain ⟨_, _, _, _, _, _, _, _, _, h, _⟩ := hxs _ m'
          rw [h] at h3
          have := (O.inst.inj (Option.some.inj h3)).1
          exact absurd this (by decide)
      · exact l3 (hD _ m')
    · rename_i q
      rw [if_neg q]
      exact lst _ l3 h3
end
section
end
local macro_rules | `(tactic| k_caught0) => stp "c_append ae_;c_put Aaaaaaaaa_"
section
noncomputable def nbody : List Stmt := match b_nested with | _ :: .For _ _ b _ _ :: _ => b | _ => []
noncomputable def nels : List Stmt := match nbody with | _ :: .If _ _ [.If _ _ e _] _ :: _ => e | _ => []
structure NI (σ₀ : Store) (L : List It) (rr rn : Addr) (log : List (Addr × V)) (roots : List Addr) (op : List V) (last : V) (ren : List (Nat × Addr)) (loc : Loc) (σ : Store) : Prop where
  oo : ∃ oo, (∀ p ∈ ([("roots", .ref rr), ("open_items", .ref oo), ("last", last), ("renaming", .ref rn)] : Loc), p ∈ loc) ∧ σ oo = some (.list op) ∧ σ₀ oo = none ∧ oo ≠ rr ∧ oo ≠ rn
  hrr : σ rr = some (.list (roots.map .ref))
  hrn : σ rn = some (.list (ren.map fun p => .tup [.int p.1, .ref p.2]))
  view : View σ L log
  ext : Ext (adds L) σ₀ σ
  live : Live σ₀ L
  frr : σ₀ rr = none
  frn : σ₀ rn = none
  ne : rr ≠ rn
theorem sub_setL {l0 loc : Loc} {x : String} {v : V} (h : ∀ p ∈ l0, p ∈ loc) (hn : ∀ p ∈ l0, p.1 ≠ x) : ∀ p ∈ (x, v) :: l0, p ∈ SetL x v loc := fun p hp => by
  rcases List.mem_cons.mp hp with rfl | hp
  · exact .head _
  · exact .tail _ (List.mem_filter.mpr ⟨h p hp, by simpa using hn p hp⟩)
theorem Ext.upds {D : List Addr} {σ₀ σ : Store} (e : Ext D σ₀ σ) {σ' : Store} {D' : List Addr} (e' : Ext D' σ σ') (h : ∀ d ∈ D', σ₀ d = none ∨ d ∈ D) : Ext D σ₀ σ' := fun b hb hn => by
  rw [e' b (by rw [e b hb hn]; exact hb) fun m => ?_, e b hb hn]
  rcases h b m with q | q
  · exact hb q
  · exact hn q
section
variable {k : Nat} {c : FC} {P : Post} {Q : V → Store → Prop} {X : Addr → Prop} {σ₀ σ σ' : Store} {loc : Loc} {L : List It} {rr rn : Addr} {log : List (Addr × V)} {roots : List Addr} {op : List V} {last : V} {ren : List (Nat × Addr)}
theorem rest_root (T : Top g) {x oo d kd : Addr} {nm : Str} {v cd pa re : V} (hsc : c.sc = s_nested) (hx : σ x = some (.inst 188 d (itF 1 nm v cd kd pa re))) (hrr : σ rr = some (.list (roots.map .ref))) (hl : roots.length ≤ 1000)
    (h : ∀ oo', σ oo' = none → oo' ≠ rr → P.nx [("open_items", .ref oo'), ("item", .ref x), ("roots", .ref rr), ("last", last), ("renaming", .ref rn)] (upd (upd σ rr (.list ((roots ++ [x]).map .ref))) oo' (.list [.ref x]))) :
    TSs prog g k c [("item", .ref x), ("roots", .ref rr), ("open_items", .ref oo), ("last", last), ("renaming", .ref rn)] nels P X σ := by
  conv => arg 6; whnf
  repeat k_caught0
  refine o_inti (ns := [1, 77]) ?_
  repeat k_caught0
  refine e_list T.ok rfl ?_
  repeat k_caught0
  intro oo' hoo
  have ne : oo' ≠ rr := fun z => by rw [z, upd_self] at hoo; cases hoo
  rw [upd_ne ne] at hoo
  repeat k_caught0
  have := h oo' hoo ne
  rw [List.map_append] at this
  exact this
end
end
section
section
variable {k : Nat} {c : FC} {P : Post} {Q : V → Store → Prop} {X : Addr → Prop} {σ₀ σ σ' : Store} {loc : Loc} {L : List It} {rr rn : Addr} {log : List (Addr × V)} {roots : List Addr} {op : List V} {last : V} {ren : List (Nat × Addr)}
theorem step_root (T : Top g) (hsc : c.sc = s_nested) {x : It} {nm : Str} (hx : x ∈ L) (he : x.e = .e01 nm) (N : NI σ₀ L rr rn log roots op last ren loc σ) (hl : roots.length ≤ 900) (hl' : ren.length ≤ 900)
    (h : ∀ loc' σ', NI σ₀ L rr rn log (roots ++ [x.a]) [.ref x.a] (.ref x.a) ren loc' σ' → P.nx loc' σ') : TSs prog g (k + 3) c (SetL "item" (.ref x.a) loc) nbody P X σ := by
  obtain ⟨oo, hs, ho, foo, n1, n2⟩ := N.oo
  obtain ⟨⟨d, p, h1⟩, hk, hc⟩ := N.view x hx
  rw [he] at h1
  have h1 : σ x.a = some (.inst 188 d (itF 1 nm .none x.cdV x.kd p .none)) := h1
  have fin : ∀ oo', σ oo' = none → oo' ≠ rr → P.nx [("last", .ref x.a), ("open_items", .ref oo'), ("item", .ref x.a), ("roots", .ref rr), ("renaming", .ref rn)] (upd (upd σ rr (.list ((roots ++ [x.a]).map .ref))) oo' (.list [.ref x.a])) := by
    intro oo' f ne
    have nrn : oo' ≠ rn := fun z => by rw [z, N.hrn] at f; cases f
    have f0 : σ₀ oo' = none := N.ext.fresh f fun d hd => by
      unfold adds at hd
      obtain ⟨y, hy, hd⟩ := List.mem_flatMap.mp hd
      obtain ⟨⟨_, _, y1⟩, y2, y3⟩ := N.view y hy
      simp only [List.mem_cons, List.not_mem_nil, or_false] at hd
      rcases hd with rfl | rfl | rfl
      · rw [y1]; intro z; cases z
      · rw [y2]; intro z; cases z
      · split at y3
        · obtain ⟨_, y3⟩ := y3; rw [y3]; intro z; cases z
        · rw [y3]; intro z; cases z
    have e' : Ext [rr, oo'] σ (upd (upd σ rr (.list ((roots ++ [x.a]).map .ref))) oo' (.list [.ref x.a])) := ((Ext.refl _ σ).upd_in (by simp)).upd_in (by simp)
    have hD : ∀ d ∈ [rr, oo'], σ₀ d = none := by simp [f0, N.frr]
    refine h _ _ ⟨⟨oo', by simp, upd_self .., f0, ne, nrn⟩, (upd_ne ne.symm).trans (upd_self ..), ((upd_ne nrn.symm).trans (upd_ne N.ne.symm)).trans N.hrn, N.view.out N.live e' hD, N.ext.upds e' fun d hd => .inl (hD d hd), N.live, N.frr, N.frn, N.ne⟩
  refine TSs.sub ?_ (sub_setL hs (by simp))
  conv => arg 6; whnf
  repeat k_caught0
  refine e_lst rfl ?_
  repeat k_caught0
  rcases List.eq_nil_or_concat ren with rfl | ⟨ri, pr, rfl⟩
  · refine o_nel (.inr ⟨_, rfl, N.hrn⟩) (.inl rfl) (.inl ⟨rfl, by decide +kernel⟩) ?_
    refine bq (iteF rfl (iteF rfl ?_))
    refine rest_root T hsc h1 N.hrr (by lia) fun oo' f ne => ?_
    repeat k_caught0
    exact fin oo' f ne
  · have hrn := N.hrn
    rw [List.concat_eq_append, List.map_append] at hrn
    refine o_nel (.inr ⟨_, rfl, hrn⟩) (.inl rfl) (.inr (by simp)) ?_
    refine bq (iteT (by simp) ?_)
    repeat k_caught0
    refine i_lst (fun _ _ => rfl) (.inr ⟨_, rfl, hrn⟩) (by simp at hl' ⊢; lia) at_last ?_
    repeat k_caught0
    refine i_tup (fun _ _ => rfl) (by simp) at_zero ?_
    repeat k_caught0
    refine c_len (.inr ⟨_, rfl, N.hrr⟩) (by simp; lia) ?_
    repeat k_caught0
    refine iteS (fun hb => ?_) fun hb => ?_
    · repeat k_caught0
      refine o_ninti (ns := [1, 77]) ?_
      refine bq (iteF (by decide +kernel) ?_)
      refine rest_root T hsc h1 N.hrr (by lia) fun oo' f ne => ?_
      repeat k_caught0
      exact fin oo' f ne
    · refine iteF rfl ?_
      refine rest_root T hsc h1 N.hrr (by lia) fun oo' f ne => ?_
      repeat k_caught0
      exact fin oo' f ne
theorem rest_kid (T : Top g) {oo ra x d1 d2 k1 k2 : Addr} {nm1 nm2 : Str} {v1 v2 c1 c2 p1 p2 r1 r2 : V} {ks tl : List V} (hsc : c.sc = s_nested) (hr : σ ra = some (.inst 188 d1 (itF 1 nm1 v1 c1 k1 p1 r1))) (hx : σ x = some (.inst 188 d2 (itF 5 nm2 v2 c2 k2 p2 r2)))
    (ho : σ oo = some (.list (.ref ra :: tl))) (ht : tl = [] ∨ ∃ b, tl = [.ref b] ∧ Lev σ b 5) (nok : oo ≠ k1)
    (hk : σ k1 = some (.list ks)) (hk5 : ks = [] ∨ ∃ b l, ks = .ref b :: l ∧ Lev σ b 5) (hl : ks.length ≤ 1000)
    (h : ∀ σ', σ' oo = some (.list [.ref ra, .ref x]) → σ' x = some (.inst 188 d2 (itF 5 nm2 v2 c2 k2 (.ref ra) r2)) → σ' k1 = some (.list (ks ++ [.ref x])) → Ext [oo, x, k1] σ σ' →
      P.nx [("item", .ref x), ("roots", .ref rr), ("open_items", .ref oo), ("last", last), ("renaming", .ref rn)] σ') :
    TSs prog g (k + 3) c [("item", .ref x), ("roots", .ref rr), ("open_items", .ref oo), ("last", last), ("renaming", .ref rn)] nels P X σ := by
  conv => arg 6; whnf
  repeat k_caught0
  refine o_inti (ns := [1, 77]) ?_
  repeat k_caught0
  intro σ' g1 g2 g3 e
  repeat k_caught0
  exact h σ' g1 g2 g3 e
theorem step_kid (T : Top g) (hsc : c.sc = s_nested) {x rt : It} {nm uw rnm : Str} {u : Nat} {tl : List V} (hx : x ∈ L) (he : x.e = .e05 nm uw u) (hrt : rt ∈ L) (hre : rt.e = .e01 rnm) (N : NI σ₀ L rr rn log roots (.ref rt.a :: tl) last ren loc σ) (hl : roots.length ≤ 900) (hl' : ren.length ≤ 900) (hl2 : log.length ≤ 900)
    (ht : tl = [] ∨ ∃ y ∈ L, y.e.lv = 5 ∧ tl = [.ref y.a]) (hk5 : look log rt.kd = [] ∨ ∃ y ∈ L, y.e.lv = 5 ∧ ∃ l, look log rt.kd = .ref y.a :: l) (hren : ∀ ri p, ren = ri ++ [p] → p.1 + 1 ≠ roots.length)
    (h : ∀ loc' σ', NI σ₀ L rr rn (log ++ [(rt.kd, .ref x.a)]) roots [.ref rt.a, .ref x.a] (.ref x.a) ren loc' σ' → P.nx loc' σ') : TSs prog g (k + 3) c (SetL "item" (.ref x.a) loc) nbody P X σ := by
  obtain ⟨oo, hs, ho, foo, n1, n2⟩ := N.oo
  obtain ⟨⟨d, p, h1⟩, hk, hc⟩ := N.view x hx
  rw [he] at h1
  have h1 : σ x.a = some (.inst 188 d (itF 5 nm (vNum u) x.cdV x.kd p .none)) := h1
  obtain ⟨⟨dr, pr, hr1⟩, hrk, hrc⟩ := N.view rt hrt
  rw [hre] at hr1
  have hr1 : σ rt.a = some (.inst 188 dr (itF 1 rnm .none rt.cdV rt.kd pr .none)) := hr1
  have lev : ∀ y ∈ L, y.e.lv = 5 → Lev σ y.a 5 := fun y hy e => by
    obtain ⟨⟨d, p, q⟩, _, _⟩ := N.view y hy
    rw [e] at q
    exact ⟨_, _, _, _, _, _, _, q⟩
  have ht' : tl = [] ∨ ∃ b, tl = [.ref b] ∧ Lev σ b 5 := ht.imp id fun ⟨y, hy, e, r⟩ => ⟨_, r, lev y hy e⟩
  have hk5' : look log rt.kd = [] ∨ ∃ b l, look log rt.kd = .ref b :: l ∧ Lev σ b 5 := hk5.imp id fun ⟨y, hy, e, l, r⟩ => ⟨_, l, r, lev y hy e⟩
  have nok : oo ≠ rt.kd := fun z => (N.live rt hrt).2.1 (z ▸ foo)
  have hll : (look log rt.kd).length ≤ 1000 := Nat.le_trans (look_len ..) (by lia)
  have fin : ∀ σ', σ' oo = some (.list [.ref rt.a, .ref x.a]) → σ' x.a = some (.inst 188 d (itF 5 nm (vNum u) x.cdV x.kd (.ref rt.a) .none)) → σ' rt.kd = some (.list (look log rt.kd ++ [.ref x.a])) → Ext [oo, x.a, rt.kd] σ σ' →
      P.nx [("last", .ref x.a), ("item", .ref x.a), ("roots", .ref rr), ("open_items", .ref oo), ("renaming", .ref rn)] σ' := by
    intro σ' g1 g2 g3 e
    have nx : ∀ {b o}, σ b = some o → σ₀ b = none → b ≠ oo → σ' b = some o := fun hb fb nb => e.get hb (by
      simp only [List.mem_cons, List.not_mem_nil, or_false, not_or]
      exact ⟨nb, fun z => (N.live x hx).1 (z ▸ fb), fun z => (N.live rt hrt).2.1 (z ▸ fb)⟩)
    refine h _ _ ⟨⟨oo, by simp, g1, foo, n1, n2⟩, nx N.hrr N.frr n1.symm, nx N.hrn N.frn n2.symm, N.view.app (D := [oo]) (xs := [x.a]) N.live (e.mono (by simp)) (by simpa using foo) hrk g3 ?_, N.ext.upds e ?_, N.live, N.frr, N.frn, N.ne⟩
    · intro a ha
      rw [List.mem_singleton.mp ha]
      exact ⟨_, _, _, _, _, _, _, _, _, h1, g2⟩
    · intro b hb
      simp only [List.mem_cons, List.not_mem_nil, or_false] at hb
      rcases hb with rfl | rfl | rfl
      · exact .inl foo
      · exact .inr (mem_adds hx).1
      · exact .inr (mem_adds hrt).2.1
  refine TSs.sub ?_ (sub_setL hs (by simp))
  conv => arg 6; whnf
  repeat k_caught0
  refine e_lst rfl ?_
  repeat k_caught0
  rcases List.eq_nil_or_concat ren with rfl | ⟨ri, pr, rfl⟩
  · refine o_nel (.inr ⟨_, rfl, N.hrn⟩) (.inl rfl) (.inl ⟨rfl, by decide +kernel⟩) ?_
    refine bq (iteF rfl (iteF rfl ?_))
    refine rest_kid T hsc hr1 h1 ho ht' nok hrk hk5' hll fun σ' g1 g2 g3 e => ?_
    repeat k_caught0
    exact fin σ' g1 g2 g3 e
  · have hrn := N.hrn
    rw [List.concat_eq_append, List.map_append] at hrn
    have hb := hren ri pr (by simp)
    refine o_nel (.inr ⟨_, rfl, hrn⟩) (.inl rfl) (.inr (by simp)) ?_
    refine bq (iteT (by simp) ?_)
    repeat k_caught0
    refine i_lst (fun _ _ => rfl) (.inr ⟨_, rfl, hrn⟩) (by simp at hl' ⊢; lia) at_last ?_
    repeat k_caught0
    refine i_tup (fun _ _ => rfl) (by simp) at_zero ?_
    repeat k_caught0
    refine c_len (.inr ⟨_, rfl, N.hrr⟩) (by simp; lia) ?_
    repeat k_caught0
    refine iteF (by simp; lia) ?_
    refine iteF rfl ?_
    refine rest_kid T hsc hr1 h1 ho ht' nok hrk hk5' hll fun σ' g1 g2 g3 e => ?_
    repeat k_caught0
    exact fin σ' g1 g2 g3 e
end
end
section
section
variable {k : Nat} {c : FC} {P : Post} {Q : V → Store → Prop} {X : Addr → Prop} {σ₀ σ σ' : Store} {loc : Loc} {L : List It} {rr rn : Addr} {log : List (Addr × V)} {roots : List Addr} {op : List V} {last : V} {ren : List (Nat × Addr)}
theorem step_88 (T : Top g) (hsc : c.sc = s_nested) {x y : It} {nm nm' uw : Str} {u : Nat} (hx : x ∈ L) (he : x.e = .e88 nm) (hy : y ∈ L) (hye : y.e = .e05 nm' uw u) (N : NI σ₀ L rr rn log roots op (.ref y.a) ren loc σ) (hl2 : log.length ≤ 900)
    (h : ∀ loc' σ', NI σ₀ L rr rn (log ++ [(y.cd, .ref x.cd)]) roots op (.ref y.a) ren loc' σ' → P.ct loc' σ') : TSs prog g (k + 3) c (SetL "item" (.ref x.a) loc) nbody P X σ := by
  obtain ⟨oo, hs, ho, foo, n1, n2⟩ := N.oo
  obtain ⟨⟨d, p, h1⟩, hk, hc⟩ := N.view x hx
  have ecd : x.cdV = .lst [.ref x.cd] := by unfold It.cdV; rw [he]; rfl
  rw [ecd, he] at h1
  have h1 : σ x.a = some (.inst 188 d (itF 88 nm .none (.lst [.ref x.cd]) x.kd p .none)) := h1
  obtain ⟨⟨dy, py, hy1⟩, hyk, hyc⟩ := N.view y hy
  have ecy : y.cdV = .ref y.cd := by unfold It.cdV; rw [hye]; rfl
  rw [ecy, hye] at hy1
  have hy1 : σ y.a = some (.inst 188 dy (itF 5 nm' (vNum u) (.ref y.cd) y.kd py .none)) := hy1
  rw [hye] at hyc
  have hyc : σ y.cd = some (.list (look log y.cd)) := hyc
  have hll : (look log y.cd).length ≤ 1000 := Nat.le_trans (look_len ..) (by lia)
  refine TSs.sub ?_ (sub_setL hs (by simp))
  conv => arg 6; whnf
  repeat k_caught0
  refine i_lst (fun _ _ => rfl) (.inl rfl) (by simp) at_zero ?_
  repeat k_caught0
  have e : Ext [y.cd] σ (upd σ y.cd (.list (look log y.cd ++ [.ref x.cd]))) := (Ext.refl _ σ).upd_in (by simp)
  have nx : ∀ {b o}, σ b = some o → σ₀ b = none → upd σ y.cd (.list (look log y.cd ++ [.ref x.cd])) b = some o := fun hb fb => e.get hb (by simp; rintro rfl; exact (N.live y hy).2.2 fb)
  refine h _ _ ⟨⟨oo, by simp, nx ho foo, foo, n1, n2⟩, nx N.hrr N.frr, nx N.hrn N.frn, N.view.app (D := []) (xs := []) N.live (e.mono (by simp)) (by simp) hyc (upd_self ..) (by simp), N.ext.upds e ?_, N.live, N.frr, N.frn, N.ne⟩
  intro b hb
  rw [List.mem_singleton.mp hb]
  exact .inr (mem_adds hy).2.2
theorem step_66 (T : Top g) (hsc : c.sc = s_nested) {x rt : It} {nm f rnm : Str} {l : Option Str} {ri : List Addr} (hx : x ∈ L) (he : x.e = .e66 nm f l) (hrt : rt ∈ L) (hre : rt.e = .e01 rnm) (N : NI σ₀ L rr rn log (ri ++ [rt.a]) op last ren loc σ) (hl : ri.length ≤ 900) (hl' : ren.length ≤ 900)
    (h : ∀ loc' σ', NI σ₀ L rr rn log (ri ++ [rt.a]) op (.ref x.a) (ren ++ [(ri.length, x.a)]) loc' σ' → P.nx loc' σ') : TSs prog g (k + 3) c (SetL "item" (.ref x.a) loc) nbody P X σ := by
  obtain ⟨oo, hs, ho, foo, n1, n2⟩ := N.oo
  obtain ⟨⟨d, p, h1⟩, hk, hc⟩ := N.view x hx
  rw [he] at h1
  have h1 : σ x.a = some (.inst 188 d (itF 66 nm .none x.cdV x.kd p (Ent.e66 nm f l).ren)) := h1
  obtain ⟨⟨dr, pr, hr1⟩, hrk, hrc⟩ := N.view rt hrt
  rw [hre] at hr1
  have hr1 : σ rt.a = some (.inst 188 dr (itF 1 rnm .none rt.cdV rt.kd pr .none)) := hr1
  have hrr := N.hrr
  rw [List.map_append] at hrr
  have hrr : σ rr = some (.list (ri.map V.ref ++ [.ref rt.a])) := hrr
  have hrn := N.hrn
  refine TSs.sub ?_ (sub_setL hs (by simp))
  conv => arg 6; whnf
  repeat k_caught0
  refine e_lst rfl ?_
  repeat k_caught0
  refine o_eql (.inr ⟨_, rfl, hrr⟩) (.inl rfl) (.inr (by simp)) ?_
  repeat k_caught0
  refine iteF (by simp) ?_
  repeat k_caught0
  refine i_lst (fun _ _ => rfl) (.inr ⟨_, rfl, hrr⟩) (by simp; lia) at_last ?_
  repeat k_caught0
  rw [show (((ri.map V.ref ++ [V.ref rt.a]).length : Nat) : Int) - 1 = (ri.length : Nat) by simp]
  have e : Ext [rn] σ (upd σ rn (.list ((ren.map fun p => V.tup [.int p.1, .ref p.2]) ++ [.tup [.int (ri.length : Nat), .ref x.a]]))) := (Ext.refl _ σ).upd_in (by simp)
  have hD : ∀ d ∈ [rn], σ₀ d = none := by simpa using N.frn
  refine h _ _ ⟨⟨oo, by simp, (upd_ne n2).trans ho, foo, n1, n2⟩, (upd_ne N.ne).trans N.hrr, ?_, N.view.out N.live e hD, N.ext.upds e fun d hd => .inl (hD d hd), N.live, N.frr, N.frn, N.ne⟩
  rw [upd_self, List.map_append]
  rfl
end
end
section
structure KidI where
  k : It
  c : Option It
structure RecI where
  rt : It
  kids : List KidI
  rn : Option It
noncomputable def KidI.its (q : KidI) : List It := q.k :: q.c.toList
noncomputable def RecI.its (r : RecI) : List It := r.rt :: (r.kids.flatMap KidI.its ++ r.rn.toList)
noncomputable def KidI.log (rt : It) (q : KidI) : List (Addr × V) := (rt.kd, .ref q.k.a) :: q.c.toList.map fun x => (q.k.cd, .ref x.cd)
noncomputable def RecI.log (r : RecI) : List (Addr × V) := r.kids.flatMap (KidI.log r.rt)
noncomputable def RecI.log2 (r : RecI) : List (Addr × V) := r.rn.toList.map fun x => (r.rt.kd, .ref x.a)
noncomputable def KidI.Ok (q : KidI) : Prop := (∃ nm uw u, q.k.e = .e05 nm uw u) ∧ ∀ x, q.c = some x → ∃ nm, x.e = .e88 nm
noncomputable def RecI.Ok (r : RecI) : Prop := (∃ nm, r.rt.e = .e01 nm) ∧ (∀ q ∈ r.kids, q.Ok) ∧ ∀ x, r.rn = some x → ∃ nm f l, x.e = .e66 nm f l
noncomputable def renOf : Nat → List RecI → List (Nat × Addr)
  | _, [] => []
  | n, r :: rs => r.rn.toList.map (fun x => (n, x.a)) ++ renOf (n + 1) rs
theorem its_log : ∀ (rt : It) (q : KidI), (q.log rt).length = q.its.length := fun rt q => by
  unfold KidI.log KidI.its
  cases q.c <;> rfl
section
variable {k : Nat} {c : FC} {P : Post} {Q : V → Store → Prop} {X : Addr → Prop} {σ₀ σ σ' : Store} {loc : Loc} {L : List It} {es rr rn : Addr} {log : List (Addr × V)} {roots : List Addr} {op : List V} {last : V} {ren : List (Nat × Addr)} {px : Pos}
theorem NI.at (N : NI σ₀ L rr rn log roots op last ren loc σ) (hes : es ∉ adds L) (h0 : σ₀ es ≠ none) : σ es = σ₀ es := N.ext es h0 hes
theorem head5_app {a : Addr} {l l' : List (Addr × V)} (h : ∃ y ∈ L, y.e.lv = 5 ∧ ∃ t, look l a = .ref y.a :: t) : ∃ y ∈ L, y.e.lv = 5 ∧ ∃ t, look (l ++ l') a = .ref y.a :: t := by
  obtain ⟨y, hy, e, t, q⟩ := h
  exact ⟨y, hy, e, t ++ look l' a, by rw [look_app, q]; rfl⟩
theorem loop_kids (T : Top g) (hsc : c.sc = s_nested) (hes : es ∉ adds L) (h0 : σ₀ es ≠ none) {rt : It} {rnm : Str} (hrt : rt ∈ L) (hre : rt.e = .e01 rnm) {vs : List V} (hren : ∀ p ∈ ren, p.1 + 1 < roots.length) (hl : roots.length ≤ 900) (hl' : ren.length ≤ 900) :
    ∀ (qs : List KidI) {log : List (Addr × V)} {tl : List V} {last : V} {loc : Loc} {σ : Store}, (∀ q ∈ qs, q.Ok ∧ ∀ x ∈ q.its, x ∈ L) → NI σ₀ L rr rn log roots (.ref rt.a :: tl) last ren loc σ → (tl = [] ∨ ∃ y ∈ L, y.e.lv = 5 ∧ tl = [.ref y.a]) →
      (look log rt.kd = [] ∨ ∃ y ∈ L, y.e.lv = 5 ∧ ∃ l, look log rt.kd = .ref y.a :: l) → log.length + (qs.flatMap KidI.its).length ≤ 900 →
      (∀ loc' σ' tl' last', NI σ₀ L rr rn (log ++ qs.flatMap (KidI.log rt)) roots (.ref rt.a :: tl') last' ren loc' σ' → ForL prog g (k + 3) c (.Name (Str.ofString "item") px) nbody P X [es] vs loc' σ') →
      ForL prog g (k + 3) c (.Name (Str.ofString "item") px) nbody P X [es] ((qs.flatMap KidI.its).map (fun x => V.ref x.a) ++ vs) loc σ := by
  intro qs
  induction qs with
  | nil =>
    intro log tl last loc σ _ N _ _ _ h
    exact h loc σ tl last (by simpa using N)
  | cons q qs ih =>
    intro log tl last loc σ hq N ht hk5 hb h
    obtain ⟨⟨⟨nm, uw, u, hk⟩, hc⟩, hL⟩ := hq q (.head _)
    have hkL : q.k ∈ L := hL _ (by simp [KidI.its])
    have key : look (log ++ [(rt.kd, V.ref q.k.a)]) rt.kd = look log rt.kd ++ [.ref q.k.a] := by rw [look_app, look_hit]
    have h5 : ∃ y ∈ L, y.e.lv = 5 ∧ ∃ t, look (log ++ [(rt.kd, V.ref q.k.a)]) rt.kd = .ref y.a :: t := by
      rcases hk5 with e | e
      · exact ⟨q.k, hkL, by rw [hk]; rfl, [], by rw [key, e]; rfl⟩
      · exact head5_app e
    have hb' := hb
    rw [List.flatMap_cons, List.length_append] at hb'
    have dD : ∀ {lg rs op la re lc s}, NI σ₀ L rr rn lg rs op la re lc s → ∀ d ∈ [es], s d = σ₀ d := fun N d hd => by rw [List.mem_singleton.mp hd]; exact N.at hes h0
    rw [List.flatMap_cons, List.map_append, List.append_assoc]
    show ForL prog g (k + 3) c (.Name (Str.ofString "item") px) nbody P X [es] (V.ref q.k.a :: (q.c.toList.map (fun x => V.ref x.a) ++ _)) loc σ
    have ll : q.its.length = 1 + q.c.toList.length := by unfold KidI.its; rw [List.length_cons]; lia
    refine forl_cons (ta_name (lk_of hsc rfl) (step_kid T hsc hkL hk hrt hre N hl hl' (by lia) ht hk5 (fun ri p e => ?_) fun loc1 σ1 N1 => ⟨fun d hd => (dD N1 d hd).trans (dD N d hd).symm, ?_⟩))
    · have := hren p (by rw [e]; simp)
      lia
    have ht1 : ([V.ref q.k.a] : List V) = [] ∨ ∃ y ∈ L, y.e.lv = 5 ∧ [V.ref q.k.a] = [.ref y.a] := .inr ⟨q.k, hkL, by rw [hk]; rfl, rfl⟩
    cases hqc : q.c with
    | none =>
      refine ih (fun q hq' => hq q (.tail _ hq')) N1 ht1 (.inr h5) (by rw [hqc] at ll; simp only [Option.toList_none, List.length_append, List.length_cons, List.length_nil] at ll ⊢; lia) fun loc' σ' tl' last' N' => ?_
      refine h loc' σ' tl' last' ?_
      rw [List.flatMap_cons, KidI.log, hqc]
      simpa using N'
    | some x =>
      obtain ⟨xnm, hxe⟩ := hc x hqc
      have hxL : x ∈ L := hL _ (by simp [KidI.its, hqc])
      rw [hqc] at ll
      simp only [Option.toList_some, List.length_cons, List.length_nil] at ll
      refine forl_cons (ta_name (lk_of hsc rfl) (step_88 T hsc hxL hxe hkL hk N1 (by simp only [List.length_append, List.length_cons, List.length_nil]; lia) fun loc2 σ2 N2 => ⟨fun d hd => (dD N2 d hd).trans (dD N1 d hd).symm, ?_⟩))
      refine ih (fun q hq' => hq q (.tail _ hq')) N2 ht1 (.inr (head5_app h5)) (by simp only [List.length_append, List.length_cons, List.length_nil]; lia) fun loc' σ' tl' last' N' => ?_
      refine h loc' σ' tl' last' ?_
      rw [List.flatMap_cons, KidI.log, hqc]
      simpa using N'
theorem loop_recs (T : Top g) (hsc : c.sc = s_nested) (hes : es ∉ adds L) (h0 : σ₀ es ≠ none) :
    ∀ (rs : List RecI) {log : List (Addr × V)} {roots : List Addr} {op : List V} {last : V} {ren : List (Nat × Addr)} {loc : Loc} {σ : Store}, (∀ r ∈ rs, r.Ok ∧ ∀ x ∈ r.its, x ∈ L) → NI σ₀ L rr rn log roots op last ren loc σ → (∀ p ∈ ren, p.1 < roots.length) →
      (∀ r ∈ rs, look log r.rt.kd = []) → rs.Pairwise (fun r s => look r.log s.rt.kd = []) → log.length + roots.length + ren.length + (rs.flatMap RecI.its).length ≤ 900 →
      (∀ loc' σ' op' last', NI σ₀ L rr rn (log ++ rs.flatMap RecI.log) (roots ++ rs.map fun r => r.rt.a) op' last' (ren ++ renOf roots.length rs) loc' σ' → P.nx loc' σ') →
      ForL prog g (k + 3) c (.Name (Str.ofString "item") px) nbody P X [es] ((rs.flatMap RecI.its).map (fun x => V.ref x.a)) loc σ := by
  intro rs
  induction rs with
  | nil =>
    intro log roots op last ren loc σ _ N _ _ _ _ h
    exact forl_nil (h loc σ op last (by simpa [renOf] using N))
  | cons r rs ih =>
    intro log roots op last ren loc σ hr N hren hlk hpw hb h
    obtain ⟨⟨⟨nm, hre⟩, hkids, hrn⟩, hL⟩ := hr r (.head _)
    have hrt : r.rt ∈ L := hL _ (by simp [RecI.its])
    have dD : ∀ {lg rs op la re lc s}, NI σ₀ L rr rn lg rs op la re lc s → ∀ d ∈ [es], s d = σ₀ d := fun N d hd => by rw [List.mem_singleton.mp hd]; exact N.at hes h0
    have hb' := hb
    rw [List.flatMap_cons, List.length_append] at hb'
    have li : r.its.length = 1 + (r.kids.flatMap KidI.its).length + r.rn.toList.length := by unfold RecI.its; rw [List.length_cons, List.length_append]; lia
    have llog : r.log.length = (r.kids.flatMap KidI.its).length := by
      unfold RecI.log
      rw [List.length_flatMap, List.length_flatMap]
      congr 1
      exact List.map_congr_left fun q _ => its_log _ _
    rw [List.flatMap_cons, List.map_append]
    unfold RecI.its
    rw [List.map_cons, List.map_append, List.cons_append, List.append_assoc]
    refine forl_cons (ta_name (lk_of hsc rfl) (step_root T hsc hrt hre N (by lia) (by lia) fun loc1 σ1 N1 => ⟨fun d hd => (dD N1 d hd).trans (dD N d hd).symm, ?_⟩))
    refine loop_kids T hsc hes h0 hrt hre (fun p hp => by rw [List.length_append, List.length_singleton]; have := hren p hp; lia) (by simp only [List.length_append, List.length_cons, List.length_nil]; lia) (by lia) r.kids (fun q hq => ⟨hkids q hq, fun x hx => hL x (by
      unfold RecI.its
      exact .tail _ (List.mem_append_left _ (List.mem_flatMap.mpr ⟨q, hq, hx⟩)))⟩) N1 (.inl rfl) (.inl (hlk r (.head _))) (by lia) fun loc2 σ2 tl2 last2 N2 => ?_
    obtain ⟨hp1, hp2⟩ := List.pairwise_cons.mp hpw
    have lk2 : ∀ s ∈ rs, look (log ++ r.kids.flatMap (KidI.log r.rt)) s.rt.kd = [] := fun s hs => by
      rw [look_app, hlk s (.tail _ hs)]
      exact hp1 s hs
    have N2 : NI σ₀ L rr rn (log ++ r.log) (roots ++ [r.rt.a]) (.ref r.rt.a :: tl2) last2 ren loc2 σ2 := N2
    cases hrc : r.rn with
    | none =>
      rw [hrc] at li
      simp only [Option.toList_some, Option.toList_none, List.length_cons, List.length_nil] at li
      refine ih (fun s hs => hr s (.tail _ hs)) N2 (fun p hp => by rw [List.length_append]; have := hren p hp; lia) lk2 hp2 (by simp only [List.length_append, List.length_cons, List.length_nil]; lia) fun loc' σ' op' last' N' => h loc' σ' op' last' ?_
      rw [List.flatMap_cons, List.map_cons, renOf, hrc]
      simpa using N'
    | some x =>
      obtain ⟨xn, f, l, hxe⟩ := hrn x hrc
      rw [hrc] at li
      simp only [Option.toList_some, Option.toList_none, List.length_cons, List.length_nil] at li
      have hxL : x ∈ L := hL x (by unfold RecI.its; rw [hrc]; simp)
      refine forl_cons (ta_name (lk_of hsc rfl) (step_66 T hsc hxL hxe hrt hre N2 (by lia) (by lia) fun loc3 σ3 N3 => ⟨fun d hd => (dD N3 d hd).trans (dD N2 d hd).symm, ?_⟩))
      refine ih (fun s hs => hr s (.tail _ hs)) N3 (fun p hp => ?_) lk2 hp2 (by simp only [List.length_append, List.length_cons, List.length_nil]; lia) fun loc' σ' op' last' N' => h loc' σ' op' last' ?_
      · rw [List.length_append, List.length_singleton]
        rcases List.mem_append.mp hp with hp | hp
        · have := hren p hp; lia
        · rw [List.mem_singleton.mp hp]
          exact Nat.lt_succ_self _
      rw [List.flatMap_cons, List.map_cons, renOf, hrc]
      simpa using N'
end
end
section
noncomputable def nbody2 : List Stmt := match b_nested with | _ :: _ :: .For _ _ b _ _ :: _ => b | _ => []
section
variable {k : Nat} {c : FC} {P : Post} {Q : V → Store → Prop} {X : Addr → Prop} {σ₀ σ σ' : Store} {loc : Loc} {L : List It} {es rr rn : Addr} {log : List (Addr × V)} {roots : List Addr} {op : List V} {last : V} {ren : List (Nat × Addr)} {px : Pos}
theorem step2 (T : Top g) (hsc : c.sc = s_nested) {x rt : It} {nm f rnm : Str} {l : Option Str} {i : Nat} (hx : x ∈ L) (he : x.e = .e66 nm f l) (hrt : rt ∈ L) (hre : rt.e = .e01 rnm) (N : NI σ₀ L rr rn log roots op last ren loc σ) (hi : roots[i]? = some rt.a) (hl : roots.length ≤ 900) (hl2 : log.length ≤ 900)
    (h : ∀ loc' σ', NI σ₀ L rr rn (log ++ [(rt.kd, .ref x.a)]) roots op last ren loc' σ' → P.nx loc' σ') : TSs prog g (k + 3) c (SetLs ["index", "item"] [.int i, .ref x.a] loc) nbody2 P X σ := by
  have N0 := N
  obtain ⟨oo, hs, ho, foo, n1, n2⟩ := N.oo
  obtain ⟨⟨d, p, h1⟩, hk, hc⟩ := N.view x hx
  obtain ⟨⟨dr, pr, hr1⟩, hrk, hrc⟩ := N.view rt hrt
  have nrx : rt.a ≠ x.a := fun z => by
    rw [z, h1] at hr1
    have e := congrArg (fun f => f.lookup "level") (O.inst.inj (Option.some.inj hr1)).2.2
    have e : some (V.int x.e.lv) = some (V.int rt.e.lv) := e
    rw [he, hre] at e
    have := V.int.inj (Option.some.inj e)
    simp [Ent.lv] at this
  rw [he] at h1
  rw [hre] at hr1
  have h1 : σ x.a = some (.inst 188 d (itF 66 nm .none x.cdV x.kd p (Ent.e66 nm f l).ren)) := h1
  have hr1 : σ rt.a = some (.inst 188 dr (itF 1 rnm .none rt.cdV rt.kd pr .none)) := hr1
  have hrr := N.hrr
  have hll : (look log rt.kd).length ≤ 1000 := Nat.le_trans (look_len ..) (by lia)
  have hlen : i < roots.length := (List.getElem?_eq_some_iff.mp hi).1
  refine TSs.sub (loc' := [("item", .ref x.a), ("index", .int i), ("roots", .ref rr), ("open_items", .ref oo), ("last", last), ("renaming", .ref rn)]) ?_ ?_
  · conv => arg 6; whnf
    repeat k_caught0
    refine i_lst (fun _ _ => rfl) (.inr ⟨_, rfl, hrr⟩) (by simp; lia) (v := .ref rt.a) ⟨by rw [if_neg (by lia)]; simp [hi], by lia⟩ ?_
    repeat k_caught0
    refine c_add T hr1 h1 nrx hrk hll fun σ' g1 g2 e => ?_
    repeat k_caught0
    have nx : ∀ {b o}, σ b = some o → σ₀ b = none → σ' b = some o := fun hb fb => e.get hb (by
      simp only [List.mem_cons, List.not_mem_nil, or_false, not_or]
      exact ⟨fun z => (N.live x hx).1 (z ▸ fb), fun z => (N.live rt hrt).2.1 (z ▸ fb)⟩)
    refine h _ _ ⟨⟨oo, by simp, nx ho foo, foo, n1, n2⟩, nx N.hrr N.frr, nx N.hrn N.frn, N.view.app (D := []) (xs := [x.a]) N.live (e.mono (by simp)) (by simp) hrk g2 ?_, N.ext.upds e ?_, N.live, N.frr, N.frn, N.ne⟩
    · intro a ha
      rw [List.mem_singleton.mp ha]
      exact ⟨_, _, _, _, _, _, _, _, _, h1, g1⟩
    · intro b hb
      simp only [List.mem_cons, List.not_mem_nil, or_false] at hb
      rcases hb with rfl | rfl
      · exact .inr (mem_adds hx).1
      · exact .inr (mem_adds hrt).2.1
  · intro q hq
    show q ∈ SetL "item" (.ref x.a) (SetL "index" (.int i) loc)
    refine sub_setL (l0 := [("index", .int i), ("roots", .ref rr), ("open_items", .ref oo), ("last", last), ("renaming", .ref rn)]) (sub_setL hs (by simp)) (by simp) q hq
theorem loop2 (T : Top g) (hsc : c.sc = s_nested) {p1 p2 p3 : Pos} {n0 : Nat} (hl : roots.length ≤ 900) :
    ∀ (rs : List RecI) {pre : List Addr} {log : List (Addr × V)} {loc : Loc} {σ : Store}, (∀ r ∈ rs, r.Ok ∧ ∀ x ∈ r.its, x ∈ L) → NI σ₀ L rr rn log roots op last ren loc σ → roots = pre ++ rs.map (fun r => r.rt.a) → log.length + rs.length ≤ 900 →
      (∀ loc' σ', NI σ₀ L rr rn (log ++ rs.flatMap RecI.log2) roots op last ren loc' σ' → P.nx loc' σ') →
      ForL prog g (k + 3) c (.Tuple [.Name (Str.ofString "index") p1, .Name (Str.ofString "item") p2] n0 p3) nbody2 P X [rn] ((renOf pre.length rs).map fun p => V.tup [.int p.1, .ref p.2]) loc σ := by
  intro rs
  induction rs with
  | nil =>
    intro pre log loc σ _ N _ _ h
    exact forl_nil (h loc σ (by simpa using N))
  | cons r rs ih =>
    intro pre log loc σ hr N hro hb h
    obtain ⟨⟨⟨nm, hre⟩, hkids, hrn⟩, hL⟩ := hr r (.head _)
    have hrt : r.rt ∈ L := hL _ (by simp [RecI.its])
    have hro' : roots = (pre ++ [r.rt.a]) ++ rs.map (fun r => r.rt.a) := by rw [hro]; simp
    have hpl : pre.length + 1 = (pre ++ [r.rt.a]).length := by simp
    rw [List.length_cons] at hb
    rw [renOf]
    cases hrc : r.rn with
    | none =>
      rw [hpl]
      refine ih (fun s hs => hr s (.tail _ hs)) N hro' (by lia) fun loc' σ' N' => h loc' σ' ?_
      rw [List.flatMap_cons, RecI.log2, hrc]
      exact N'
    | some x =>
      obtain ⟨xn, f, l, hxe⟩ := hrn x hrc
      have hxL : x ∈ L := hL x (by unfold RecI.its; rw [hrc]; simp)
      rw [hpl]
      refine forl_cons (ta_tup (NamesOf.cons (NamesOf.cons NamesOf.nil)) (all_local hsc rfl) (.inl rfl) rfl ?_)
      refine step2 T hsc hxL hxe hrt hre N (by rw [hro]; simp) hl (by lia) fun loc1 σ1 N1 => ⟨fun d hd => by rw [List.mem_singleton.mp hd, N1.hrn, N.hrn], ?_⟩
      refine ih (fun s hs => hr s (.tail _ hs)) N1 hro' (by rw [List.length_append]; simp only [List.length_cons, List.length_nil]; lia) fun loc' σ' N' => h loc' σ' ?_
      rw [List.flatMap_cons, RecI.log2, hrc]
      simpa using N'
noncomputable def logOf (rs : List RecI) : List (Addr × V) := rs.flatMap RecI.log ++ rs.flatMap RecI.log2
theorem c_nested (T : Top g) {rs : List RecI} (hes : es ∉ adds (rs.flatMap RecI.its)) (hl : σ es = some (.list ((rs.flatMap RecI.its).map fun x => .ref x.a))) (hok : ∀ r ∈ rs, r.Ok) (hv : View σ (rs.flatMap RecI.its) []) (hpw : rs.Pairwise (fun r s => look r.log s.rt.kd = []))
    (hn : (rs.flatMap RecI.its).length ≤ 400) (h : ∀ rr σ', σ rr = none → σ' rr = some (.list (rs.map fun r => .ref r.rt.a)) → View σ' (rs.flatMap RecI.its) (logOf rs) → Ext (adds (rs.flatMap RecI.its)) σ σ' → Q (.ref rr) σ') : CV prog g (k + 4) (.ref 365) [.ref es] Q X σ := by
  refine CF.cv (call_nested_1 T fun c hsc hcl => ?_)
  have live : Live σ (rs.flatMap RecI.its) := fun x hx => by
    obtain ⟨⟨_, _, y1⟩, y2, y3⟩ := hv x hx
    refine ⟨by rw [y1]; exact (nomatch ·), by rw [y2]; exact (nomatch ·), ?_⟩
    split at y3
    · obtain ⟨_, y3⟩ := y3; rw [y3]; exact (nomatch ·)
    · rw [y3]; exact (nomatch ·)
  have h0 : σ es ≠ none := by rw [hl]; exact (nomatch ·)
  have lrs : rs.length ≤ (rs.flatMap RecI.its).length := by
    clear hes hl hok hv hpw hn h live
    induction rs with
    | nil => exact Nat.zero_le _
    | cons r rs ih => rw [List.flatMap_cons, List.length_append, List.length_cons]; have : 1 ≤ r.its.length := by { unfold RecI.its; rw [List.length_cons]; lia }
                      lia
  conv => arg 6; whnf
  repeat k_caught0
  refine e_list T.ok rfl ⟨by decide, fun rr frr => ?_⟩
  repeat k_caught0
  refine e_list T.ok rfl ⟨by decide, fun oo foo => ?_⟩
  repeat k_caught0
  refine e_list T.ok rfl ⟨by decide, fun rn frn => ?_⟩
  repeat k_caught0
  have nor : oo ≠ rr := fun z => by rw [z, upd_self] at foo; cases foo
  rw [upd_ne nor] at foo
  have nno : rn ≠ oo := fun z => by rw [z, upd_self] at frn; cases frn
  rw [upd_ne nno] at frn
  have nnr : rn ≠ rr := fun z => by rw [z, upd_self] at frn; cases frn
  rw [upd_ne nnr] at frn
  have e3 : Ext [rr, oo, rn] σ (upd (upd (upd σ rr (.list [])) oo (.list [])) rn (.list [])) := (((Ext.refl _ σ).upd_in (by simp)).upd_in (by simp)).upd_in (by simp)
  have hD : ∀ d ∈ [rr, oo, rn], σ d = none := by simp [frr, foo, frn]
  have hes3 := e3.out hD h0 hl
  refine ⟨_, [es], Src.ref T.ok hes3, loop_recs T hsc hes h0 rs (rr := rr) (rn := rn) (log := []) (roots := []) (op := []) (last := .none) (ren := []) (fun r hr => ⟨hok r hr, fun x hx => List.mem_flatMap.mpr ⟨r, hr, hx⟩⟩) ⟨⟨oo, by simp, (upd_ne nno.symm).trans (upd_self ..), foo, nor, nno.symm⟩, ?_, upd_self .., hv.out live e3 hD, (Ext.refl _ σ).upds e3 fun d hd => .inl (hD d hd), live, frr, frn, nnr.symm⟩ (by simp) (fun _ _ => rfl) hpw (by simp only [List.length_nil]; lia) fun loc1 σ1 op1 last1 N1 => ?_⟩
  · rw [upd_ne nnr.symm, upd_ne nor.symm, upd_self]; rfl
  rw [List.nil_append, List.nil_append, List.nil_append] at N1
  obtain ⟨oo1, hs1, _⟩ := N1.oo
  refine ss_cons (s_for (e_loc (hs1 ("renaming", .ref rn) (by simp)) ⟨_, [rn], Src.ref T.ok N1.hrn, ?_⟩ rfl) (by intro _ _; rfl))
  have ll : (rs.flatMap RecI.log).length ≤ (rs.flatMap RecI.its).length := by
    clear hes hl hok hv hpw hn h live hs1 N1 lrs hes3 e3
    induction rs with
    | nil => exact Nat.zero_le _
    | cons r rs ih =>
      have llog : r.log.length = (r.kids.flatMap KidI.its).length := by
        unfold RecI.log
        rw [List.length_flatMap, List.length_flatMap]
        congr 1
        exact List.map_congr_left fun q _ => its_log _ _
      rw [List.flatMap_cons, List.length_append, List.flatMap_cons, List.length_append]
      have : r.its.length = 1 + (r.kids.flatMap KidI.its).length + r.rn.toList.length := by unfold RecI.its; rw [List.length_cons, List.length_append]; lia
      lia
  refine loop2 T hsc (by simp; lia) rs (pre := []) (fun r hr => ⟨hok r hr, fun x hx => List.mem_flatMap.mpr ⟨r, hr, hx⟩⟩) N1 rfl (by lia) fun loc2 σ2 N2 => ?_
  obtain ⟨oo2, hs2, _⟩ := N2.oo
  refine TSs.sub ?_ hs2
  repeat k_caught0
  have hrr := N2.hrr
  rw [List.map_map] at hrr
  exact h rr σ2 frr hrr N2.view N2.ext
end
end
section
noncomputable def Ent.words : Ent → List (Str × Str)
  | .e01 nm => [(sNum, Str.ofString "01"), (sWord, nm), (sSign, Str.ofString ".")]
  | .e05 nm uw _ => [(sNum, Str.ofString "05"), (sWord, nm), (sWord, Str.ofString "VALUE"), (sNum, uw), (sSign, Str.ofString ".")]
  | .e88 nm => [(sNum, Str.ofString "88"), (sWord, nm), (sWord, Str.ofString "VALUES"), (sWord, Str.ofString "ARE"), (sLit, Str.ofString "a"), (sWord, Str.ofString "THRU"), (sLit, Str.ofString "c"), (sNum, Str.ofString "5"), (sWord, Str.ofString "ZERO"), (sSign, Str.ofString ".")]
  | .e66 nm f none => [(sNum, Str.ofString "66"), (sWord, nm), (sWord, Str.ofString "RENAMES"), (sWord, f), (sSign, Str.ofString ".")]
  | .e66 nm f (some l) => [(sNum, Str.ofString "66"), (sWord, nm), (sWord, Str.ofString "RENAMES"), (sWord, f), (sWord, Str.ofString "THROUGH"), (sWord, l), (sSign, Str.ofString ".")]
noncomputable def Ent.Ok : Ent → Prop
  | .e01 nm => isRes nm = false
  | .e05 nm uw u => isRes nm = false ∧ DecOk uw u
  | .e88 nm => isRes nm = false
  | .e66 nm f l => isRes nm = false ∧ isRes f = false ∧ ∀ x, l = some x → isRes x = false
theorem says_cons {ts : List Tk} {kd w : Str} {ws : List (Str × Str)} (h : ts.map (·.2) = (kd, w) :: ws) : ∃ p ts', ts = p :: ts' ∧ Is p kd w ∧ ts'.map (·.2) = ws := by
  cases ts with
  | nil => cases h
  | cons p ts' =>
    rw [List.map_cons] at h
    obtain ⟨h1, h2⟩ := List.cons.inj h
    exact ⟨p, ts', rfl, ⟨by rw [h1], by rw [h1]⟩, h2⟩
theorem says_nil {ts : List Tk} (h : ts.map (·.2) = []) : ts = [] := List.map_eq_nil_iff.mp h
noncomputable def Says : List (Str × Str) → (List Tk → Prop) → Prop
  | [], C => C []
  | a :: w, C => ∀ p, Is p a.1 a.2 → Says w fun ts => C (p :: ts)
@[elab_as_elim] theorem says_all : ∀ {w : List (Str × Str)} {ts : List Tk} {C : List Tk → Prop}, ts.map (·.2) = w → Says w C → C ts
  | [], ts, C, h, k => by rw [says_nil h]; exact k
  | a :: w, ts, C, h, k => by
    obtain ⟨p, ts', rfl, h1, h2⟩ := says_cons h
    exact says_all (C := fun ts => C (p :: ts)) h2 (k p h1)
theorem lit_a {p : Tk} (h : Is p sLit (Str.ofString "a")) : Lit p (vText [97]) := by
  have := Lit.text (p := p) h.1 (by rw [h.2]; decide +kernel) (by rw [h.2]; decide +kernel)
  rw [h.2] at this
  exact this
theorem lit_c {p : Tk} (h : Is p sLit (Str.ofString "c")) : Lit p (vText [99]) := by
  have := Lit.text (p := p) h.1 (by rw [h.2]; decide +kernel) (by rw [h.2]; decide +kernel)
  rw [h.2] at this
  exact this
theorem lit_5 {p : Tk} (h : Is p sNum (Str.ofString "5")) : Lit p (vNum 5) := Lit.num h.1 (h.2 ▸ dec_5)
theorem lit_ZERO {p : Tk} (h : Is p sWord (Str.ofString "ZERO")) : Lit p vZero :=
  Lit.fig h.1 (by rw [h.2]; kernel_rfl) (by rw [h.2]; decide +kernel) (by rw [h.2]; exact res_ZERO)
section
variable {k : Nat} {c : FC} {P : Post} {Q : V → Store → Prop} {X : Addr → Prop} {σ₀ σ σ' : Store} {r : Addr} {R : RdA} {n : Nat} {rest : List Tk} {loc : Loc}
theorem its_new {i c1 kd : Addr} {e : Ent} (h8 : e.is88 = false) (h : NewIt σ σ' i e.lv e.nm e.val (.ref c1) e.ren kd) (hc : σ' c1 = some (.list [])) : ItS σ' [] ⟨i, kd, c1, e⟩ := by
  obtain ⟨d, hd⟩ := h.self
  refine ⟨⟨d, .none, ?_⟩, h.kids, ?_⟩
  · show _ = some (O.inst 188 d (itF e.lv e.nm e.val (It.cdV ⟨i, kd, c1, e⟩) kd .none e.ren))
    unfold It.cdV
    rw [if_neg (by simp [h8])]
    exact hd
  · rw [if_neg (by simp [h8])]
    exact hc
theorem c_read_entry (T : Top g) {e : Ent} {ts rest' : List Tk} (hR : RD σ r R n (ts ++ rest')) (hS : Short R) (hw : ts.map (·.2) = e.words) (hok : e.Ok)
    (h : ∀ x σ', x.e = e → RD σ' r R (n + ts.length) rest' → Ext [r] σ σ' → ItS σ' [] x → σ x.a = none → σ x.kd = none → σ x.cd = none → x.kd ≠ x.cd → Q (.ref x.a) σ') : CV prog g (k + 10) (.ref 344) [.ref r] Q X σ := by
  cases e with
  | e01 nm =>
    revert hR h
    refine says_all hw ?_
    intro p1 h1 p2 h2 p3 h3 hR h
    refine c_entry01 T hR hS h1 h2.1 (by rw [h2.2]; exact hok) h3 fun i c1 kd σ' hr he ni hc fc ne => ?_
    rw [h2.2] at ni
    exact h ⟨i, kd, c1, .e01 nm⟩ σ' rfl hr he (its_new rfl ni hc) ni.fi ni.fk fc ne.symm
  | e05 nm uw u =>
    revert hR h
    refine says_all hw ?_
    intro p1 h1 p2 h2 p3 h3 p4 h4 p5 h5 hR h
    refine c_entry05 T hR hS h1 h2.1 (by rw [h2.2]; exact hok.1) h3 h4.1 (by rw [h4.2]; exact hok.2) h5 fun i c1 kd σ' hr he ni hc fc ne => ?_
    rw [h2.2] at ni
    exact h ⟨i, kd, c1, .e05 nm uw u⟩ σ' rfl hr he (its_new rfl ni hc) ni.fi ni.fk fc ne.symm
  | e88 nm =>
    revert hR h
    refine says_all hw ?_
    intro p1 h1 p2 h2 p3 h3 p4 h4 p5 h5 p6 h6 p7 h7 p8 h8 p9 h9 p10 h10 hR h
    refine c_entry88 T hR hS h1 h2.1 (by rw [h2.2]; exact hok) h3 h4 (lit_a h5) h6 (lit_c h7) (lit_5 h8) (lit_ZERO h9) h10 h7.1 h8.1 h9 fun i na dn kd σ' hr he ni hn fn => ?_
    rw [h2.2] at ni hn
    obtain ⟨d, hd⟩ := ni.self
    refine h ⟨i, kd, na, .e88 nm⟩ σ' rfl hr he ⟨⟨d, .none, hd⟩, ni.kids, ?_⟩ ni.fi ni.fk fn fun z => ?_
    · exact ⟨dn, hn⟩
    · have : kd = na := z
      have q := ni.kids
      rw [this, hn] at q
      cases q
  | e66 nm f l =>
    cases l with
    | none =>
      revert hR h
      refine says_all hw ?_
      intro p1 h1 p2 h2 p3 h3 p4 h4 p5 h5 hR h
      refine c_entry66a T hR hS h1 h2.1 (by rw [h2.2]; exact hok.1) h3 h4.1 (by rw [h4.2]; exact hok.2.1) h5 fun i c1 kd σ' hr he ni hc fc ne => ?_
      rw [h2.2, h4.2] at ni
      exact h ⟨i, kd, c1, .e66 nm f none⟩ σ' rfl hr he (its_new rfl ni hc) ni.fi ni.fk fc ne.symm
    | some l =>
      revert hR h
      refine says_all hw ?_
      intro p1 h1 p2 h2 p3 h3 p4 h4 p5 h5 p6 h6 p7 h7 hR h
      refine c_entry66b T hR hS h1 h2.1 (by rw [h2.2]; exact hok.1) h3 h4.1 (by rw [h4.2]; exact hok.2.1) h5 h6.1 (by rw [h6.2]; exact hok.2.2 _ rfl) h7 fun i c1 kd σ' hr he ni hc fc ne => ?_
      rw [h2.2, h4.2, h6.2] at ni
      exact h ⟨i, kd, c1, .e66 nm f (some l)⟩ σ' rfl hr he (its_new rfl ni hc) ni.fi ni.fk fc ne.symm
theorem c_is_level_here (T : Top g) (hR : RD σ r R n rest) (h : Q (.bool (pKind rest 0 sNum)) σ) : CV prog g (k + 2) (.ref 351) [.ref r] Q X σ := by
  refine CF.cv (call_is_level_here_1 T fun c hsc hcl => ?_)
  conv => arg 6; whnf
  repeat k_caught0
  unfold pk
  unfold pKind at h
  cases hp : rest[0]? with
  | none => rw [hp] at h; repeat k_caught0
            exact h
  | some p =>
    rw [hp] at h
    obtain ⟨d, hd⟩ := hR.tok p (hR.mem hp)
    repeat k_caught0
    exact h
end
end
section
noncomputable def la (L : List It) : List Addr := L.flatMap fun x => [x.kd, x.cd]
theorem la_app (L L' : List It) : la (L ++ L') = la L ++ la L' := by unfold la; rw [List.flatMap_append]
theorem la_cons (x : It) (L : List It) : la (x :: L) = x.kd :: x.cd :: la L := rfl
theorem look_not {l : List (Addr × V)} {b : Addr} (h : ∀ p ∈ l, p.1 ≠ b) : look l b = [] := by
  unfold look
  rw [List.map_eq_nil_iff, List.filter_eq_nil_iff]
  intro p hp
  simpa using h p hp
theorem mem_la {L : List It} {x : It} (h : x ∈ L) : x.kd ∈ la L ∧ x.cd ∈ la L := by
  unfold la
  exact ⟨List.mem_flatMap.mpr ⟨x, h, by simp⟩, List.mem_flatMap.mpr ⟨x, h, by simp⟩⟩
theorem la_sub {L L' : List It} (h : ∀ x ∈ L, x ∈ L') : ∀ b ∈ la L, b ∈ la L' := fun b hb => by
  unfold la at hb
  obtain ⟨x, hx, hb⟩ := List.mem_flatMap.mp hb
  simp only [List.mem_cons, List.not_mem_nil, or_false] at hb
  rcases hb with rfl | rfl
  · exact (mem_la (h x hx)).1
  · exact (mem_la (h x hx)).2
theorem klog_keys {rt : It} {q : KidI} : ∀ p ∈ q.log rt, p.1 = rt.kd ∨ p.1 = q.k.cd := fun p hp => by
  unfold KidI.log at hp
  rcases List.mem_cons.mp hp with rfl | hp
  · exact .inl rfl
  · obtain ⟨x, _, rfl⟩ := List.mem_map.mp hp
    exact .inr rfl
theorem rlog_keys {r : RecI} : ∀ p ∈ r.log, p.1 ∈ la r.its := fun p hp => by
  unfold RecI.log at hp
  obtain ⟨q, hq, hp⟩ := List.mem_flatMap.mp hp
  rcases klog_keys p hp with e | e
  · rw [e]; exact (mem_la (by simp [RecI.its])).1
  · rw [e]; exact (mem_la (by unfold RecI.its; exact .tail _ (List.mem_append_left _ (List.mem_flatMap.mpr ⟨q, hq, .head _⟩)))).2
theorem rlog2_keys {r : RecI} : ∀ p ∈ r.log2, p.1 = r.rt.kd := fun p hp => by
  unfold RecI.log2 at hp
  obtain ⟨x, _, rfl⟩ := List.mem_map.mp hp
  rfl
theorem rlog2_keys' {r : RecI} : ∀ p ∈ r.log2, p.1 ∈ la r.its := fun p hp => by rw [rlog2_keys p hp]; exact (mem_la (by simp [RecI.its])).1
theorem nd_app {α : Type} {l l' : List α} (h : (l ++ l').Nodup) : l.Nodup ∧ l'.Nodup ∧ ∀ a ∈ l, a ∉ l' := by
  rw [List.nodup_append] at h
  exact ⟨h.1, h.2.1, fun a ha hb => h.2.2 a ha a hb rfl⟩
theorem look_part {α : Type} {its : α → List It} {log : α → List (Addr × V)} : ∀ {rs : List α}, (∀ r ∈ rs, ∀ p ∈ log r, p.1 ∈ la (its r)) → (la (rs.flatMap its)).Nodup → ∀ r ∈ rs, ∀ b ∈ la (its r), look (rs.flatMap log) b = look (log r) b := by
  intro rs
  induction rs with
  | nil =>
    intro _ _ r hr _ _
    exact nomatch hr
  | cons s rs ih =>
    intro hk nd r hr b hb
    rw [List.flatMap_cons, la_app] at nd
    obtain ⟨n1, n2, n3⟩ := nd_app nd
    rw [List.flatMap_cons, look_app]
    rcases List.mem_cons.mp hr with rfl | hr
    · rw [look_not (l := rs.flatMap log), List.append_nil]
      intro p hp z
      obtain ⟨t, ht, hp⟩ := List.mem_flatMap.mp hp
      exact n3 b hb (la_sub (fun x hx => List.mem_flatMap.mpr ⟨t, ht, hx⟩) b (z ▸ hk t (.tail _ ht) p hp))
    · have hb' := la_sub (L' := rs.flatMap its) (fun x hx => List.mem_flatMap.mpr ⟨r, hr, hx⟩) b hb
      rw [look_not (l := log s), List.nil_append]
      · exact ih (fun t ht => hk t (.tail _ ht)) n2 r hr b hb
      · intro p hp z
        exact n3 b (z ▸ hk s (.head _) p hp) hb'
theorem its_nodup {α : Type} {its : α → List It} : ∀ {rs : List α}, (la (rs.flatMap its)).Nodup → ∀ r ∈ rs, (la (its r)).Nodup
  | [], _, r, hr => nomatch hr
  | s :: rs, nd, r, hr => by
    rw [List.flatMap_cons, la_app] at nd
    obtain ⟨n1, n2, n3⟩ := nd_app nd
    rcases List.mem_cons.mp hr with rfl | hr
    · exact n1
    · exact its_nodup n2 r hr
theorem look_log {rs : List RecI} (nd : (la (rs.flatMap RecI.its)).Nodup) {r : RecI} (hr : r ∈ rs) {b : Addr} (hb : b ∈ la r.its) : look (logOf rs) b = look r.log b ++ look r.log2 b := by
  unfold logOf
  rw [look_app, look_part (fun r _ => rlog_keys) nd r hr b hb, look_part (fun r _ => rlog2_keys') nd r hr b hb]
theorem pw_of {rs : List RecI} (nd : (la (rs.flatMap RecI.its)).Nodup) : rs.Pairwise (fun r s => look r.log s.rt.kd = []) := by
  induction rs with
  | nil => exact .nil
  | cons r rs ih =>
    rw [List.flatMap_cons, la_app] at nd
    obtain ⟨n1, n2, n3⟩ := nd_app nd
    refine .cons (fun s hs => look_not fun p hp z => n3 _ (rlog_keys p hp) ?_) (ih n2)
    rw [z]
    exact (mem_la (List.mem_flatMap.mpr ⟨s, hs, by simp [RecI.its]⟩)).1
theorem ndc {α : Type} {a b : α} {l : List α} (h : (a :: b :: l).Nodup) : a ≠ b ∧ a ∉ l ∧ b ∉ l ∧ l.Nodup := by
  rw [List.nodup_cons, List.nodup_cons] at h
  refine ⟨fun z => h.1 (z ▸ .head _), fun z => h.1 (.tail _ z), h.2.1, h.2.2⟩
noncomputable def KidI.log' (q : KidI) : List (Addr × V) := q.c.toList.map fun x => (q.k.cd, .ref x.cd)
theorem klog' {rt : It} {b : Addr} (hb : b ≠ rt.kd) (qs : List KidI) : look (qs.flatMap (KidI.log rt)) b = look (qs.flatMap KidI.log') b := by
  induction qs with
  | nil => rfl
  | cons q qs ih =>
    rw [List.flatMap_cons, List.flatMap_cons, look_app, look_app, ih]
    congr 1
    show look ([(rt.kd, V.ref q.k.a)] ++ q.log') b = _
    rw [look_app, look_miss _ hb.symm, List.nil_append]
theorem klog_in {q : KidI} : ∀ p ∈ q.log', p.1 ∈ la q.its := fun p hp => by
  unfold KidI.log' at hp
  obtain ⟨x, _, rfl⟩ := List.mem_map.mp hp
  exact (mem_la (.head _)).2
theorem look_rec {r : RecI} (nd : (la r.its).Nodup) : (look r.log r.rt.kd ++ look r.log2 r.rt.kd = r.kids.map (fun q => V.ref q.k.a) ++ r.rn.toList.map (fun x => V.ref x.a)) ∧ (look r.log r.rt.cd ++ look r.log2 r.rt.cd = []) ∧
    (∀ q ∈ r.kids, look r.log q.k.kd ++ look r.log2 q.k.kd = [] ∧ look r.log q.k.cd ++ look r.log2 q.k.cd = q.c.toList.map fun x => V.ref x.cd) ∧
    ∀ x, r.rn = some x → look r.log x.kd ++ look r.log2 x.kd = [] ∧ look r.log x.cd ++ look r.log2 x.cd = [] := by
  unfold RecI.its at nd
  rw [la_cons, la_app] at nd
  obtain ⟨n1, n2, n3, nd⟩ := ndc nd
  obtain ⟨m1, m2, m3⟩ := nd_app nd
  have kl : ∀ q ∈ r.kids, q.k.kd ∈ la (r.kids.flatMap KidI.its) ∧ q.k.cd ∈ la (r.kids.flatMap KidI.its) := fun q hq => mem_la (List.mem_flatMap.mpr ⟨q, hq, .head _⟩)
  have l2 : ∀ {b}, b ≠ r.rt.kd → look r.log2 b = [] := fun hb => look_not fun p hp z => hb (z ▸ rlog2_keys p hp)
  have l1 : ∀ {b}, b ≠ r.rt.kd → (∀ q ∈ r.kids, b ≠ q.k.cd) → look r.log b = [] := fun hb hq => look_not fun p hp z => by
    unfold RecI.log at hp
    obtain ⟨q, hq', hp⟩ := List.mem_flatMap.mp hp
    rcases klog_keys p hp with e | e
    · exact hb (z ▸ e)
    · exact hq q hq' (z ▸ e)
  refine ⟨?_, ?_, fun q hq => ⟨?_, ?_⟩, fun x hx => ⟨?_, ?_⟩⟩
  · congr 1
    · unfold RecI.log
      have : ∀ qs : List KidI, (∀ q ∈ qs, q.k.cd ≠ r.rt.kd) → look (qs.flatMap (KidI.log r.rt)) r.rt.kd = qs.map fun q => V.ref q.k.a := by
        intro qs
        induction qs with
        | nil => intro _; rfl
        | cons q qs ih =>
          intro h
          rw [List.flatMap_cons, look_app, ih fun t ht => h t (.tail _ ht)]
          show look ([(r.rt.kd, V.ref q.k.a)] ++ _) _ ++ _ = _
          rw [look_app, look_hit, look_not (l := q.c.toList.map _)]
          · rfl
          · intro p hp
            obtain ⟨x, _, rfl⟩ := List.mem_map.mp hp
            exact h q (.head _)
      exact this _ fun q hq z => n2 (List.mem_append_left _ (z ▸ (kl q hq).2))
    · unfold RecI.log2
      cases r.rn with
      | none => rfl
      | some x => exact look_hit _ _
  · rw [l2 n1.symm, l1 n1.symm fun q hq z => n3 (List.mem_append_left _ (z ▸ (kl q hq).2))]; rfl
  · have hb : q.k.kd ≠ r.rt.kd := fun z => n2 (List.mem_append_left _ (z ▸ (kl q hq).1))
    rw [l2 hb, List.append_nil]
    unfold RecI.log
    rw [klog' hb, look_part (fun _ _ => klog_in) m1 q hq _ (mem_la (.head _)).1]
    have := its_nodup m1 q hq
    unfold KidI.its at this
    rw [la_cons] at this
    refine look_not fun p hp z => ?_
    unfold KidI.log' at hp
    obtain ⟨x, _, rfl⟩ := List.mem_map.mp hp
    exact (ndc this).1 z.symm
  · have hb : q.k.cd ≠ r.rt.kd := fun z => n2 (List.mem_append_left _ (z ▸ (kl q hq).2))
    rw [l2 hb, List.append_nil]
    unfold RecI.log
    rw [klog' hb, look_part (fun _ _ => klog_in) m1 q hq _ (mem_la (.head _)).2]
    unfold KidI.log'
    cases q.c with
    | none => rfl
    | some x => exact look_hit _ _
  · have hm : x.kd ∈ la r.rn.toList := (mem_la (by rw [hx]; exact .head _)).1
    have hb : x.kd ≠ r.rt.kd := fun z => n2 (List.mem_append_right _ (z ▸ hm))
    rw [l2 hb, l1 hb fun q hq z => m3 _ (z ▸ (kl q hq).2) hm]; rfl
  · have hm : x.cd ∈ la r.rn.toList := (mem_la (by rw [hx]; exact .head _)).2
    have hb : x.cd ≠ r.rt.kd := fun z => n2 (List.mem_append_right _ (z ▸ hm))
    rw [l2 hb, l1 hb fun q hq z => m3 _ (z ▸ (kl q hq).2) hm]; rfl
end
section
structure KidD where
  nm : Str
  uw : Str
  u : Nat
  cn : Option Str
structure RecD where
  nm : Str
  kids : List KidD
  rn : Option (Str × Str × Option Str)
noncomputable def KidD.ents (q : KidD) : List Ent := .e05 q.nm q.uw q.u :: q.cn.toList.map .e88
noncomputable def rnEnt (p : Str × Str × Option Str) : Ent := .e66 p.1 p.2.1 p.2.2
noncomputable def RecD.ents (r : RecD) : List Ent := .e01 r.nm :: (r.kids.flatMap KidD.ents ++ r.rn.toList.map rnEnt)
noncomputable def optV : Option Str → V
  | some x => .str x
  | none => .none
noncomputable def KidD.due (q : KidD) : V := .tup [.int 5, .str q.nm, vNum q.u, .tup (q.cn.toList.map fun n => .tup [.str n, rowsV]), .none, .tup []]
noncomputable def rnDue (p : Str × Str × Option Str) : V := .tup [.int 66, .str p.1, .none, .tup [], .tup [.str p.2.1, optV p.2.2], .tup []]
noncomputable def RecD.due (r : RecD) : V := .tup [.int 1, .str r.nm, .none, .tup [], .none, .tup (r.kids.map KidD.due ++ r.rn.toList.map rnDue)]
noncomputable def All2 {α β : Type} (R : α → β → Prop) : List α → List β → Prop
  | [], [] => True
  | a :: as, b :: bs => R a b ∧ All2 R as bs
  | _, _ => False
theorem All2.length {α β : Type} {R : α → β → Prop} : ∀ {as : List α} {bs : List β}, All2 R as bs → as.length = bs.length
  | [], [], _ => rfl
  | _ :: _, _ :: _, h => by rw [List.length_cons, List.length_cons, h.2.length]
  | [], _ :: _, h => h.elim
  | _ :: _, [], h => h.elim
theorem All2.imp {α β : Type} {R S : α → β → Prop} : ∀ {as : List α} {bs : List β}, All2 R as bs → (∀ a ∈ as, ∀ b, R a b → S a b) → All2 S as bs
  | [], [], _, _ => trivial
  | a :: _, b :: _, h, q => ⟨q a (.head _) b h.1, h.2.imp fun a ha => q a (.tail _ ha)⟩
  | [], _ :: _, h, _ => h.elim
  | _ :: _, [], h, _ => h.elim
theorem All2.app {α β : Type} {R : α → β → Prop} : ∀ {as cs : List α} {bs ds : List β}, All2 R as bs → All2 R cs ds → All2 R (as ++ cs) (bs ++ ds)
  | [], _, [], _, _, h' => h'
  | _ :: _, _, _ :: _, _, h, h' => ⟨h.1, h.2.app h'⟩
  | [], _, _ :: _, _, h, _ => h.elim
  | _ :: _, _, [], _, h, _ => h.elim
noncomputable def NamedAt (σ : Store) (w t : V) : Prop := ∃ na dn nm rows, w = .ref na ∧ σ na = some (.inst 141 dn [("name", .str nm), ("rows", .tup rows)]) ∧ t = .tup [.str nm, .tup rows]
inductive SeenE (S : Addr → V → Prop) (z : Addr) (σ : Store) (a : Addr) (v : V) : Prop
  | mk (d : Addr) (lv : Int) (nm : Str) (val : V) (c k : Addr) (p ren : V) (cs ks ts vs : List V) (h1 : σ a = some (.inst 188 d (itF lv nm val (.ref c) k p ren))) (h2 : σ c = some (.list cs)) (h3 : σ k = some (.list ks)) (h4 : c ≠ z) (h5 : k ≠ z) (h6 : All2 (NamedAt σ) cs ts) (h7 : All2 (fun w v => ∃ b, w = .ref b ∧ S b v) ks vs)
    (h8 : cs.length ≤ 900) (h9 : ks.length ≤ 900) (h10 : ∀ n, val ≠ .bi n) (h11 : ∀ n, ren ≠ .bi n) (h12 : v = .tup [.int lv, .str nm, val, .tup ts, ren, .tup vs])
noncomputable def SeenAt (z : Addr) (σ : Store) : Nat → Addr → V → Prop
  | 0, _, _ => False
  | n + 1, a, v => SeenE (SeenAt z σ n) z σ a v
noncomputable def NoIt : O → Prop
  | .list _ => False
  | .inst C _ _ => C ≠ 188 ∧ C ≠ 141
  | _ => True
theorem NamedAt.ext {σ σ' : Store} {D : List Addr} {z : Addr} {w t : V} (h : NamedAt σ w t) (e : Ext D σ σ') (hD : ∀ d ∈ D, (d = z ∧ ∃ l, σ d = some (.list l)) ∨ ∃ o, σ d = some o ∧ NoIt o) : NamedAt σ' w t := by
  obtain ⟨na, dn, nm, rows, rfl, h, rfl⟩ := h
  refine ⟨na, dn, nm, rows, rfl, e.get h fun m => ?_, rfl⟩
  rcases hD na m with ⟨_, l, q⟩ | ⟨o, q, no⟩
  · rw [q] at h; cases h
  · rw [q] at h; cases h; exact no.2 rfl
theorem SeenAt.ext {σ σ' : Store} {D : List Addr} {z : Addr} (e : Ext D σ σ') (hD : ∀ d ∈ D, (d = z ∧ ∃ l, σ d = some (.list l)) ∨ ∃ o, σ d = some o ∧ NoIt o) : ∀ {n : Nat} {a : Addr} {v : V}, SeenAt z σ n a v → SeenAt z σ' n a v := by
  intro n
  induction n with
  | zero => exact fun h => h.elim
  | succ n ih =>
    intro a v h
    obtain ⟨d, lv, nm, val, c, k, p, ren, cs, ks, ts, vs, h1, h2, h3, h4, h5, h6, h7, h8, h9, h10, h11, h12⟩ := h
    have lst : ∀ {b l}, b ≠ z → σ b = some (.list l) → σ' b = some (.list l) := fun hb hl => e.get hl fun m => by
      rcases hD _ m with ⟨q, _⟩ | ⟨o, q, no⟩
      · exact hb q
      · rw [q] at hl; cases hl; exact no
    refine ⟨d, lv, nm, val, c, k, p, ren, cs, ks, ts, vs, e.get h1 fun m => ?_, lst h4 h2, lst h5 h3, h4, h5, h6.imp fun _ _ _ x => x.ext e hD, h7.imp fun _ _ _ ⟨b, q, x⟩ => ⟨b, q, ih x⟩, h8, h9, h10, h11, h12⟩
    rcases hD _ m with ⟨_, l, q⟩ | ⟨o, q, no⟩
    · rw [q] at h1; cases h1
    · rw [q] at h1; cases h1; exact no.1 rfl
noncomputable def KidI.er (q : KidI) : Ent × Option Ent := (q.k.e, q.c.map (·.e))
noncomputable def RecI.er (r : RecI) : Ent × List (Ent × Option Ent) × Option Ent := (r.rt.e, r.kids.map KidI.er, r.rn.map (·.e))
noncomputable def KidD.er (q : KidD) : Ent × Option Ent := (.e05 q.nm q.uw q.u, q.cn.map .e88)
noncomputable def RecD.er (r : RecD) : Ent × List (Ent × Option Ent) × Option Ent := (.e01 r.nm, r.kids.map KidD.er, r.rn.map rnEnt)
theorem split_opt {L : List It} {o : Option Ent} (h : L.map (·.e) = o.toList) : ∃ x : Option It, L = x.toList ∧ x.map (·.e) = o := by
  cases o with
  | none => exact ⟨none, List.map_eq_nil_iff.mp h, rfl⟩
  | some e =>
    cases L with
    | nil => cases h
    | cons x L => exact ⟨some x, by rw [List.map_eq_nil_iff.mp (List.cons.inj h).2]; rfl, congrArg some (List.cons.inj h).1⟩
theorem split_kid {L : List It} {q : KidD} (h : L.map (·.e) = q.ents) : ∃ t : KidI, L = t.its ∧ t.er = q.er := by
  match L, h with
  | x :: L, h =>
    obtain ⟨h1, h2⟩ := List.cons.inj h
    obtain ⟨c, rfl, hc⟩ := split_opt (o := q.cn.map .e88) (by rw [h2]; cases q.cn <;> rfl)
    exact ⟨⟨x, c⟩, rfl, Prod.ext h1 hc⟩
theorem split_kids : ∀ {qs : List KidD} {L : List It}, L.map (·.e) = qs.flatMap KidD.ents → ∃ ts : List KidI, L = ts.flatMap KidI.its ∧ ts.map KidI.er = qs.map KidD.er
  | [], L, h => ⟨[], by simpa using h, rfl⟩
  | q :: qs, L, h => by
    rw [List.flatMap_cons] at h
    obtain ⟨L1, L2, rfl, h1, h2⟩ := List.map_eq_append_iff.mp h
    obtain ⟨t, rfl, e1⟩ := split_kid h1
    obtain ⟨ts, rfl, e2⟩ := split_kids h2
    exact ⟨t :: ts, rfl, by rw [List.map_cons, List.map_cons, e1, e2]⟩
theorem split_rec {L : List It} {r : RecD} (h : L.map (·.e) = r.ents) : ∃ t : RecI, L = t.its ∧ t.er = r.er := by
  match L, h with
  | x :: L, h =>
    obtain ⟨h1, h2⟩ := List.cons.inj h
    obtain ⟨L1, L2, rfl, h3, h4⟩ := List.map_eq_append_iff.mp h2
    obtain ⟨ts, rfl, e2⟩ := split_kids h3
    obtain ⟨c, rfl, hc⟩ := split_opt (o := r.rn.map rnEnt) (by rw [h4]; cases r.rn <;> rfl)
    exact ⟨⟨x, ts, c⟩, rfl, Prod.ext h1 (Prod.ext e2 hc)⟩
theorem split_recs : ∀ {rs : List RecD} {L : List It}, L.map (·.e) = rs.flatMap RecD.ents → ∃ ts : List RecI, L = ts.flatMap RecI.its ∧ ts.map RecI.er = rs.map RecD.er
  | [], L, h => ⟨[], by simpa using h, rfl⟩
  | q :: qs, L, h => by
    rw [List.flatMap_cons] at h
    obtain ⟨L1, L2, rfl, h1, h2⟩ := List.map_eq_append_iff.mp h
    obtain ⟨t, rfl, e1⟩ := split_rec h1
    obtain ⟨ts, rfl, e2⟩ := split_recs h2
    exact ⟨t :: ts, rfl, by rw [List.map_cons, List.map_cons, e1, e2]⟩
theorem er_all2 {α β γ : Type} {f : α → γ} {g : β → γ} : ∀ {as : List α} {bs : List β}, as.map f = bs.map g → All2 (fun a b => f a = g b) as bs
  | [], [], _ => trivial
  | a :: as, b :: bs, h => by
    rw [List.map_cons, List.map_cons] at h
    obtain ⟨h1, h2⟩ := List.cons.inj h
    exact ⟨h1, er_all2 h2⟩
  | [], _ :: _, h => nomatch h
  | _ :: _, [], h => nomatch h
theorem kid_ok {t : KidI} {q : KidD} (h : t.er = q.er) : t.Ok := by
  unfold KidI.er KidD.er at h
  obtain ⟨h1, h2⟩ := Prod.mk.inj h
  refine ⟨⟨_, _, _, h1⟩, fun x hx => ?_⟩
  rw [hx] at h2
  cases hc : q.cn with
  | none => rw [hc] at h2; cases h2
  | some n => rw [hc] at h2; exact ⟨n, Option.some.inj h2⟩
theorem all2_mem {α β : Type} {R : α → β → Prop} : ∀ {as : List α} {bs : List β}, All2 R as bs → ∀ a ∈ as, ∃ b ∈ bs, R a b
  | a :: as, b :: bs, h, x, hx => by
    rcases List.mem_cons.mp hx with rfl | hx
    · exact ⟨b, .head _, h.1⟩
    · obtain ⟨y, hy, r⟩ := all2_mem h.2 x hx
      exact ⟨y, .tail _ hy, r⟩
  | [], _, _, _, hx => nomatch hx
  | _ :: _, [], h, _, _ => h.elim
theorem rec_ok {t : RecI} {r : RecD} (h : t.er = r.er) : t.Ok := by
  unfold RecI.er RecD.er at h
  obtain ⟨h1, h2⟩ := Prod.mk.inj h
  obtain ⟨h2, h3⟩ := Prod.mk.inj h2
  refine ⟨⟨_, h1⟩, fun q hq => ?_, fun x hx => ?_⟩
  · obtain ⟨d, _, e⟩ := all2_mem (er_all2 h2) q hq
    exact kid_ok e
  · rw [hx] at h3
    cases hc : r.rn with
    | none => rw [hc] at h3; cases h3
    | some n => rw [hc] at h3; exact ⟨_, _, _, Option.some.inj h3⟩
theorem seen_rec {σ : Store} {z : Addr} {rs : List RecI} (v : View σ (rs.flatMap RecI.its) (logOf rs)) (nd : (la (rs.flatMap RecI.its)).Nodup) (hz : z ∉ la (rs.flatMap RecI.its)) (hn : (rs.flatMap RecI.its).length ≤ 400) {t : RecI} {r : RecD} (ht : t ∈ rs) (h : t.er = r.er) : SeenAt z σ 2 t.rt.a r.due := by
  have sub : ∀ x ∈ t.its, x ∈ rs.flatMap RecI.its := fun x hx => List.mem_flatMap.mpr ⟨t, ht, hx⟩
  have lk : ∀ {b}, b ∈ la t.its → look (logOf rs) b = look t.log b ++ look t.log2 b := fun hb => look_log nd ht hb
  obtain ⟨g1, g2, g3, g4⟩ := look_rec (its_nodup nd t ht)
  have nz : ∀ {b}, b ∈ la t.its → b ≠ z := fun hb e => hz (e ▸ la_sub sub _ hb)
  have mrt : t.rt ∈ t.its := .head _
  unfold RecI.er RecD.er at h
  obtain ⟨h1, h2⟩ := Prod.mk.inj h
  obtain ⟨h2, h3⟩ := Prod.mk.inj h2
  have hlen : t.its.length ≤ 400 := Nat.le_trans (by
    clear v nd hz hn lk nz sub
    induction rs with
    | nil => cases ht
    | cons s rs ih =>
      rw [List.flatMap_cons, List.length_append]
      rcases List.mem_cons.mp ht with rfl | ht
      · lia
      · have := ih ht; lia) hn
  have hkl : t.kids.length + t.rn.toList.length ≤ t.its.length := by
    unfold RecI.its
    rw [List.length_cons, List.length_append]
    have : ∀ qs : List KidI, qs.length ≤ (qs.flatMap KidI.its).length := fun qs => by
      induction qs with
      | nil => exact Nat.zero_le _
      | cons q qs ih => have e : q.its.length = q.c.toList.length + 1 := rfl
                        rw [List.flatMap_cons, List.length_append, List.length_cons, e]; lia
    have := this t.kids
    lia
  obtain ⟨⟨d, p, s1⟩, s2, s3⟩ := v t.rt (sub _ mrt)
  have ec : t.rt.cdV = .ref t.rt.cd := by unfold It.cdV; rw [h1]; rfl
  rw [ec, h1] at s1
  rw [h1] at s3
  have s3 : σ t.rt.cd = some (.list (look (logOf rs) t.rt.cd)) := s3
  rw [lk (mem_la mrt).1, g1] at s2
  rw [lk (mem_la mrt).2, g2] at s3
  refine ⟨d, 1, r.nm, .none, t.rt.cd, t.rt.kd, p, .none, [], _, [], r.kids.map KidD.due ++ r.rn.toList.map rnDue, s1, s3, s2, nz (mem_la mrt).2, nz (mem_la mrt).1, trivial, ?_, by simp, by rw [List.length_append, List.length_map, List.length_map]; lia, (by intro _ z; cases z), (by intro _ z; cases z), rfl⟩
  refine All2.app ?_ ?_
  · have key : ∀ (ts : List KidI) (qs : List KidD), (∀ q ∈ ts, q ∈ t.kids) → All2 (fun a b => KidI.er a = KidD.er b) ts qs → All2 (fun w v => ∃ b, w = V.ref b ∧ SeenAt z σ 1 b v) (ts.map fun q => V.ref q.k.a) (qs.map KidD.due) := by
      intro ts
      induction ts with
      | nil => intro qs _ h; cases qs with | nil => trivial | cons _ _ => exact h.elim
      | cons q ts ih =>
        intro qs hm h
        cases qs with
        | nil => exact h.elim
        | cons qd qs =>
          refine ⟨⟨q.k.a, rfl, ?_⟩, ih qs (fun q hq => hm q (.tail _ hq)) h.2⟩
          have hq := hm q (.head _)
          obtain ⟨e1, e2⟩ := Prod.mk.inj h.1
          have mk : q.k ∈ t.its := by unfold RecI.its; exact .tail _ (List.mem_append_left _ (List.mem_flatMap.mpr ⟨q, hq, .head _⟩))
          obtain ⟨⟨dk, pk, k1⟩, k2, k3⟩ := v q.k (sub _ mk)
          have ec : q.k.cdV = .ref q.k.cd := by unfold It.cdV; rw [e1]; rfl
          rw [ec, e1] at k1
          rw [e1] at k3
          have k3 : σ q.k.cd = some (.list (look (logOf rs) q.k.cd)) := k3
          rw [lk (mem_la mk).1, (g3 q hq).1] at k2
          rw [lk (mem_la mk).2, (g3 q hq).2] at k3
          refine ⟨dk, 5, qd.nm, vNum qd.u, q.k.cd, q.k.kd, pk, .none, _, [], (qd.cn.toList.map fun n => .tup [.str n, rowsV]), [], k1, k3, k2, nz (mem_la mk).2, nz (mem_la mk).1, ?_, trivial, ?_, by simp, (by intro _ z; cases z), (by intro _ z; cases z), rfl⟩
          · cases hc : q.c with
            | none =>
              rw [hc] at e2
              cases hd : qd.cn with
              | none => trivial
              | some n => rw [hd] at e2; cases e2
            | some x =>
              rw [hc] at e2
              cases hd : qd.cn with
              | none => rw [hd] at e2; cases e2
              | some n =>
                rw [hd] at e2
                have e2 := Option.some.inj e2
                have mx : x ∈ t.its := by unfold RecI.its; exact .tail _ (List.mem_append_left _ (List.mem_flatMap.mpr ⟨q, hq, by unfold KidI.its; rw [hc]; exact .tail _ (.head _)⟩))
                obtain ⟨_, _, k4⟩ := v x (sub _ mx)
                have e2 : x.e = .e88 n := e2
                rw [e2] at k4
                obtain ⟨dn, k4⟩ := k4
                exact ⟨⟨x.cd, dn, n, _, rfl, k4, rfl⟩, trivial⟩
          · cases q.c <;> simp
    exact key t.kids r.kids (fun _ h => h) (er_all2 h2)
  · cases hc : t.rn with
    | none =>
      rw [hc] at h3
      cases hd : r.rn with
      | none => trivial
      | some n => rw [hd] at h3; cases h3
    | some x =>
      rw [hc] at h3
      cases hd : r.rn with
      | none => rw [hd] at h3; cases h3
      | some n =>
        rw [hd] at h3
        have h3 : x.e = rnEnt n := Option.some.inj h3
        have mx : x ∈ t.its := by unfold RecI.its; rw [hc]; exact .tail _ (List.mem_append_right _ (.head _))
        obtain ⟨⟨dk, pk, k1⟩, k2, k3⟩ := v x (sub _ mx)
        have ec : x.cdV = .ref x.cd := by unfold It.cdV; rw [h3]; rfl
        rw [ec, h3] at k1
        rw [h3] at k3
        have k3 : σ x.cd = some (.list (look (logOf rs) x.cd)) := k3
        rw [lk (mem_la mx).1, (g4 x hc).1] at k2
        rw [lk (mem_la mx).2, (g4 x hc).2] at k3
        refine ⟨⟨x.a, rfl, ?_⟩, trivial⟩
        refine ⟨dk, 66, n.1, .none, x.cd, x.kd, pk, .tup [.str n.2.1, optV n.2.2], [], [], [], [], ?_, k3, k2, nz (mem_la mx).2, nz (mem_la mx).1, trivial, trivial, by simp, by simp, (by intro _ z; cases z), (by intro _ z; cases z), rfl⟩
        obtain ⟨a, b, l⟩ := n
        cases l <;> exact k1
end
section
theorem View.ext {σ σ' : Store} {L : List It} {log : List (Addr × V)} {D : List Addr} (v : View σ L log) (e : Ext D σ σ') (hD : ∀ d ∈ D, d ∉ adds L) : View σ' L log := fun x hx => by
  obtain ⟨⟨d, p, h1⟩, h2, h3⟩ := v x hx
  obtain ⟨m1, m2, m3⟩ := mem_adds hx
  refine ⟨⟨d, p, e.get h1 fun m => hD _ m m1⟩, e.get h2 fun m => hD _ m m2, ?_⟩
  split at h3
  · rename_i q
    rw [if_pos q]
    obtain ⟨dn, h3⟩ := h3
    exact ⟨dn, e.get h3 fun m => hD _ m m3⟩
  · rename_i q
    rw [if_neg q]
    exact e.get h3 fun m => hD _ m m3
theorem View.live {σ : Store} {L : List It} {log : List (Addr × V)} (v : View σ L log) : Live σ L := fun x hx => by
  obtain ⟨⟨_, _, y1⟩, y2, y3⟩ := v x hx
  refine ⟨by rw [y1]; exact (nomatch ·), by rw [y2]; exact (nomatch ·), ?_⟩
  split at y3
  · obtain ⟨_, y3⟩ := y3; rw [y3]; exact (nomatch ·)
  · rw [y3]; exact (nomatch ·)
theorem live_adds {σ : Store} {L : List It} (l : Live σ L) : ∀ a ∈ adds L, σ a ≠ none := fun a ha => by
  unfold adds at ha
  obtain ⟨x, hx, ha⟩ := List.mem_flatMap.mp ha
  simp only [List.mem_cons, List.not_mem_nil, or_false] at ha
  rcases ha with rfl | rfl | rfl
  · exact (l x hx).1
  · exact (l x hx).2.1
  · exact (l x hx).2.2
theorem la_adds {L : List It} : ∀ b ∈ la L, b ∈ adds L := fun b hb => by
  unfold la at hb
  obtain ⟨x, hx, hb⟩ := List.mem_flatMap.mp hb
  simp only [List.mem_cons, List.not_mem_nil, or_false] at hb
  rcases hb with rfl | rfl
  · exact (mem_adds hx).2.1
  · exact (mem_adds hx).2.2
theorem words_num (e : Ent) : ∃ w ws, e.words = (sNum, w) :: ws := by
  cases e with
  | e66 nm f l => cases l <;> exact ⟨_, _, rfl⟩
  | _ => exact ⟨_, _, rfl⟩
section
variable {k : Nat} {c : FC} {P : Post} {Q : V → Store → Prop} {X : Addr → Prop} {σ₀ σ σ' : Store} {r : Addr} {R : RdA} {n : Nat} {rest : List Tk} {loc : Loc}
theorem RD.live3 (hR : RD σ r R n rest) : σ r ≠ none ∧ σ R.l ≠ none ∧ ∀ p ∈ R.tk, σ p.1 ≠ none :=
  ⟨by rw [hR.self]; exact (nomatch ·), by rw [hR.list]; exact (nomatch ·), fun p hp => by obtain ⟨d, hd⟩ := hR.tok p hp; rw [hd]; exact (nomatch ·)⟩
theorem RD.new (hR : RD σ r R n rest) {n₀ : Nat} {rest₀ : List Tk} (hR₀ : RD σ₀ r R n₀ rest₀) {D : List Addr} (hD : ∀ d ∈ D, σ₀ d = none) (e : Ext D σ σ') : RD σ' r R n rest := by
  obtain ⟨a, b, t⟩ := hR₀.live3
  exact hR.ext e (fun m => a (hD _ m)) (fun m => b (hD _ m)) fun p hp m => t p hp (hD _ m)
inductive RstE (σ σ₁ : Store) (r : Addr) (R : RdA) (N : Nat) (en : Addr) (rest' : List Tk) (all : List Ent) (j : Nat) : Prop
  | mk (todo : List Ent) (L : List It) (ts : List Tk) (m : Nat) (h1 : todo.length = j) (h2 : all = L.map (·.e) ++ todo) (h3 : σ₁ en = some (.list (L.map fun x => .ref x.a))) (h4 : View σ₁ L []) (h5 : RD σ₁ r R m (ts ++ rest')) (h6 : ts.map (·.2) = todo.flatMap Ent.words) (h7 : m + ts.length = N) (h8 : (la L).Nodup) (h9 : (∀ a ∈ adds L, σ a = none)) (h10 : en ∉ adds L)
structure Rst (σ σ₁ : Store) (r : Addr) (R : RdA) (N : Nat) (en : Addr) (rest' : List Tk) (all : List Ent) (j : Nat) : Prop where
  ex : RstE σ σ₁ r R N en rest' all j
  ext : Ext [r] σ σ₁
theorem c_read_entries (T : Top g) {ds : List RecD} {ts rest' : List Tk} (hR : RD σ r R n (ts ++ rest')) (hS : Short R) (hw : ts.map (·.2) = (ds.flatMap RecD.ents).flatMap Ent.words) (hok : ∀ e ∈ ds.flatMap RecD.ents, e.Ok) (hend : pKind rest' 0 sNum = false)
    (hn : (ds.flatMap RecD.ents).length ≤ 400) {z : Addr} (hz : σ z ≠ none)
    (h : ∀ rr ras σ', RD σ' r R (n + ts.length) rest' → Ext [r] σ σ' → σ rr = none → σ' rr = some (.list (ras.map .ref)) → All2 (SeenAt z σ' 2) ras (ds.map RecD.due) → Q (.ref rr) σ') : CV prog g (k + 11) (.ref 372) [.ref r] Q X σ := by
  refine CF.cv (call_read_entries_1 T fun c hsc hcl => ?_)
  conv => arg 6; whnf
  repeat k_caught0
  refine e_list T.ok rfl ⟨by decide, fun en fen => ?_⟩
  have sm := (Same.refl σ).upd (o := .list []) fen
  repeat k_caught0
  refine s_whileL [("entries", .ref en), ("reader", .ref r)] (fun j σ₁ => Rst σ σ₁ r R (n + ts.length) en rest' (ds.flatMap RecD.ents) j) (ds.flatMap RecD.ents).length ⟨⟨_, [], ts, n, rfl, rfl, upd_self .., (fun _ hx => nomatch hx), hR.same sm, hw, rfl, .nil, (fun _ hx => nomatch hx), (fun hx => nomatch hx)⟩, Ext.of_same sm⟩ (by simp) ?_
  rintro j σ₁ ⟨⟨todo, L, t1, m, rfl, ha, hl, v, hR1, hw1, hm, nd, fr, nen⟩, e1⟩
  obtain ⟨lr, ll, lt⟩ := hR.live3
  have rL : r ∉ adds L := fun q => lr (fr r q)
  repeat k_caught0
  refine c_is_level_here T hR1 ?_
  repeat k_caught0
  cases todo with
  | nil =>
    obtain rfl := says_nil hw1
    refine iteF hend fun l hs => ?_
    refine TSs.sub ?_ hs
    repeat k_caught0
    obtain ⟨rs, rfl, her⟩ := split_recs (by rw [List.append_nil] at ha; exact ha.symm)
    have h2 := er_all2 her
    have ln : (rs.flatMap RecI.its).length ≤ 400 := by
      rw [ha, List.append_nil, List.length_map] at hn
      exact hn
    refine c_nested T nen hl (fun t ht => by obtain ⟨d, _, e⟩ := all2_mem h2 t ht; exact rec_ok e) v (pw_of nd) ln fun rr σ' frr hrr v' e' => ?_
    have frr' : σ rr = none := e1.fresh frr hR1.live
    have hm : m = n + ts.length := by simpa using hm
    rw [hm] at hR1
    refine h rr (rs.map fun t => t.rt.a) σ' (hR1.new hR fr e') (e1.upds e' fun d hd => .inl (fr d hd)) frr' (by rw [List.map_map]; exact hrr) ?_
    have key : ∀ (as : List RecI) (bs : List RecD), (∀ t ∈ as, t ∈ rs) → All2 (fun a b => RecI.er a = RecD.er b) as bs → All2 (SeenAt z σ' 2) (as.map fun t => t.rt.a) (bs.map RecD.due) := by
      intro as
      induction as with
      | nil => intro bs _ h; cases bs with | nil => trivial | cons _ _ => exact h.elim
      | cons a as ih =>
        intro bs hm h
        cases bs with
        | nil => exact h.elim
        | cons b bs => exact ⟨seen_rec v' nd (fun q => hz (fr _ (la_adds _ q))) ln (hm a (.head _)) h.1, ih bs (fun t ht => hm t (.tail _ ht)) h.2⟩
    exact key rs ds (fun _ h => h) h2
  | cons e todo =>
    rw [List.flatMap_cons] at hw1
    obtain ⟨te, t2, rfl, hw1, hw2⟩ := List.map_eq_append_iff.mp hw1
    obtain ⟨w0, ws0, hw0⟩ := words_num e
    obtain ⟨p0, te', hte, hp0, _⟩ := says_cons (hw1.trans hw0)
    refine iteT (by rw [hte, List.cons_append, List.cons_append]; exact pKind_cons hp0.1 (beq_self_eq_true _)) ?_
    rw [List.append_assoc] at hR1
    repeat k_caught0
    refine c_read_entry T hR1 hS hw1 (hok e (by rw [ha]; simp)) fun x σ2 hx hR2 e2 ix fa fk fc nkc => ?_
    have e12 := e1.trans e2
    have lens : σ₁ en ≠ none := by rw [hl]; exact (nomatch ·)
    have hl2 := e2.get hl (a := en) (by simpa using ne_new hR.self fen)
    have f0 : ∀ a ∈ [x.a, x.kd, x.cd], σ a = none ∧ σ₁ a = none := fun a ha => by
      simp only [List.mem_cons, List.not_mem_nil, or_false] at ha
      rcases ha with rfl | rfl | rfl
      · exact ⟨e1.fresh fa hR1.live, fa⟩
      · exact ⟨e1.fresh fk hR1.live, fk⟩
      · exact ⟨e1.fresh fc hR1.live, fc⟩
    have lL := live_adds v.live
    have nx : en ∉ [x.a, x.kd, x.cd] := fun q => lens (f0 en q).2
    have adx : adds (L ++ [x]) = adds L ++ [x.a, x.kd, x.cd] := by unfold adds; rw [List.flatMap_append]; rfl
    have v2 : View σ2 (L ++ [x]) [] := fun y hy => by
      rcases List.mem_append.mp hy with hy | hy
      · exact v.ext e2 (by simpa using rL) y hy
      · rw [List.mem_singleton.mp hy]; exact ix
    have ee : Ext [en] σ2 (upd σ2 en (.list (L.map (fun x => V.ref x.a) ++ [.ref x.a]))) := (Ext.refl _ σ2).upd_in (by simp)
    have llen : (L.map fun x => V.ref x.a).length ≤ 1000000 := by
      have := congrArg List.length ha
      rw [List.length_append, List.length_map] at this
      rw [List.length_map]
      lia
    have nen' : en ∉ adds (L ++ [x]) := by
      rw [adx]
      exact fun q => (List.mem_append.mp q).elim nen nx
    repeat k_caught0
    refine ⟨todo.length, by simp, by simp, ⟨⟨todo, L ++ [x], t2, m + te.length, rfl, by rw [ha, List.map_append, hx.symm]; simp [hx], by rw [upd_self, List.map_append]; rfl, v2.ext ee (by simpa using nen'), hR2.new hR (by simpa using fen) ee, hw2, by rw [← hm, List.length_append]; lia, ?_, ?_, nen'⟩, e12.upds ee (by simpa using .inl fen)⟩⟩
    · rw [la_app]
      show (la L ++ [x.kd, x.cd]).Nodup
      rw [List.nodup_append]
      refine ⟨nd, by simp [nkc], fun a ha b hb z => ?_⟩
      have := lL a (la_adds a ha)
      rw [z] at this
      exact this (f0 b (.tail _ hb)).2
    · rw [adx]
      intro a ha
      rcases List.mem_append.mp ha with ha | ha
      · exact fr a ha
      · exact (f0 a ha).1
end
end
section
noncomputable abbrev daF (w l f s ix : Addr) : List (String × V) := [("working", .ref w), ("linkage", .ref l), ("files", .ref f), ("sorts", .ref s), ("size", .int 0), ("indexes", .ref ix)]
structure DataAt (σ : Store) (a d w l f s ix : Addr) (ws ls : List V) (kvs : List (Str × V)) (ss : List V) : Prop where
  self : σ a = some (.inst 214 d (daF w l f s ix))
  work : σ w = some (.list ws)
  link : σ l = some (.list ls)
  file : ∃ nf, σ f = some (.dict kvs nf)
  sort : σ s = some (.list ss)
  nsw : s ≠ w
  nsl : s ≠ l
section
variable {k : Nat} {c : FC} {P : Post} {Q : V → Store → Prop} {X : Addr → Prop} {σ₀ σ σ' : Store} {r : Addr} {R : RdA} {n : Nat} {rest : List Tk} {loc : Loc}
theorem c_Data (T : Top g) (h : ∀ a d w l f s ix σ', DataAt σ' a d w l f s ix [] [] [] [] → σ a = none → σ w = none → σ l = none → σ f = none → σ s = none → Same σ σ' → Q (.ref a) σ') : CV prog g (k + 2) (.ref 214) [] Q X σ := by
  refine CF.cv (mk_Data T fun a d ha hd nad => ?_)
  have x0 : Same σ (upd (upd σ d (.shadow a)) a (.inst 214 d [])) := ((Same.refl σ).upd hd).upd ha
  have q0 : (upd (upd σ d (.shadow a)) a (.inst 214 d [])) a = some (.inst 214 d []) := upd_self ..
  refine call_Data_init_1 T fun c hsc hcl => ?_
  conv => arg 6; whnf
  refine ss_cons ?_
  refine s_setattr T.ok (e_list T.ok rfl ⟨by decide, fun w hw => ?_⟩) (by intro _; rfl)
  repeat k_caught0
  have fw := x0.fresh hw
  have nwa : w ≠ a := ne_new q0 hw
  refine fld_new ((upd_ne nwa.symm).trans q0) rfl (sa_of T (by kernel_rfl)) (by simp) fun σ1 q1 e1 => ?_
  have x1 := (x0.upd fw).fld ha e1
  have w1 := e1.get (upd_self _ w (.list [])) (by simpa using nwa)
  refine ss_cons ?_
  refine s_setattr T.ok (e_list T.ok rfl ⟨by decide, fun l hl => ?_⟩) (by intro _; rfl)
  repeat k_caught0
  have fl := x1.fresh hl
  have nla : l ≠ a := ne_new q1 hl
  have nlw : l ≠ w := ne_new w1 hl
  refine fld_new ((upd_ne nla.symm).trans q1) rfl (sa_of T (by kernel_rfl)) (by simp) fun σ2 q2 e2 => ?_
  have x2 := (x1.upd fl).fld ha e2
  have w2 := e2.get ((upd_ne nlw.symm).trans w1) (by simpa using nwa)
  have l2 := e2.get (upd_self _ l (.list [])) (by simpa using nla)
  refine ss_cons ?_
  refine s_setattr T.ok (e_dict0 T.ok fun f nf hf => ?_) (by intro _; rfl)
  repeat k_caught0
  have ff := x2.fresh hf
  have nfa : f ≠ a := ne_new q2 hf
  have nfw : f ≠ w := ne_new w2 hf
  have nfl : f ≠ l := ne_new l2 hf
  refine fld_new ((upd_ne nfa.symm).trans q2) rfl (sa_of T (by kernel_rfl)) (by simp) fun σ3 q3 e3 => ?_
  have x3 := (x2.upd ff).fld ha e3
  have w3 := e3.get ((upd_ne nfw.symm).trans w2) (by simpa using nwa)
  have l3 := e3.get ((upd_ne nfl.symm).trans l2) (by simpa using nla)
  have f3 := e3.get (upd_self _ f (.dict [] nf)) (by simpa using nfa)
  refine ss_cons ?_
  refine s_setattr T.ok (e_list T.ok rfl ⟨by decide, fun s hs => ?_⟩) (by intro _; rfl)
  repeat k_caught0
  have fs := x3.fresh hs
  have nsa : s ≠ a := ne_new q3 hs
  have nsw : s ≠ w := ne_new w3 hs
  have nsl : s ≠ l := ne_new l3 hs
  have nsf : s ≠ f := ne_new f3 hs
  refine fld_new ((upd_ne nsa.symm).trans q3) rfl (sa_of T (by kernel_rfl)) (by simp) fun σ4 q4 e4 => ?_
  have x4 := (x3.upd fs).fld ha e4
  have w4 := e4.get ((upd_ne nsw.symm).trans w3) (by simpa using nwa)
  have l4 := e4.get ((upd_ne nsl.symm).trans l3) (by simpa using nla)
  have f4 := e4.get ((upd_ne nsf.symm).trans f3) (by simpa using nfa)
  have s4 := e4.get (upd_self _ s (.list [])) (by simpa using nsa)
  k_caughtB
  refine fld_new q4 rfl (sa_of T (by kernel_rfl)) (by simp) fun σ5 q5 e5 => ?_
  have x5 := x4.fld ha e5
  have w5 := e5.get w4 (by simpa using nwa)
  have l5 := e5.get l4 (by simpa using nla)
  have f5 := e5.get f4 (by simpa using nfa)
  have s5 := e5.get s4 (by simpa using nsa)
  repeat k_caught0
  refine s_setattr T.ok (e_dict0 T.ok fun ix ni hi => ?_) (by intro _; rfl)
  repeat k_caught0
  have fi := x5.fresh hi
  have nia : ix ≠ a := ne_new q5 hi
  refine fld_new ((upd_ne nia.symm).trans q5) rfl (sa_of T (by kernel_rfl)) (by simp) fun σ6 q6 e6 => ?_
  have x6 := (x5.upd fi).fld ha e6
  repeat k_caught0
  exact ⟨rfl, h a d w l f s ix σ6 ⟨q6, e6.get ((upd_ne (ne_new w5 hi).symm).trans w5) (by simpa using nwa), e6.get ((upd_ne (ne_new l5 hi).symm).trans l5) (by simpa using nla), ⟨nf, e6.get ((upd_ne (ne_new f5 hi).symm).trans f5) (by simpa using nfa)⟩, e6.get ((upd_ne (ne_new s5 hi).symm).trans s5) (by simpa using nsa), nsw, nsl⟩ ha fw fl ff fs x6⟩
noncomputable abbrev spc : Str := Str.ofString " "
theorem sp_dd : Txt.split (Str.ofString "DATA DIVISION") spc = [Str.ofString "DATA", Str.ofString "DIVISION"] := by decide +kernel
theorem sp_fs : Txt.split (Str.ofString "FILE SECTION") spc = [Str.ofString "FILE", Str.ofString "SECTION"] := by decide +kernel
theorem sp_ws : Txt.split (Str.ofString "WORKING-STORAGE SECTION") spc = [Str.ofString "WORKING-STORAGE", Str.ofString "SECTION"] := by decide +kernel
theorem sp_ls : Txt.split (Str.ofString "LINKAGE SECTION") spc = [Str.ofString "LINKAGE", Str.ofString "SECTION"] := by decide +kernel
theorem sp_pd : Txt.split (Str.ofString "PROCEDURE DIVISION") spc = [Str.ofString "PROCEDURE", Str.ofString "DIVISION"] := by decide +kernel
theorem sp_FD : Txt.split (Str.ofString "FD") spc = [Str.ofString "FD"] := by decide +kernel
theorem sp_SD : Txt.split (Str.ofString "SD") spc = [Str.ofString "SD"] := by decide +kernel
theorem pWords2 {p1 p2 : Tk} {rest' : List Tk} {w1 w2 : Str} (h1 : Is p1 sWord w1) (h2 : Is p2 sWord w2) : pWords (p1 :: p2 :: rest') [w1, w2] = true := by
  rw [pWords, pWords, pWords, pWd_is h1 (b := true) (by simp), List.drop_one, List.tail_cons, pWd_is h2 (b := true) (by simp)]; rfl
theorem pWords_no {w1 : Str} {ws : List Str} (h1 : pWd rest 0 sWord w1 = false) : pWords rest (w1 :: ws) = false := by rw [pWords, h1]; rfl
theorem c_head_no (T : Top g) {ws w1 : Str} {l : List Str} (hR : RD σ r R n rest) (hl : ws.length ≤ 1000000) (sp : Txt.split ws spc = w1 :: l) (hl' : l.length ≤ 900) (h1 : pWd rest 0 sWord w1 = false) (h : Q (.bool false) σ) : CV prog g (k + 6) (.ref 386) [.ref r, .str ws] Q X σ := by
  refine CF.cv (call_skip_heading_2 T fun c hsc hcl => ?_)
  conv => arg 6; whnf
  repeat k_caught0
  refine c_skip T hR hl (by rw [sp, List.length_cons]; lia) (fun z => by rw [sp, pWords_no h1] at z; cases z) fun _ => ?_
  repeat k_caught0
  exact h
theorem c_head_yes (T : Top g) {ws w1 w2 : Str} {p1 p2 pd : Tk} {rest' : List Tk} (hR : RD σ r R n (p1 :: p2 :: pd :: rest')) (hl : ws.length ≤ 1000000) (sp : Txt.split ws spc = [w1, w2]) (h1 : Is p1 sWord w1) (h2 : Is p2 sWord w2) (hd : Is pd sSign (Str.ofString "."))
    (h : ∀ σ', RD σ' r R (n + 3) rest' → Ext [r] σ σ' → Q (.bool true) σ') : CV prog g (k + 6) (.ref 386) [.ref r, .str ws] Q X σ := by
  refine CF.cv (call_skip_heading_2 T fun c hsc hcl => ?_)
  conv => arg 6; whnf
  repeat k_caught0
  refine c_skip T hR hl (by rw [sp]; simp) (fun _ σ1 hR1 e1 => ?_) fun z => by rw [sp, pWords2 h1 h2] at z; cases z
  rw [sp] at hR1
  have hR1 : RD σ1 r R (n + 2) (pd :: rest') := hR1
  repeat k_caught0
  refine c_need_dot T hR1 (by decide +kernel) hd fun σ2 hR2 e2 => ?_
  repeat k_caught0
  exact h σ2 hR2 (e1.trans e2)
theorem c_head_bad (T : Top g) {ws w1 w2 : Str} {p1 p2 : Tk} (hR : RD σ r R n [p1, p2]) (hl : ws.length ≤ 1000000) (sp : Txt.split ws spc = [w1, w2]) (h1 : Is p1 sWord w1) (h2 : Is p2 sWord w2) (h : X 84) : CV prog g (k + 6) (.ref 386) [.ref r, .str ws] Q X σ := by
  refine CF.cv (call_skip_heading_2 T fun c hsc hcl => ?_)
  conv => arg 6; whnf
  repeat k_caught0
  refine c_skip T hR hl (by rw [sp]; simp) (fun _ σ1 hR1 e1 => ?_) fun z => by rw [sp, pWords2 h1 h2] at z; cases z
  rw [sp] at hR1
  have hR1 : RD σ1 r R (n + 2) [] := hR1
  repeat k_caught0
  exact c_need_sign T hR1 (by decide +kernel) (fun z => by cases z) fun _ => h
end
end
section
section
variable {k : Nat} {c : FC} {P : Post} {Q : V → Store → Prop} {X : Addr → Prop} {σ₀ σ σ' : Store} {r : Addr} {R : RdA} {n : Nat} {rest : List Tk} {loc : Loc}
theorem dget_new {kvs : List (Str × V)} {x : Str} (h : ∀ p ∈ kvs, p.1 ≠ x) : dget kvs x = none := by
  unfold dget
  rw [Option.map_eq_none_iff, List.find?_eq_none]
  intro p hp
  simpa using h p hp
theorem dset_new {kvs : List (Str × V)} {x : Str} {v : V} (h : ∀ p ∈ kvs, p.1 ≠ x) : dset kvs x v = kvs ++ [(x, v)] := by
  unfold dset
  rw [if_neg]
  simp only [List.any_eq_true, decide_eq_true_eq, not_exists, not_and]
  exact h
theorem DataAt.ext {a d w l f s ix : Addr} {ws ls : List V} {kvs : List (Str × V)} {ss : List V} (D : DataAt σ a d w l f s ix ws ls kvs ss) {E : List Addr} (e : Ext E σ σ') (h : ∀ x ∈ E, x ≠ a ∧ x ≠ w ∧ x ≠ l ∧ x ≠ f ∧ x ≠ s) : DataAt σ' a d w l f s ix ws ls kvs ss := by
  obtain ⟨h1, h2, h3, ⟨nf, h4⟩, h5, h6, h7⟩ := D
  exact ⟨e.get h1 fun m => (h _ m).1 rfl, e.get h2 fun m => (h _ m).2.1 rfl, e.get h3 fun m => (h _ m).2.2.1 rfl, ⟨nf, e.get h4 fun m => (h _ m).2.2.2.1 rfl⟩, e.get h5 fun m => (h _ m).2.2.2.2 rfl, h6, h7⟩
theorem DataAt.rd {a d w l f s ix : Addr} {ws ls : List V} {kvs : List (Str × V)} {ss : List V} (D : DataAt σ a d w l f s ix ws ls kvs ss) (hR : RD σ r R n rest) : ∀ x ∈ [r], x ≠ a ∧ x ≠ w ∧ x ≠ l ∧ x ≠ f ∧ x ≠ s := by
  obtain ⟨h1, h2, h3, ⟨nf, h4⟩, h5, h6, h7⟩ := D
  have h := hR.self
  intro x hx
  rw [List.mem_singleton.mp hx]
  refine ⟨fun z => ?_, fun z => ?_, fun z => ?_, fun z => ?_, fun z => ?_⟩
  · rw [z, h1] at h; cases h
  · rw [z, h2] at h; cases h
  · rw [z, h3] at h; cases h
  · rw [z, h4] at h; cases h
  · rw [z, h5] at h; cases h
inductive RemSE (σ σ₁ : Store) (r : Addr) (R : RdA) (N : Nat) (tl : List Tk) (j : Nat) : Prop
  | mk (rem : List Tk) (m : Nat) (h1 : rem.length = j) (h2 : (∀ p ∈ rem, (p.2.1 == sSign) = false)) (h3 : RD σ₁ r R m (rem ++ tl)) (h4 : m + rem.length = N)
structure RemS (σ σ₁ : Store) (r : Addr) (R : RdA) (N : Nat) (tl : List Tk) (j : Nat) : Prop where
  ex : RemSE σ σ₁ r R N tl j
  ext : Ext [r] σ σ₁
theorem c_file (T : Top g) {da d w l f s ix : Addr} {ws ls : List V} {kvs : List (Str × V)} {ss : List V} {pn pd : Tk} {rem ts rest' : List Tk} {ds : List RecD} {srt : Bool} (hR : RD σ r R n (pn :: (rem ++ pd :: (ts ++ rest')))) (hS : Short R) (hn1 : pn.2.1 = sWord) (hn2 : isRes pn.2.2 = false)
    (hrem : ∀ p ∈ rem, (p.2.1 == sSign) = false) (hd : Is pd sSign (Str.ofString ".")) (hw : ts.map (·.2) = (ds.flatMap RecD.ents).flatMap Ent.words) (hok : ∀ e ∈ ds.flatMap RecD.ents, e.Ok) (hend : pKind rest' 0 sNum = false) (hlen : (ds.flatMap RecD.ents).length ≤ 400)
    (D : DataAt σ da d w l f s ix ws ls kvs ss) (hds : ds ≠ []) (hnew : ∀ p ∈ kvs, p.1 ≠ pn.2.2) (hkl : kvs.length ≤ 900) (hsl : ss.length ≤ 900) (nsR : s ≠ R.l)
    (h : ∀ rr ras σ', RD σ' r R (n + (rem.length + ts.length + 2)) rest' → Ext [r, f, s] σ σ' → DataAt σ' da d w l f s ix ws ls (kvs ++ [(pn.2.2, .ref rr)]) (ss ++ if srt then [.str pn.2.2] else []) → σ rr = none → σ' rr = some (.list (ras.map .ref)) → All2 (SeenAt s σ' 2) ras (ds.map RecD.due) → Q .none σ') :
    CV prog g (k + 12) (.ref 379) [.ref r, .ref da, .bool srt] Q X σ := by
  refine CF.cv (call_read_file_entry_3 T fun c hsc hcl => ?_)
  conv => arg 6; whnf
  repeat k_caught0
  intro pl pld σ0 hpl hpld sm0
  have hR0 := hR.same sm0
  repeat k_caught0
  refine c_name T hR0 hS (by rw [pName_word hn1 hn2]; rfl) fun σ1 hR1 e1 => ?_
  have e01 := (Ext.of_same (D := [r]) sm0).trans e1
  repeat k_caught0
  refine s_whileL [("name", .str pn.2.2), ("place", .ref pl), ("reader", .ref r), ("data", .ref da), ("is_sort", .bool srt)] (fun j σ₁ => RemS σ σ₁ r R (n + 1 + rem.length) (pd :: (ts ++ rest')) j) rem.length ⟨⟨rem, _, rfl, hrem, hR1, rfl⟩, e01⟩ (by simp) ?_
  rintro j σ2 ⟨⟨rem2, m, rfl, hrem2, hR2, hm⟩, e2⟩
  cases rem2 with
  | cons p rem2 =>
    repeat k_caught0
    refine c_skip_sign T hR2 (fun z => by rw [List.cons_append, pWd_kind rfl (hrem2 p (.head _))] at z; cases z) fun _ => ?_
    repeat k_caught0
    refine iteF rfl ?_
    repeat k_caught0
    refine c_take T hR2 fun σ3 hR3 e3 => ?_
    repeat k_caught0
    exact ⟨rem2.length, by simp, by simp, ⟨rem2, m + 1, rfl, fun q hq => hrem2 q (.tail _ hq), hR3, by rw [← hm, List.length_cons]; lia⟩, e2.trans e3⟩
  | nil =>
    repeat k_caught0
    refine c_skip_sign T hR2 (fun _ σ3 hR3 e3 => ?_) fun z => by rw [List.nil_append, pWd_is hd (b := true) (by simp)] at z; cases z
    have hm : m = n + 1 + rem.length := by simpa using hm
    have e23 := e2.trans e3
    have D3 := D.ext e23 (D.rd hR)
    have hR3 : RD σ3 r R (m + 1) (ts ++ rest') := hR3
    repeat k_caught0
    intro lo hs
    refine TSs.sub ?_ hs
    repeat k_caught0
    refine c_read_entries T hR3 hS hw hok hend hlen (z := s) (by rw [D3.sort]; exact (nomatch ·)) fun rr ras σ4 hR4 e4 frr hrr hras => ?_
    have D4 := D3.ext e4 (D3.rd hR3)
    have lras : ras.length = ds.length := by rw [hras.length, List.length_map]
    have nras : 1 ≤ ras.length := by rw [lras]; cases ds with | nil => exact absurd rfl hds | cons _ _ => simp
    obtain ⟨nf, hf4⟩ := D4.file
    have hda4 := D4.self
    repeat k_caught0
    refine o_ind T.ok T.hb (.inr ⟨nf, hf4⟩) ?_
    repeat k_caught0
    refine iteF (by rw [dget_new hnew]; rfl) ?_
    repeat k_caught0
    refine e_lst rfl ?_
    repeat k_caught0
    refine o_eql (.inr ⟨_, rfl, hrr⟩) (.inl rfl) (.inr (by simp; intro z; rw [z] at nras; simp at nras)) ?_
    repeat k_caught0
    refine iteF (by simp; intro z; rw [z] at nras; simp at nras) ?_
    repeat k_caught0
    refine s_setitemD T.ok T.hb ?_ (by intro _; rfl)
    repeat k_caught0
    refine ⟨f, kvs, nf, _, rfl, rfl, hf4, by lia, fun nf' => ?_⟩
    rw [dset_new hnew]
    have e5 : Ext [f] σ4 (upd σ4 f (.dict (kvs ++ [(pn.2.2, .ref rr)]) nf')) := (Ext.refl _ σ4).upd_in (by simp)
    have nfa : f ≠ da := fun z => by rw [z, D4.self] at hf4; cases hf4
    have nfw : f ≠ w := fun z => by rw [z, D4.work] at hf4; cases hf4
    have nfl : f ≠ l := fun z => by rw [z, D4.link] at hf4; cases hf4
    have nfs : f ≠ s := fun z => by rw [z, D4.sort] at hf4; cases hf4
    have nfr : f ≠ rr := fun z => by rw [z, hrr] at hf4; cases hf4
    have hR5 := hR4.set hf4 trivial e5
    have D5 : DataAt (upd σ4 f (.dict (kvs ++ [(pn.2.2, .ref rr)]) nf')) da d w l f s ix ws ls (kvs ++ [(pn.2.2, .ref rr)]) ss :=
      ⟨(upd_ne nfa.symm).trans D4.self, (upd_ne nfw.symm).trans D4.work, (upd_ne nfl.symm).trans D4.link, ⟨nf', upd_self ..⟩, (upd_ne nfs.symm).trans D4.sort, D4.nsw, D4.nsl⟩
    have hrr5 := e5.get hrr (by simpa using nfr.symm)
    have hras5 : All2 (SeenAt s (upd σ4 f (.dict (kvs ++ [(pn.2.2, .ref rr)]) nf')) 2) ras (ds.map RecD.due) := hras.imp fun _ _ _ x => x.ext e5 fun b hb => .inr ⟨.dict kvs nf, List.mem_singleton.mp hb ▸ hf4, trivial⟩
    have frr' : σ rr = none := e23.fresh frr hR3.live
    have ee : Ext [r, f, s] σ (upd σ4 f (.dict (kvs ++ [(pn.2.2, .ref rr)]) nf')) := ((e23.trans e4).mono (by simp)).trans (e5.mono (by simp))
    have hda5 := D5.self
    have hmm : m + 1 + ts.length = n + (rem.length + ts.length + 2) := by lia
    rw [hmm] at hR5
    repeat k_caught0
    cases srt with
    | false =>
      repeat k_caught0
      exact h rr ras _ hR5 ee (by simpa using D5) frr' hrr5 hras5
    | true =>
      refine iteT rfl ?_
      have hs5 := D5.sort
      repeat k_caught0
      have nrs : rr ≠ s := ne_new D3.sort frr
      have e6 : Ext [s] (upd σ4 f (.dict (kvs ++ [(pn.2.2, .ref rr)]) nf')) (upd (upd σ4 f (.dict (kvs ++ [(pn.2.2, .ref rr)]) nf')) s (.list (ss ++ [.str pn.2.2]))) := (Ext.refl _ _).upd_in (by simp)
      have nsa : da ≠ s := fun z => by rw [← z, D5.self] at hs5; cases hs5
      refine h rr ras _ (hR5.ext e6 ?_ (by simpa using nsR.symm) ?_) (ee.trans (e6.mono (by simp))) ⟨e6.get D5.self (by simpa using nsa), e6.get D5.work (by simpa using D5.nsw.symm), e6.get D5.link (by simpa using D5.nsl.symm), ⟨nf', (upd_ne nfs).trans (upd_self ..)⟩, upd_self .., D5.nsw, D5.nsl⟩ frr' (e6.get hrr5 (by simpa using nrs)) (hras5.imp fun _ _ _ x => x.ext e6 fun b hb => .inl ⟨List.mem_singleton.mp hb, ss, List.mem_singleton.mp hb ▸ hs5⟩)
      · simp
        intro z
        have := hR5.self
        rw [z, hs5] at this; cases this
      · intro p hp
        simp
        intro z
        obtain ⟨d, hd⟩ := hR5.tok p hp
        rw [z, hs5] at hd; cases hd
end
end
section
structure FileD where
  nm : Str
  srt : Bool
  rem : List (Str × Str)
  rcd : RecD
noncomputable def recW (ds : List RecD) : List (Str × Str) := (ds.flatMap RecD.ents).flatMap Ent.words
noncomputable def headW (w1 w2 : Str) : List (Str × Str) := [(sWord, w1), (sWord, w2), (sSign, Str.ofString ".")]
noncomputable def FileD.words (f : FileD) : List (Str × Str) := (sWord, if f.srt then Str.ofString "SD" else Str.ofString "FD") :: (sWord, f.nm) :: (f.rem ++ (sSign, Str.ofString ".") :: recW [f.rcd])
structure FileD.Ok (f : FileD) : Prop where
  nm : isRes f.nm = false
  rem : ∀ p ∈ f.rem, (p.1 == sSign) = false
  ents : ∀ e ∈ f.rcd.ents, e.Ok
  len : f.rcd.ents.length ≤ 400
noncomputable def FileAt (s : Addr) (σ : Store) (p : Str × V) (f : FileD) : Prop := p.1 = f.nm ∧ ∃ rr ras, p.2 = .ref rr ∧ rr ≠ s ∧ σ rr = some (.list (ras.map .ref)) ∧ All2 (SeenAt s σ 2) ras [f.rcd.due]
noncomputable def sortsOf (fs : List FileD) : List V := fs.flatMap fun f => if f.srt then [.str f.nm] else []
theorem FileAt.ext {σ σ' : Store} {D : List Addr} {z : Addr} {p : Str × V} {f : FileD} (h : FileAt z σ p f) (e : Ext D σ σ') (hD : ∀ d ∈ D, (d = z ∧ ∃ l, σ d = some (.list l)) ∨ ∃ o, σ d = some o ∧ NoIt o) : FileAt z σ' p f := by
  obtain ⟨h1, rr, ras, h2, h3, h4, h5⟩ := h
  refine ⟨h1, rr, ras, h2, h3, e.get h4 fun m => ?_, h5.imp fun _ _ _ x => x.ext e hD⟩
  rcases hD _ m with ⟨q, _⟩ | ⟨o, q, no⟩
  · exact h3 q
  · rw [q] at h4; cases h4; exact no
theorem pWd_says {ts : List Tk} {ws : List (Str × Str)} (h : ts.map (·.2) = ws) (kd w : Str) : pWd ts 0 kd w = match ws with | [] => false | p :: _ => p.1 == kd && p.2 == w := by
  subst h
  cases ts <;> rfl
theorem pKind_says {ts : List Tk} {ws : List (Str × Str)} (h : ts.map (·.2) = ws) (kd : Str) : pKind ts 0 kd = match ws with | [] => false | p :: _ => p.1 == kd := by
  subst h
  cases ts <;> rfl
noncomputable def Stop (ws : List (Str × Str)) : Prop := match ws with | [] => True | p :: _ => p.1 = sWord
theorem Stop.num {ts : List Tk} {ws : List (Str × Str)} (h : ts.map (·.2) = ws) (s : Stop ws) : pKind ts 0 sNum = false := by
  rw [pKind_says h]
  cases ws with
  | nil => rfl
  | cons p ws => have s : p.1 = sWord := s; show (p.1 == sNum) = false; rw [s]; exact k_wn
noncomputable def Stop2 (ws : List (Str × Str)) : Prop := match ws with | [] => True | p :: _ => p.1 = sWord ∧ (p.2 == Str.ofString "FD") = false ∧ (p.2 == Str.ofString "SD") = false
theorem Stop2.stop {ws : List (Str × Str)} (h : Stop2 ws) : Stop ws := by
  cases ws with
  | nil => trivial
  | cons p ws => exact h.1
theorem stop_files {fs : List FileD} {ws : List (Str × Str)} (h : Stop2 ws) : Stop (fs.flatMap FileD.words ++ ws) := by
  cases fs with
  | nil => exact h.stop
  | cons f fs => exact (rfl : sWord = sWord)
section
variable {k : Nat} {c : FC} {P : Post} {Q : V → Store → Prop} {X : Addr → Prop} {σ₀ σ σ' : Store} {r : Addr} {R : RdA} {n : Nat} {rest : List Tk} {loc : Loc}
inductive FilSE (σ σ₁ : Store) (r : Addr) (R : RdA) (da d w l f s ix : Addr) (fs : List FileD) (wt : List (Str × Str)) (j : Nat) : Prop
  | mk (done todo : List FileD) (ts : List Tk) (m : Nat) (kvs : List (Str × V)) (h1 : fs = done ++ todo) (h2 : todo.length = j) (h3 : RD σ₁ r R m ts) (h4 : ts.map (·.2) = todo.flatMap FileD.words ++ wt) (h5 : DataAt σ₁ da d w l f s ix [] [] kvs (sortsOf done)) (h6 : All2 (FileAt s σ₁) kvs done)
structure FilS (σ σ₁ : Store) (r : Addr) (R : RdA) (da d w l f s ix : Addr) (fs : List FileD) (wt : List (Str × Str)) (j : Nat) : Prop where
  ex : FilSE σ σ₁ r R da d w l f s ix fs wt j
  ext : Ext [r] σ σ₁
theorem sorts_len (fs : List FileD) : (sortsOf fs).length ≤ fs.length := by
  induction fs with
  | nil => exact Nat.le_refl _
  | cons f fs ih =>
    unfold sortsOf at ih ⊢
    rw [List.flatMap_cons, List.length_append, List.length_cons]
    have : (if f.srt then [V.str f.nm] else []).length ≤ 1 := by split <;> simp
    lia
theorem kvs_names {s : Addr} : ∀ {kvs : List (Str × V)} {fs : List FileD}, All2 (FileAt s σ) kvs fs → kvs.map (·.1) = fs.map (·.nm)
  | [], [], _ => rfl
  | _ :: _, _ :: _, h => by rw [List.map_cons, List.map_cons, h.1.1, kvs_names h.2]
  | [], _ :: _, h => h.elim
  | _ :: _, [], h => h.elim
noncomputable def dwhile : Stmt := match b_read_data with | _ :: _ :: .If _ [s] _ _ :: _ => s | _ => .Pass ⟨0, 0, 0, 0⟩
noncomputable def dtest : Expr := match dwhile with | .While t _ _ _ => t | _ => .Name (Str.ofString "x") ⟨0, 0, 0, 0⟩
theorem tb_fd (T : Top g) (hsc : c.sc = s_read_data) {da : Addr} {ts : List Tk} {m : Nat} {QB : Bool → Store → Prop} (hR : RD σ r R m ts) (h : QB (pWd ts 0 sWord (Str.ofString "FD") || pWd ts 0 sWord (Str.ofString "SD")) σ) : TB prog g (k + 13) c [("data", .ref da), ("reader", .ref r)] dtest QB X σ := by
  refine TB.mono (QB := fun b s => b = (pWd ts 0 sWord (Str.ofString "FD") || pWd ts 0 sWord (Str.ofString "SD")) ∧ s = σ) ?_ fun b s ⟨e1, e2⟩ => by rw [e1, e2]; exact h
  conv => arg 6; whnf
  have e1 : pWords ts (Txt.split (Str.ofString "FD") (Str.ofString " ")) = pWd ts 0 sWord (Str.ofString "FD") := by rw [sp_FD, pWords, pWords, Bool.and_true]
  have e2 : pWords ts (Txt.split (Str.ofString "SD") (Str.ofString " ")) = pWd ts 0 sWord (Str.ofString "SD") := by rw [sp_SD, pWords, pWords, Bool.and_true]
  repeat k_caught0
  cases q : pWd ts 0 sWord (Str.ofString "FD") with
  | true =>
    exact iteT (e1.trans q) ⟨rfl, rfl⟩
  | false =>
    refine iteF (e1.trans q) ?_
    repeat k_caught0
    exact ⟨e2, rfl⟩
theorem ts_files (T : Top g) (hsc : c.sc = s_read_data) {da d w l f s ix : Addr} {fs : List FileD} {wt : List (Str × Str)} (hS : Short R) (hf : ∀ x ∈ fs, x.Ok) (hnd : (fs.map (·.nm)).Nodup) (hfl : fs.length ≤ 900) (hwt : Stop2 wt) (nsR : s ≠ R.l) (ff : σ f = none) (fsa : σ s = none)
    (S : FilS σ σ' r R da d w l f s ix fs wt fs.length) (h : ∀ lo σ₂, (∀ p ∈ ([("data", .ref da), ("reader", .ref r)] : Loc), p ∈ lo) → FilS σ σ₂ r R da d w l f s ix fs wt 0 → P.nx lo σ₂) : TS prog g (k + 13) c [("data", .ref da), ("reader", .ref r)] dwhile P X σ' := by
  conv => arg 5; whnf
  refine s_whileL [("data", .ref da), ("reader", .ref r)] (fun j σ₁ => FilS σ σ₁ r R da d w l f s ix fs wt j) fs.length S (by simp) ?_
  rintro j σ1 ⟨⟨done, todo, ts, m, kvs, he, rfl, hR1, hw1, D1, hk⟩, e1⟩
  refine tb_fd T hsc hR1 ?_
  cases todo with
  | nil =>
    have hw2 : ts.map (·.2) = wt := by simpa using hw1
    have z1 : pWd ts 0 sWord (Str.ofString "FD") = false := by
      rw [pWd_says hw2]
      cases wt with
      | nil => rfl
      | cons p wt => show (p.1 == sWord && p.2 == Str.ofString "FD") = false; rw [hwt.2.1, Bool.and_false]
    have z2 : pWd ts 0 sWord (Str.ofString "SD") = false := by
      rw [pWd_says hw2]
      cases wt with
      | nil => rfl
      | cons p wt => show (p.1 == sWord && p.2 == Str.ofString "SD") = false; rw [hwt.2.2, Bool.and_false]
    refine iteF (by rw [z1, z2]; rfl) fun lo hs => h lo σ1 hs ⟨⟨done, [], ts, m, kvs, he, rfl, hR1, hw1, D1, hk⟩, e1⟩
  | cons fd todo =>
    obtain ⟨fo1, fo2, fo3, fo4⟩ := hf fd (by rw [he]; simp)
    rw [List.flatMap_cons, List.append_assoc, show fd.words = (sWord, if fd.srt then Str.ofString "SD" else Str.ofString "FD") :: (sWord, fd.nm) :: (fd.rem ++ (sSign, Str.ofString ".") :: recW [fd.rcd]) from rfl, List.cons_append, List.cons_append, List.append_assoc, List.cons_append] at hw1
    obtain ⟨p0, ts, rfl, h0, hw1⟩ := says_cons hw1
    obtain ⟨pn, ts, rfl, h1, hw1⟩ := says_cons hw1
    obtain ⟨rem, ts, rfl, hr, hw1⟩ := List.map_eq_append_iff.mp hw1
    obtain ⟨pd, ts, rfl, hd, hw1⟩ := says_cons hw1
    obtain ⟨tr, rest', rfl, h3, hw1⟩ := List.map_eq_append_iff.mp hw1
    have hsd : (p0.2.2 == Str.ofString "SD") = fd.srt := by
      rw [h0.2]
      cases fd.srt <;> decide +kernel
    have hfd : (pWd (p0 :: pn :: (rem ++ pd :: (tr ++ rest'))) 0 sWord (Str.ofString "FD") || pWd (p0 :: pn :: (rem ++ pd :: (tr ++ rest'))) 0 sWord (Str.ofString "SD")) = true := by
      rw [pWd_word h0.1 rfl, pWd_word h0.1 hsd, h0.2]
      cases fd.srt <;> decide +kernel
    refine iteT hfd ?_
    repeat k_caught0
    refine c_take T hR1 fun σ2 hR2 e2 => ?_
    have e12 := e1.trans e2
    obtain ⟨dt, hdt⟩ := hR2.tok p0 (hR1.mem (j := 0) rfl)
    have D2 := D1.ext e2 (D1.rd hR1)
    repeat k_caught0
    have knm := kvs_names hk
    have hlen : done.length ≤ 900 := by rw [he, List.length_append] at hfl; lia
    refine c_file T (ds := [fd.rcd]) hR2 hS h1.1 (by rw [h1.2]; exact fo1) (fun p hp => by
        have : p.2 ∈ fd.rem := by rw [← hr]; exact List.mem_map.mpr ⟨p, hp, rfl⟩
        exact fo2 _ this) hd h3 (by simpa using fo3) (Stop.num hw1 (stop_files hwt)) (by simpa using fo4) D2 (by simp) (fun p hp => ?_) (by have := hk.length; lia) (Nat.le_trans (sorts_len _) hlen) nsR fun rr ras σ3 hR3 e3 D3 frr hrr hras => ?_
    · rw [h1.2]
      intro z
      rw [he, List.map_append, List.nodup_append] at hnd
      refine hnd.2.2 p.1 ?_ fd.nm (by simp) z
      rw [← knm]
      exact List.mem_map.mpr ⟨p, hp, rfl⟩
    · repeat k_caught0
      have nrs : rr ≠ s := ne_new D2.sort frr
      obtain ⟨nf2, hf2⟩ := D2.file
      have hD3 : ∀ b ∈ [r, f, s], (b = s ∧ ∃ l, σ2 b = some (.list l)) ∨ ∃ o, σ2 b = some o ∧ NoIt o := fun b hb => by
        simp only [List.mem_cons, List.not_mem_nil, or_false] at hb
        rcases hb with rfl | rfl | rfl
        · exact .inr ⟨_, hR2.self, by decide, by decide⟩
        · exact .inr ⟨_, hf2, trivial⟩
        · exact .inl ⟨rfl, _, D2.sort⟩
      have hD2 : ∀ b ∈ [r], (b = s ∧ ∃ l, σ1 b = some (.list l)) ∨ ∃ o, σ1 b = some o ∧ NoIt o := fun b hb => by
        rw [List.mem_singleton.mp hb]
        exact .inr ⟨_, hR1.self, by decide, by decide⟩
      refine ⟨todo.length, by simp, by simp, ⟨⟨done ++ [fd], todo, rest', _, _, by rw [he]; simp, rfl, hR3, hw1, ?_, (hk.imp fun _ _ _ x => (x.ext e2 hD2).ext e3 hD3).app (cs := [(pn.2.2, .ref rr)]) ⟨⟨h1.2, rr, ras, rfl, nrs, hrr, hras⟩, trivial⟩⟩, e12.upds e3 fun b hb => ?_⟩⟩
      · have : sortsOf (done ++ [fd]) = sortsOf done ++ if fd.srt then [.str fd.nm] else [] := by
          unfold sortsOf
          rw [List.flatMap_append]
          simp
        rw [this]
        rw [hsd, h1.2] at D3
        rw [h1.2]
        exact D3
      · simp only [List.mem_cons, List.not_mem_nil, or_false] at hb
        rcases hb with rfl | rfl | rfl
        · exact .inr (.head _)
        · exact .inl ff
        · exact .inl fsa
end
end
section
structure DataD where
  files : Option (List FileD)
  work : Option (List RecD)
  link : Option (List RecD)
  proc : Bool
noncomputable def secF : Option (List FileD) → List (Str × Str)
  | none => []
  | some fs => headW (Str.ofString "FILE") (Str.ofString "SECTION") ++ fs.flatMap FileD.words
noncomputable def secR (w : Str) : Option (List RecD) → List (Str × Str)
  | none => []
  | some ds => headW w (Str.ofString "SECTION") ++ recW ds
noncomputable def procW (b : Bool) : List (Str × Str) := if b then headW (Str.ofString "PROCEDURE") (Str.ofString "DIVISION") else []
noncomputable abbrev sWS : Str := Str.ofString "WORKING-STORAGE"
noncomputable abbrev sLS : Str := Str.ofString "LINKAGE"
noncomputable def DataD.words (D : DataD) : List (Str × Str) := headW (Str.ofString "DATA") (Str.ofString "DIVISION") ++ (secF D.files ++ (secR sWS D.work ++ (secR sLS D.link ++ procW D.proc)))
structure RecsOk (ds : List RecD) : Prop where
  ents : ∀ e ∈ ds.flatMap RecD.ents, e.Ok
  len : (ds.flatMap RecD.ents).length ≤ 400
inductive StX (σ σ₁ : Store) (r : Addr) (R : RdA) (da : Addr) (fs : List FileD) (wds lds : List RecD) (wt : List (Str × Str)) : Prop
  | mk (d w l f s ix : Addr) (was las : List Addr) (kvs : List (Str × V)) (ts : List Tk) (m : Nat) (h1 : RD σ₁ r R m ts) (h2 : ts.map (·.2) = wt) (h3 : DataAt σ₁ da d w l f s ix (was.map .ref) (las.map .ref) kvs (sortsOf fs)) (h4 : All2 (FileAt s σ₁) kvs fs) (h5 : All2 (SeenAt s σ₁ 2) was (wds.map RecD.due)) (h6 : All2 (SeenAt s σ₁ 2) las (lds.map RecD.due)) (h7 : σ f = none) (h8 : σ s = none)
structure St (σ σ₁ : Store) (r : Addr) (R : RdA) (da : Addr) (fs : List FileD) (wds lds : List RecD) (wt : List (Str × Str)) : Prop where
  ex : StX σ σ₁ r R da fs wds lds wt
  ext : Ext [r] σ σ₁
  fda : σ da = none
theorem stop2_proc (b : Bool) : Stop2 (procW b) := by cases b; trivial; exact ⟨rfl, by decide +kernel, by decide +kernel⟩
theorem stop2_sec {w : Str} (o : Option (List RecD)) {ws : List (Str × Str)} (hw1 : (w == Str.ofString "FD") = false) (hw2 : (w == Str.ofString "SD") = false) (h : Stop2 ws) : Stop2 (secR w o ++ ws) := by
  cases o with
  | none => exact h
  | some ds => exact ⟨rfl, hw1, hw2⟩
section
variable {k : Nat} {c : FC} {P : Post} {Q : V → Store → Prop} {X : Addr → Prop} {σ₀ σ σ' : Store} {r : Addr} {R : RdA} {n : Nat} {rest : List Tk} {loc : Loc}
theorem noR (hR : RD σ r R n rest) {z : Addr} : ∀ b ∈ [r], (b = z ∧ ∃ l, σ b = some (.list l)) ∨ ∃ o, σ b = some o ∧ NoIt o := fun b hb => by
  rw [List.mem_singleton.mp hb]
  exact .inr ⟨_, hR.self, by decide, by decide⟩
noncomputable def l2 (da r : Addr) : Loc := [("data", .ref da), ("reader", .ref r)]
noncomputable def dst (j : Nat) : Stmt := b_read_data.getD j (.Pass ⟨0, 0, 0, 0⟩)
theorem st_work (T : Top g) (hsc : c.sc = s_read_data) {da : Addr} {fs : List FileD} {o : Option (List RecD)} {wt : List (Str × Str)} (hR₀ : RD σ r R n rest) (hS : Short R) (ho : ∀ ds, o = some ds → RecsOk ds) (hst : Stop wt) (hno : o = none → ∀ p ws, wt = p :: ws → (p.2 == sWS) = false)
    (S : St σ σ' r R da fs [] [] (secR sWS o ++ wt)) (h : ∀ lo σ₂, (∀ p ∈ l2 da r, p ∈ lo) → St σ σ₂ r R da fs (o.getD []) [] wt → P.nx lo σ₂) : TS prog g (k + 13) c (l2 da r) (dst 3) P X σ' := by
  obtain ⟨⟨d, w, l, f, s, ix, was, las, kvs, ts, m, hR1, hw1, D1, hk, hwa, hla, ff, fsa⟩, e1, fda⟩ := S
  unfold l2
  conv => arg 6; whnf
  cases o with
  | none =>
    have z1 : pWd ts 0 sWord sWS = false := by
      rw [pWd_says hw1]
      cases wt with
      | nil => rfl
      | cons p wt => show (p.1 == sWord && p.2 == sWS) = false; rw [hno rfl p wt rfl, Bool.and_false]
    repeat k_caught0
    refine c_head_no T hR1 (by decide +kernel) sp_ws (by decide) z1 ?_
    repeat k_caught0
    exact h _ _ (fun _ h => h) ⟨⟨d, w, l, f, s, ix, was, las, kvs, ts, m, hR1, hw1, D1, hk, hwa, hla, ff, fsa⟩, e1, fda⟩
  | some ds =>
    obtain ⟨oe, ol⟩ := ho ds rfl
    obtain ⟨p1, ts, rfl, i1, hw1⟩ := says_cons hw1
    obtain ⟨p2, ts, rfl, i2, hw1⟩ := says_cons hw1
    obtain ⟨p3, ts, rfl, i3, hw1⟩ := says_cons hw1
    obtain ⟨tr, rest', rfl, h3, hw1⟩ := List.map_eq_append_iff.mp hw1
    repeat k_caught0
    refine c_head_yes T hR1 (by decide +kernel) sp_ws i1 i2 i3 fun σ2 hR2 e2 => ?_
    have D2 := D1.ext e2 (D1.rd hR1)
    repeat k_caught0
    refine s_setattr T.ok ?_ (by intro _; rfl)
    repeat k_caught0
    refine c_read_entries T hR2 hS h3 oe (Stop.num hw1 hst) ol (z := s) (by rw [D2.sort]; exact (nomatch ·)) fun rr ras σ3 hR3 e3 frr hrr hras => ?_
    have D3 := D2.ext e3 (D2.rd hR2)
    repeat k_caught0
    refine fld_set D3.self (fs₂ := daF rr l f s ix) (by kernel_rfl) (sa_of T (by kernel_rfl)) (by simp) fun σ4 q4 e4 => ?_
    repeat k_caught0
    have nlst : ∀ {b x}, σ3 b = some x → (∀ d fs, x ≠ .inst 214 d fs) → b ∉ [da] := fun hb hx m => by
      rw [List.mem_singleton.mp m, D3.self] at hb
      cases hb
      exact hx _ _ rfl
    have hDa : ∀ b ∈ [da], (b = s ∧ ∃ l, σ3 b = some (.list l)) ∨ ∃ o, σ3 b = some o ∧ NoIt o := fun b hb => by
      rw [List.mem_singleton.mp hb]
      exact .inr ⟨_, D3.self, by decide, by decide⟩
    obtain ⟨nf, hf3⟩ := D3.file
    refine h _ σ4 (fun _ h => h) ⟨⟨d, rr, l, f, s, ix, ras, las, kvs, rest', _, hR3.set D3.self no214 e4, hw1, ⟨q4, e4.get hrr (nlst hrr (by intro _ _ z; cases z)), e4.get D3.link (nlst D3.link (by intro _ _ z; cases z)), ⟨nf, e4.get hf3 (nlst hf3 (by intro _ _ z; cases z))⟩, e4.get D3.sort (nlst D3.sort (by intro _ _ z; cases z)), (ne_new D2.sort frr).symm, D3.nsl⟩, ?_, ?_, ?_, ff, fsa⟩, ?_, fda⟩
    · exact hk.imp fun _ _ _ x => ((x.ext e2 (noR hR1)).ext e3 (noR hR2)).ext e4 hDa
    · exact hras.imp fun _ _ _ x => x.ext e4 hDa
    · exact hla.imp fun _ _ _ x => ((x.ext e2 (noR hR1)).ext e3 (noR hR2)).ext e4 hDa
    · exact ((e1.trans e2).trans e3).upds e4 fun b hb => .inl (by rw [List.mem_singleton.mp hb]; exact fda)
theorem st_link (T : Top g) (hsc : c.sc = s_read_data) {da : Addr} {fs : List FileD} {wds : List RecD} {o : Option (List RecD)} {wt : List (Str × Str)} (hR₀ : RD σ r R n rest) (hS : Short R) (ho : ∀ ds, o = some ds → RecsOk ds) (hst : Stop wt) (hno : o = none → ∀ p ws, wt = p :: ws → (p.2 == sLS) = false)
    (S : St σ σ' r R da fs wds [] (secR sLS o ++ wt)) (h : ∀ lo σ₂, (∀ p ∈ l2 da r, p ∈ lo) → St σ σ₂ r R da fs wds (o.getD []) wt → P.nx lo σ₂) : TS prog g (k + 13) c (l2 da r) (dst 4) P X σ' := by
  obtain ⟨⟨d, w, l, f, s, ix, was, las, kvs, ts, m, hR1, hw1, D1, hk, hwa, hla, ff, fsa⟩, e1, fda⟩ := S
  unfold l2
  conv => arg 6; whnf
  cases o with
  | none =>
    have z1 : pWd ts 0 sWord sLS = false := by
      rw [pWd_says hw1]
      cases wt with
      | nil => rfl
      | cons p wt => show (p.1 == sWord && p.2 == sLS) = false; rw [hno rfl p wt rfl, Bool.and_false]
    repeat k_caught0
    refine c_head_no T hR1 (by decide +kernel) sp_ls (by decide) z1 ?_
    repeat k_caught0
    exact h _ _ (fun _ h => h) ⟨⟨d, w, l, f, s, ix, was, las, kvs, ts, m, hR1, hw1, D1, hk, hwa, hla, ff, fsa⟩, e1, fda⟩
  | some ds =>
    obtain ⟨oe, ol⟩ := ho ds rfl
    obtain ⟨p1, ts, rfl, i1, hw1⟩ := says_cons hw1
    obtain ⟨p2, ts, rfl, i2, hw1⟩ := says_cons hw1
    obtain ⟨p3, ts, rfl, i3, hw1⟩ := says_cons hw1
    obtain ⟨tr, rest', rfl, h3, hw1⟩ := List.map_eq_append_iff.mp hw1
    repeat k_caught0
    refine c_head_yes T hR1 (by decide +kernel) sp_ls i1 i2 i3 fun σ2 hR2 e2 => ?_
    have D2 := D1.ext e2 (D1.rd hR1)
    repeat k_caught0
    refine s_setattr T.ok ?_ (by intro _; rfl)
    repeat k_caught0
    refine c_read_entries T hR2 hS h3 oe (Stop.num hw1 hst) ol (z := s) (by rw [D2.sort]; exact (nomatch ·)) fun rr ras σ3 hR3 e3 frr hrr hras => ?_
    have D3 := D2.ext e3 (D2.rd hR2)
    repeat k_caught0
    refine fld_set D3.self (fs₂ := daF w rr f s ix) (by kernel_rfl) (sa_of T (by kernel_rfl)) (by simp) fun σ4 q4 e4 => ?_
    repeat k_caught0
    have nlst : ∀ {b x}, σ3 b = some x → (∀ d fs, x ≠ .inst 214 d fs) → b ∉ [da] := fun hb hx m => by
      rw [List.mem_singleton.mp m, D3.self] at hb
      cases hb
      exact hx _ _ rfl
    have hDa : ∀ b ∈ [da], (b = s ∧ ∃ l, σ3 b = some (.list l)) ∨ ∃ o, σ3 b = some o ∧ NoIt o := fun b hb => by
      rw [List.mem_singleton.mp hb]
      exact .inr ⟨_, D3.self, by decide, by decide⟩
    obtain ⟨nf, hf3⟩ := D3.file
    refine h _ σ4 (fun _ h => h) ⟨⟨d, w, rr, f, s, ix, was, ras, kvs, rest', _, hR3.set D3.self no214 e4, hw1, ⟨q4, e4.get D3.work (nlst D3.work (by intro _ _ z; cases z)), e4.get hrr (nlst hrr (by intro _ _ z; cases z)), ⟨nf, e4.get hf3 (nlst hf3 (by intro _ _ z; cases z))⟩, e4.get D3.sort (nlst D3.sort (by intro _ _ z; cases z)), D3.nsw, (ne_new D2.sort frr).symm⟩, ?_, ?_, ?_, ff, fsa⟩, ?_, fda⟩
    · exact hk.imp fun _ _ _ x => ((x.ext e2 (noR hR1)).ext e3 (noR hR2)).ext e4 hDa
    · exact hwa.imp fun _ _ _ x => ((x.ext e2 (noR hR1)).ext e3 (noR hR2)).ext e4 hDa
    · exact hras.imp fun _ _ _ x => x.ext e4 hDa
    · exact ((e1.trans e2).trans e3).upds e4 fun b hb => .inl (by rw [List.mem_singleton.mp hb]; exact fda)
end
end
section
structure DataD.Ok (D : DataD) : Prop where
  files : ∀ fs, D.files = some fs → (∀ x ∈ fs, x.Ok) ∧ (fs.map (·.nm)).Nodup ∧ fs.length ≤ 900
  work : ∀ ds, D.work = some ds → RecsOk ds
  link : ∀ ds, D.link = some ds → RecsOk ds
theorem first_ne {w : Str} {o : Option (List RecD)} {ws : List (Str × Str)} {x : Str} (h : (w == x) = false) (h' : ∀ p l, ws = p :: l → (p.2 == x) = false) : ∀ p l, secR w o ++ ws = p :: l → (p.2 == x) = false := fun p l e => by
  cases o with
  | none => exact h' p l e
  | some ds =>
    have e : (sWord, w) :: _ = p :: l := e
    rw [← (List.cons.inj e).1]
    exact h
theorem first_proc {b : Bool} {x : Str} (h : (Str.ofString "PROCEDURE" == x) = false) : ∀ p l, procW b = p :: l → (p.2 == x) = false := fun p l e => by
  cases b with
  | false => cases e
  | true =>
    have e : (sWord, Str.ofString "PROCEDURE") :: _ = p :: l := e
    rw [← (List.cons.inj e).1]
    exact h
section
variable {k : Nat} {c : FC} {P : Post} {Q : V → Store → Prop} {X : Addr → Prop} {σ₀ σ σ' : Store} {r : Addr} {R : RdA} {n : Nat} {rest : List Tk} {loc : Loc}
theorem st_file (T : Top g) (hsc : c.sc = s_read_data) {da : Addr} {o : Option (List FileD)} {wt : List (Str × Str)} (hR₀ : RD σ r R n rest) (hS : Short R) (ho : ∀ fs, o = some fs → (∀ x ∈ fs, x.Ok) ∧ (fs.map (·.nm)).Nodup ∧ fs.length ≤ 900) (hst : Stop2 wt) (hno : o = none → ∀ p ws, wt = p :: ws → (p.2 == Str.ofString "FILE") = false)
    (S : St σ σ' r R da [] [] [] (secF o ++ wt)) (h : ∀ lo σ₂, (∀ p ∈ l2 da r, p ∈ lo) → St σ σ₂ r R da (o.getD []) [] [] wt → P.nx lo σ₂) : TS prog g (k + 13) c (l2 da r) (dst 2) P X σ' := by
  obtain ⟨⟨d, w, l, f, s, ix, was, las, kvs, ts, m, hR1, hw1, D1, hk, hwa, hla, ff, fsa⟩, e1, fda⟩ := S
  unfold l2
  conv => arg 6; whnf
  cases o with
  | none =>
    have z1 : pWd ts 0 sWord (Str.ofString "FILE") = false := by
      rw [pWd_says hw1]
      cases wt with
      | nil => rfl
      | cons p wt => show (p.1 == sWord && p.2 == Str.ofString "FILE") = false; rw [hno rfl p wt rfl, Bool.and_false]
    repeat k_caught0
    refine c_head_no T hR1 (by decide +kernel) sp_fs (by decide) z1 ?_
    repeat k_caught0
    exact h _ _ (fun _ h => h) ⟨⟨d, w, l, f, s, ix, was, las, kvs, ts, m, hR1, hw1, D1, hk, hwa, hla, ff, fsa⟩, e1, fda⟩
  | some fs =>
    obtain ⟨o1, o2, o3⟩ := ho fs rfl
    obtain ⟨p1, ts, rfl, i1, hw1⟩ := says_cons hw1
    obtain ⟨p2, ts, rfl, i2, hw1⟩ := says_cons hw1
    obtain ⟨p3, ts, rfl, i3, hw1⟩ := says_cons hw1
    repeat k_caught0
    refine c_head_yes T hR1 (by decide +kernel) sp_fs i1 i2 i3 fun σ2 hR2 e2 => ?_
    have D2 := D1.ext e2 (D1.rd hR1)
    have hwas : was = [] := by have := hwa.length; simpa using this
    have hlas : las = [] := by have := hla.length; simpa using this
    have hkv : kvs = [] := by have := hk.length; simpa using this
    subst hwas hlas hkv
    repeat k_caught0
    refine ts_files T hsc hS o1 o2 o3 hst (fun z => by have := hR₀.list; rw [← z, fsa] at this; cases this) ff fsa ⟨⟨[], fs, ts, _, [], rfl, rfl, hR2, hw1, D2, trivial⟩, e1.trans e2⟩ fun lo σ3 hs S3 => ?_
    obtain ⟨⟨done, todo, ts3, m3, kvs3, he, hj, hR3, hw3, D3, hk3⟩, e3⟩ := S3
    have ht : todo = [] := List.eq_nil_of_length_eq_zero hj
    subst ht
    rw [List.append_nil] at he
    subst he
    have hw3 : ts3.map (·.2) = wt := by simpa using hw3
    repeat k_caught0
    exact h lo σ3 hs ⟨⟨d, w, l, f, s, ix, [], [], kvs3, ts3, m3, hR3, hw3, D3, hk3, trivial, trivial, ff, fsa⟩, e3, fda⟩
theorem c_read_data (T : Top g) {D : DataD} (hR : RD σ r R n rest) (hS : Short R) (hw : rest.map (·.2) = D.words) (ok : D.Ok) (h : ∀ da σ', St σ σ' r R da (D.files.getD []) (D.work.getD []) (D.link.getD []) (procW D.proc) → Q (.ref da) σ') : CV prog g (k + 14) (.ref 393) [.ref r] Q X σ := by
  refine CF.cv (call_read_data_1 T fun c hsc hcl => ?_)
  obtain ⟨fi, wo, li, pr⟩ := D
  obtain ⟨p1, ts, rfl, i1, hw⟩ := says_cons hw
  obtain ⟨p2, ts, rfl, i2, hw⟩ := says_cons hw
  obtain ⟨p3, ts, rfl, i3, hw⟩ := says_cons hw
  have s3 : Stop2 (procW pr) := stop2_proc pr
  have s2 : Stop2 (secR sLS li ++ procW pr) := stop2_sec li (by decide +kernel) (by decide +kernel) s3
  have s1 : Stop2 (secR sWS wo ++ (secR sLS li ++ procW pr)) := stop2_sec wo (by decide +kernel) (by decide +kernel) s2
  conv => arg 6; whnf
  refine ss_cons ?_
  refine s_assign (lk_of hsc rfl) ?_ (by intro _; rfl)
  repeat k_caught0
  refine c_Data T fun da d w l f s ix σ1 D1 fda fw fl ff fsa x1 => ?_
  have hR1 := hR.same x1
  repeat k_caught0
  refine c_head_yes T hR1 (by decide +kernel) sp_dd i1 i2 i3 fun σ2 hR2 e2 => ?_
  have S2 : St σ σ2 r R da [] [] [] (secF fi ++ (secR sWS wo ++ (secR sLS li ++ procW pr))) := ⟨⟨d, w, l, f, s, ix, [], [], [], ts, _, hR2, hw, D1.ext e2 (D1.rd hR1), trivial, trivial, trivial, ff, fsa⟩, (Ext.of_same x1).trans e2, fda⟩
  refine u_bool (iteF rfl (ss_nil ?_))
  refine ss_cons (st_file T hsc hR hS ok.files s1 (fun _ => first_ne (by decide +kernel) (first_ne (by decide +kernel) (first_proc (by decide +kernel)))) S2 fun lo σ3 hs S3 => ?_)
  refine TSs.sub ?_ hs
  refine ss_cons (st_work T hsc hR hS ok.work s2.stop (fun _ => first_ne (by decide +kernel) (first_proc (by decide +kernel))) S3 fun lo σ4 hs S4 => ?_)
  refine TSs.sub ?_ hs
  refine ss_cons (st_link T hsc hR hS ok.link s3.stop (fun _ => first_proc (by decide +kernel)) S4 fun lo σ5 hs S5 => ?_)
  refine TSs.sub ?_ hs
  have q := h da σ5 S5
  obtain ⟨⟨d, w, l, f, s, ix, was, las, kvs, ts5, m, hR5, hw5, D5, _⟩, _, _⟩ := S5
  unfold l2
  repeat k_caught0
  cases pr with
  | false =>
    obtain rfl := says_nil hw5
    repeat k_caught0
    exact q
  | true =>
    obtain ⟨p1, ts, rfl, i1, hw5⟩ := says_cons hw5
    obtain ⟨p2, ts, rfl, i2, hw5⟩ := says_cons hw5
    refine iteT rfl ?_
    repeat k_caught0
    refine iteF (by rw [sp_pd, pWords2 i1 i2]; rfl) ?_
    repeat k_caught0
    exact q
end
end
section
theorem bits_small {x : Int} (h : x.natAbs < 2 ^ 64) : Builtin.Int.intBits x ≤ 64 := by
  unfold Builtin.Int.intBits
  split
  · exact Nat.zero_le _
  · rename_i hx
    have := (Nat.log2_lt (n := x.natAbs) (k := 64) (by simpa using hx)).mpr h
    lia
theorem small_div {x y : Int} (h : y.natAbs < 2 ^ 64) : Builtin.divisionGoesByPylong x y = false := by
  have key : y.natAbs.log2 / 30 + 1 ≤ 300 := by
    by_cases hy : y.natAbs = 0
    · rw [hy]; decide
    · have := (Nat.log2_lt (n := y.natAbs) (k := 64) hy).mpr h
      lia
  unfold Builtin.divisionGoesByPylong
  rw [Bool.and_eq_false_iff]
  refine .inl ?_
  dsimp only
  split
  · rfl
  · exact decide_eq_false (by lia)
noncomputable def Tape (σ : Store) (t : Addr) (n : Nat) : Prop := ∃ ns : List Int, ns ≠ [] ∧ ns.length ≤ 1000 ∧ n ≤ 100000 ∧ σ t = some (.list [.lst (ns.map V.int), .int n])
section
variable {k : Nat} {c : FC} {P : Post} {Q : V → Store → Prop} {X : Addr → Prop} {σ σ' : Store} {loc : Loc} {t : Addr} {n m : Nat}
theorem Tape.ext (h : Tape σ t n) {D : List Addr} (e : Ext D σ σ') (ht : t ∉ D) : Tape σ' t n := by
  obtain ⟨ns, h1, h2, h3, h4⟩ := h
  exact ⟨ns, h1, h2, h3, e.get h4 ht⟩
theorem c_draw (T : Top g) (hT : Tape σ t n) (hn : n < 10000) (hm : 0 < m) (h : ∀ (i : Nat) σ', i < m → Tape σ' t (n + 1) → Ext [t] σ σ' → Q (.int i) σ') : CV prog g (k + 1) (.ref 672) [.ref t, .int m] Q X σ := by
  obtain ⟨ns, h1, h2, h3, h4⟩ := hT
  refine CF.cv (call__law_draw_2 T fun c hsc hcl => ?_)
  conv => arg 6; whnf
  repeat k_caught0
  refine ⟨_, .inr (.inr ⟨t, rfl, h4⟩), rfl, ?_⟩
  repeat k_caught0
  refine s_setitem ?_ (by intro _; rfl)
  repeat k_caught0
  refine ⟨t, _, 1, rfl, rfl, h4, by simp, by simp, ?_⟩
  have e1 : Ext [t] σ (upd σ t (.list [.lst (ns.map V.int), .int (↑n + 1)])) := (Ext.refl _ σ).upd_in (by simp)
  have hl : 0 < ns.length := List.length_pos_iff.mpr h1
  repeat k_caught0
  refine o_mod (by simp; lia) ?_
  have hmod : ((n : Int).fmod ↑(ns.map V.int).length) = ((n % ns.length : Nat) : Int) := by rw [List.length_map, Int.fmod_eq_emod_of_nonneg _ (by lia), Int.natCast_emod]
  have hdiv : ((n : Int).fdiv ↑(ns.map V.int).length) = ((n / ns.length : Nat) : Int) := by rw [List.length_map, Int.fdiv_eq_ediv_of_nonneg _ (by lia), Int.natCast_ediv]
  have hlt : n % ns.length < ns.length := Nat.mod_lt _ hl
  rw [hmod]
  refine i_lst (vs := ns.map V.int) (v := .int ns[n % ns.length]) (fun _ _ => rfl) (.inl rfl) (by simp; lia) ⟨?_, by lia⟩ ?_
  · rw [if_neg (by lia), Int.toNat_natCast, List.getElem?_map, List.getElem?_eq_getElem hlt]; rfl
  repeat k_caught0
  refine o_fdiv (by simp; lia) (small_div (by simp; lia)) ?_
  rw [hdiv]
  repeat k_caught0
  refine o_mul (IntMulOk.of_left (by decide)) ?_
  repeat k_caught0
  refine o_fdiv (by decide) (small_div (by decide)) ?_
  repeat k_caught0
  refine o_mul (IntMulOk.of_left (bits_small (by rw [Int.natAbs_natCast]; exact Nat.lt_of_le_of_lt (Nat.div_le_self n ns.length) (by lia)))) ?_
  repeat k_caught0
  refine o_mod (by lia) ?_
  generalize ns[n % ns.length] + _ = x
  have h5 : 0 ≤ x.fmod (m : Int) := Int.fmod_nonneg_of_pos _ (by lia)
  have h6 : x.fmod (m : Int) < m := Int.fmod_lt_of_pos _ (by lia)
  have := h (x.fmod (m : Int)).toNat (upd σ t (.list [.lst (ns.map V.int), .int (↑n + 1)])) (by lia) ⟨ns, h1, h2, by lia, by rw [upd_self]; rfl⟩ e1
  rw [Int.toNat_of_nonneg h5] at this
  exact this
end
end
section
theorem spc_eq : spc = ⟨#[32]⟩ := by decide +kernel
noncomputable def flatW : List Str → Str
  | [] => Str.ofString ""
  | w :: ws => w ++ (spc ++ flatW ws)
theorem sext {x y : Str} (h : x.cps.toList = y.cps.toList) : x = y := Str.ext' (Array.toList_inj.mp h)
theorem app_assoc (x y z : Str) : x ++ y ++ z = x ++ (y ++ z) := sext (by simp only [cps_app, List.append_assoc])
theorem emp_cps : (Str.ofString "").cps.toList = [] := by decide +kernel
theorem emp_app (x : Str) : Str.ofString "" ++ x = x := sext (by rw [cps_app, emp_cps]; rfl)
theorem app_emp (x : Str) : x ++ Str.ofString "" = x := sext (by rw [cps_app, emp_cps, List.append_nil])
theorem flatW_app : ∀ (a b : List Str), flatW (a ++ b) = flatW a ++ flatW b
  | [], b => (emp_app _).symm
  | w :: a, b => by rw [List.cons_append, flatW, flatW, flatW_app a b, app_assoc, app_assoc]
theorem spc_cps : spc.cps.toList = [32] := by rw [spc_eq]
theorem flatW_cps : ∀ (ws : List Str), (flatW ws).cps.toList = ws.flatMap fun w => w.cps.toList ++ [32]
  | [] => emp_cps
  | w :: ws => by rw [flatW, cps_app, cps_app, spc_cps, flatW_cps ws, List.flatMap_cons, List.append_assoc]
structure Wd (w : Str) : Prop where
  ns : 32 ∉ w.cps.toList
  ne : w.cps.toList ≠ []
theorem join_cps : ∀ (w : Str) (ws : List Str), (Str.join spc (w :: ws)).cps.toList ++ [32] = (w :: ws).flatMap fun w => w.cps.toList ++ [32]
  | w, [] => by simp [Str.join]
  | w, x :: ws => by
    have := join_cps x ws
    show (w ++ spc ++ Str.join spc (x :: ws)).cps.toList ++ [32] = _
    rw [cps_app, cps_app, spc_cps, List.append_assoc, List.append_assoc, this, List.flatMap_cons (xs := x :: ws), List.append_assoc]
theorem cut_at {a b : List Nat} (ha : 32 ∉ a) (hb : 32 ∉ b) {r s : List Nat} (h : a ++ 32 :: r = b ++ 32 :: s) : a = b ∧ r = s := by
  induction a generalizing b with
  | nil =>
    cases b with
    | nil => exact ⟨rfl, (List.cons.inj h).2⟩
    | cons x b => exact absurd ((List.cons.inj h).1 ▸ List.mem_cons_self ..) hb
  | cons x a ih =>
    cases b with
    | nil => exact absurd ((List.cons.inj h).1 ▸ List.mem_cons_self ..) ha
    | cons y b =>
      obtain ⟨h1, h2⟩ := List.cons.inj h
      obtain ⟨h3, h4⟩ := ih (fun m => ha (.tail _ m)) (fun m => hb (.tail _ m)) h2
      exact ⟨by rw [h1, h3], h4⟩
theorem flat_inj : ∀ {a b : List Str}, (∀ w ∈ a, 32 ∉ w.cps.toList) → (∀ w ∈ b, 32 ∉ w.cps.toList) → (a.flatMap fun w => w.cps.toList ++ [32]) = (b.flatMap fun w => w.cps.toList ++ [32]) → a = b
  | [], [], _, _, _ => rfl
  | [], y :: b, _, _, h => by rw [List.flatMap_cons] at h; simp at h
  | x :: a, [], _, _, h => by rw [List.flatMap_cons] at h; simp at h
  | x :: a, y :: b, ha, hb, h => by
    rw [List.flatMap_cons, List.flatMap_cons, List.append_assoc, List.append_assoc] at h
    obtain ⟨h1, h2⟩ := cut_at (ha x (.head _)) (hb y (.head _)) h
    rw [sext h1, flat_inj (fun w hw => ha w (.tail _ hw)) (fun w hw => hb w (.tail _ hw)) h2]
theorem split_ne (x y : Str) : Txt.split x y ≠ [] := by
  unfold Txt.split
  split
  · simp
  · split
    · simp
    · rw [StrLaws.partsBetween_eq]
      obtain ⟨p, r, e⟩ := StrLaws.partsFrom_ne x y.length 0 (Builtin.Str.occurrences x y 0 x.length (x.length + 1))
      rw [e]; simp
theorem split_join {w : Str} {ws : List Str} (h : ∀ x ∈ w :: ws, 32 ∉ x.cps.toList) : Txt.split (Str.join spc (w :: ws)) spc = w :: ws := by
  refine flat_inj (fun x hx => ?_) h ?_
  · rw [spc_eq] at hx; exact StrLaws.split_free _ 32 x hx
  · have := StrLaws.join_split (Str.join spc (w :: ws)) spc
    generalize hp : Txt.split (Str.join spc (w :: ws)) spc = parts at this ⊢
    cases parts with
    | nil => exact absurd hp (split_ne _ _)
    | cons p r => rw [← join_cps, ← join_cps, this]
theorem strip_join {w : Str} {ws : List Str} (h : ∀ x ∈ w :: ws, Wd x) : Txt.stripChars (flatW (w :: ws)) spc = Str.join spc (w :: ws) ∧ Txt.stripChars (Str.join spc (w :: ws)) spc = Str.join spc (w :: ws) := by
  have hj := join_cps w ws
  rw [← flatW_cps] at hj
  generalize hJ : Str.join spc (w :: ws) = J at hj ⊢
  have goes : ∀ c : Nat, spc.cps.contains c = (c == 32) := fun c => by
    rw [spc_eq]
    show Array.contains ([32] : List Nat).toArray c = _
    rw [List.contains_toArray, List.contains_cons, List.contains_nil, Bool.or_false]
  have hd : ∃ c l, J.cps.toList = c :: l ∧ c ≠ 32 := by
    have hw := h w (.head _)
    rw [flatW_cps, List.flatMap_cons] at hj
    cases hc : w.cps.toList with
    | nil => exact absurd hc hw.ne
    | cons c l =>
      rw [hc] at hj
      cases hJl : J.cps.toList with
      | nil => rw [hJl] at hj; obtain ⟨e, _⟩ := List.cons.inj hj; exact absurd (hc ▸ e ▸ List.mem_cons_self ..) hw.ns
      | cons d m =>
        rw [hJl] at hj
        obtain ⟨e, _⟩ := List.cons.inj hj
        exact ⟨d, m, rfl, fun z => hw.ns (by rw [hc, ← e, z]; exact .head _)⟩
  have tl : ∃ c l, J.cps.toList.reverse = c :: l ∧ c ≠ 32 := by
    obtain ⟨x, l', e⟩ : ∃ x l', w :: ws = l' ++ [x] := by
      have := List.eq_nil_or_concat (w :: ws)
      rcases this with q | ⟨l', x, q⟩
      · cases q
      · exact ⟨x, l', by rw [q, List.concat_eq_append]⟩
    have hx := h x (by rw [e]; simp)
    rw [flatW_cps, e, List.flatMap_append, List.flatMap_cons, List.flatMap_nil, List.append_nil, ← List.append_assoc] at hj
    have hj := List.append_cancel_right hj
    rw [hj, List.reverse_append]
    cases hc : x.cps.toList.reverse with
    | nil => exact absurd (List.reverse_eq_nil_iff.mp hc) hx.ne
    | cons c l =>
      refine ⟨c, _, rfl, fun z => hx.ns ?_⟩
      rw [← List.mem_reverse, hc, z]; exact .head _
  obtain ⟨c1, l1, e1, n1⟩ := hd
  obtain ⟨c2, l2, e2, n2⟩ := tl
  have lo : ∀ y : List Nat, stripLo (fun c => c == 32) true ⟨(J.cps.toList ++ y).toArray⟩ = 0 := fun y => by
    unfold stripLo
    rw [if_pos rfl]
    show ((J.cps.toList ++ y).takeWhile _).length = 0
    rw [e1, List.cons_append, List.takeWhile_cons_of_neg (by simpa using n1)]; rfl
  have len : J.length = J.cps.toList.length := by simp [Str.length]
  have fJ : J = ⟨(J.cps.toList ++ []).toArray⟩ := sext (by simp)
  have fF : flatW (w :: ws) = ⟨(J.cps.toList ++ [32]).toArray⟩ := sext (by rw [← hj])
  have gg : spc.cps.contains = (fun c : Nat => c == 32) := funext goes
  constructor
  · unfold Txt.stripChars Txt.stripBy
    rw [gg, fF]
    have hi : stripHi (fun c => c == 32) true ⟨(J.cps.toList ++ [32]).toArray⟩ 0 = J.length := by
      unfold stripHi
      rw [if_pos rfl]
      show _ - (((J.cps.toList ++ [32]).drop 0).reverse.takeWhile _).length = _
      rw [List.drop_zero, List.reverse_append, e2]
      show _ - ((32 :: c2 :: l2).takeWhile _).length = _
      rw [List.takeWhile_cons_of_pos (by decide), List.takeWhile_cons_of_neg (by simpa using n2), len]
      simp [Str.length]
    unfold stripSame PySem.stripped
    rw [lo, hi]
    rw [if_neg (by simp [Str.length])]
    apply sext
    rw [StrLaws.strSub_toList]
    show ((J.cps.toList ++ [32]).drop 0).take _ = _
    rw [List.drop_zero, Nat.sub_zero, len, List.take_left]
  · unfold Txt.stripChars Txt.stripBy
    rw [gg]
    have lo' := lo []
    rw [← fJ] at lo'
    have hi : stripHi (fun c => c == 32) true J 0 = J.length := by
      unfold stripHi
      rw [if_pos rfl, List.drop_zero, e2, List.takeWhile_cons_of_neg (by simpa using n2)]; rfl
    unfold stripSame
    rw [lo', hi, if_pos (by simp)]
structure Nm0 (w : Str) (m : Nat) : Prop where
  head : ∃ c r, w.cps.toList = c :: r ∧ 65 ≤ c ∧ c ≤ 90
  ns : 32 ∉ w.cps.toList
  fig : 48 ∈ w.cps.toList ∨ 49 ∈ w.cps.toList
  len : w.length ≤ m
theorem Nm0.wd {w : Str} {m : Nat} (h : Nm0 w m) : Wd w := ⟨h.ns, fun z => by obtain ⟨c, r, e, _⟩ := h.head; rw [z] at e; cases e⟩
theorem Nm0.res {w : Str} {m : Nat} (h : Nm0 w m) : isRes w = false := res_fig h.fig
theorem Nm0.mono {w : Str} {m m' : Nat} (h : Nm0 w m) (l : m ≤ m') : Nm0 w m' := ⟨h.head, h.ns, h.fig, Nat.le_trans h.len l⟩
theorem Nm0.tail {w x : Str} {m j : Nat} (h : Nm0 w m) (hx : 32 ∉ x.cps.toList) (hl : x.length ≤ j) : Nm0 (w ++ x) (m + j) := by
  obtain ⟨⟨c, r, e, h1, h2⟩, h3, h4, h5⟩ := h
  refine ⟨⟨c, r ++ x.cps.toList, by rw [cps_app, e]; rfl, h1, h2⟩, ?_, ?_, by rw [Str.length_append]; lia⟩
  · rw [cps_app, List.mem_append]; exact fun q => q.elim h3 hx
  · rw [cps_app]; exact h4.imp (List.mem_append_left _) (List.mem_append_left _)
theorem Nm0.front {w x : Str} {m j c : Nat} {r : List Nat} (h : Nm0 w m) (hc : x.cps.toList = c :: r) (h1 : 65 ≤ c) (h2 : c ≤ 90) (hx : 32 ∉ x.cps.toList) (hl : x.length ≤ j) : Nm0 (x ++ w) (m + j) := by
  obtain ⟨_, h3, h4, h5⟩ := h
  refine ⟨⟨c, r ++ w.cps.toList, by rw [cps_app, hc]; rfl, h1, h2⟩, ?_, ?_, by rw [Str.length_append]; lia⟩
  · rw [cps_app, List.mem_append]; exact fun q => q.elim hx h3
  · rw [cps_app]; exact h4.imp (List.mem_append_right _) (List.mem_append_right _)
noncomputable def isFigure (w : Str) : Bool := match w.cps[0]? with
  | some c => !(Builtin.Str.occurrences (Str.ofString "0123456789") ⟨#[c]⟩ 0 (Str.ofString "0123456789").length 1).isEmpty
  | none => false
noncomputable def tkOf (w : Str) : Str × Str := match w.cps[0]? with
  | some 39 => (sLit, cut w (some 1) (some (-1)))
  | _ => if w == Str.ofString "." then (sSign, w) else (if isFigure w then sNum else sWord, w)
end
section
section
variable {k : Nat} {c : FC} {P : Post} {Q : V → Store → Prop} {X : Addr → Prop} {σ σ' : Store} {loc : Loc}
theorem forl_name {x : String} {px : Pos} {body : List Stmt} {D : List Addr} (l0 : Loc) (hx : ∀ p ∈ l0, p.1 ≠ x) (hl : c.sc.names.lookup (Str.ofString x) = some .local) (K : List V → Store → Prop)
    (turn : ∀ v vs σ₁, K (v :: vs) σ₁ → TSs prog g k c ((x, v) :: l0) body { nx := fun l σ₂ => (∀ p ∈ l0, p ∈ l) ∧ (∀ d ∈ D, σ₂ d = σ₁ d) ∧ K vs σ₂, ct := fun l σ₂ => (∀ p ∈ l0, p ∈ l) ∧ (∀ d ∈ D, σ₂ d = σ₁ d) ∧ K vs σ₂, rt := P.rt } X σ₁)
    (fin : ∀ l σ₁, (∀ p ∈ l0, p ∈ l) → K [] σ₁ → P.nx l σ₁) : ∀ (vs : List V) (loc : Loc) (σ : Store), K vs σ → (∀ p ∈ l0, p ∈ loc) → ForL prog g k c (.Name (Str.ofString x) px) body P X D vs loc σ
  | [], loc, σ, h, hs => fin loc σ hs h
  | v :: vs, loc, σ, h, hs => by
    refine forl_cons (ta_name hl ?_)
    refine TSs.sub (TSs.mono (turn v vs σ h) (fun l s q => ⟨q.2.1, forl_name l0 hx hl K turn fin vs l s q.2.2 q.1⟩) (fun _ _ x => x) fun l s q => ⟨q.2.1, forl_name l0 hx hl K turn fin vs l s q.2.2 q.1⟩) (sub_setL hs hx)
theorem word_parts {w : Str} (h : Wd w) : ∃ ch r, w.cps.toList = ch :: r ∧ w.cps[0]? = some ch ∧ 0 < w.length := by
  cases e : w.cps.toList with
  | nil => exact absurd e h.ne
  | cons ch r => exact ⟨ch, r, rfl, by rw [← Array.getElem?_toList, e]; rfl, by rw [show w.length = w.cps.toList.length by simp [Str.length], e]; simp⟩
theorem sign_is {ch d : Nat} : ((⟨#[ch]⟩ : Str) == ⟨#[d]⟩) = (ch == d) := by
  rw [Bool.eq_iff_iff, beq_iff_eq, beq_iff_eq]
  constructor
  · intro h; injection h with h; simpa using h
  · rintro rfl; rfl
theorem quote_eq : Str.ofString "'" = ⟨#[39]⟩ := by decide +kernel
inductive ToksE (σ σ₁ : Store) (f : Addr) (ws : List Str) (rest : List V) : Prop
  | mk (tk : List Tk) (done todo : List Str) (h1 : ws = done ++ todo) (h2 : rest = todo.map V.str) (h3 : tk.map (·.2) = done.map tkOf) (h4 : σ₁ f = some (.list (tk.map fun p => .ref p.1))) (h5 : ∀ p ∈ tk, ∃ d, σ₁ p.1 = some (tkO d p.2.1 p.2.2))
structure Toks (σ σ₁ : Store) (f : Addr) (ws : List Str) (rest : List V) : Prop where
  ex : ToksE σ σ₁ f ws rest
  same : Same σ σ₁
theorem c_tokens (T : Top g) {x w : Str} {ws : List Str} (hx : x = Str.join spc (w :: ws)) (hl : x.length ≤ 1000000) (hw : ∀ y ∈ w :: ws, Wd y ∧ y.length ≤ 1000) (hn : ws.length ≤ 800)
    (h : ∀ (l : Addr) (tk : List Tk) (σ' : Store), tk.map (·.2) = (w :: ws).map tkOf → σ' l = some (.list (tk.map fun p => .ref p.1)) → (∀ p ∈ tk, ∃ d, σ' p.1 = some (tkO d p.2.1 p.2.2)) → Same σ σ' → Q (.ref l) σ') : CV prog g (k + 3) (.ref 679) [.str x] Q X σ := by
  refine CF.cv (call__law_tokens_1 T fun c hsc hcl => ?_)
  conv => arg 6; whnf
  repeat k_caught0
  refine e_list T.ok rfl ⟨by decide, fun f hf => ?_⟩
  repeat k_caught0
  rw [hx, split_join fun y hy => (hw y hy).1.ns]
  refine ⟨_, [], Src.lst T.ok, ?_⟩
  refine forl_name [("found", .ref f)] (by simp) (lk_of hsc rfl) (fun rest σ₁ => Toks σ σ₁ f (w :: ws) rest) (fun v vs σ₁ J => ?_) (fun l σ₁ hs J => ?_) _ _ _ ⟨⟨[], [], w :: ws, rfl, rfl, rfl, upd_self .., (fun _ hp => nomatch hp)⟩, (Same.refl σ).upd hf⟩ (by simp)
  · obtain ⟨⟨tk, done, todo, h1, h2, h3, h4, h5⟩, h6⟩ := J
    cases todo with
    | nil => cases h2
    | cons y todo =>
      rw [List.map_cons] at h2
      obtain ⟨rfl, rfl⟩ := List.cons.inj h2
      obtain ⟨hy, hyl⟩ := hw y (by rw [h1]; simp)
      obtain ⟨ch, r, hc, hc0, hpos⟩ := word_parts hy
      have htk : tk.length ≤ 900 := by
        have := congrArg List.length h3
        rw [List.length_map, List.length_map] at this
        have h1' := congrArg List.length h1
        rw [List.length_cons, List.length_append] at h1'
        lia
      have llen : (tk.map fun p => V.ref p.1).length ≤ 1000000 := by rw [List.length_map]; lia
      have hyl' : y.length ≤ 1000000 := by lia
      have first : (seqIndex? 0 y.length).bind (y.cps[·]?) = some ch := by
        unfold seqIndex?
        simp [hpos, hc0]
      -- the token is made and kept
      have fin : ∀ (kd w : Str) (a d : Addr) (σ₂ : Store), σ₂ a = some (tkO d kd w) → σ₁ a = none → Same σ₁ σ₂ → (kd, w) = tkOf y → Toks σ (upd σ₂ f (.list (tk.map (fun p => V.ref p.1) ++ [.ref a]))) f (done ++ y :: todo) (todo.map V.str) := fun kd w a d σ₂ ha na sm e => by
        have nfa : a ≠ f := fun z => by rw [z, h4] at na; cases na
        refine ⟨⟨tk ++ [(a, kd, w)], done ++ [y], todo, by simp, rfl, by rw [List.map_append, List.map_append, h3]; simp [e], by rw [upd_self, List.map_append]; rfl, fun p hp => ?_⟩, ?_⟩
        · rcases List.mem_append.mp hp with hp | hp
          · obtain ⟨d', hd'⟩ := h5 p hp
            exact ⟨d', (upd_ne fun z => by rw [z, h4] at hd'; cases hd').trans (sm.get hd')⟩
          · rw [List.mem_singleton.mp hp]
            exact ⟨d, (upd_ne nfa).trans ha⟩
        · exact fun b hb => (upd_ne fun z => hb (by rw [z]; exact hf)).trans ((sm b (by rw [h6 b hb]; exact hb)).trans (h6 b hb))
      rw [h1]
      repeat k_caught0
      refine i_str (ch := ch) (fun _ _ => rfl) hyl' first (by decide) (by decide) ?_
      repeat k_caught0
      refine iteS (fun hq => ?_) fun hq => ?_
      · rw [quote_eq, sign_is] at hq
        have hq : ch = 39 := eq_of_beq hq
        subst hq
        repeat k_caught0
        refine c_Token T fun a d σ₂ ha na sm => ?_
        have h4' := sm.get h4
        repeat k_caught0
        exact ⟨by simp, by simp, fin _ _ a d σ₂ ha na sm (by unfold tkOf; rw [hc0]; rfl)⟩
      · rw [quote_eq, sign_is] at hq
        have hq : ch ≠ 39 := fun z => by rw [z] at hq; cases hq
        have tk0 : tkOf y = if y == Str.ofString "." then (sSign, y) else (if isFigure y then sNum else sWord, y) := by
          unfold tkOf
          rw [hc0]
          split
          · rename_i e; exact absurd (Option.some.inj e) hq
          · rfl
        repeat k_caught0
        refine iteS (fun hd => ?_) fun hd => ?_
        · rw [if_pos hd] at tk0
          repeat k_caught0
          refine c_Token T fun a d σ₂ ha na sm => ?_
          have h4' := sm.get h4
          repeat k_caught0
          exact ⟨by simp, by simp, fin _ _ a d σ₂ ha na sm tk0.symm⟩
        · rw [if_neg (by rw [hd]; decide)] at tk0
          repeat k_caught0
          refine i_str (ch := ch) (fun _ _ => rfl) hyl' first (by decide) (by decide) ?_
          repeat k_caught0
          have fe : (!(Builtin.Str.occurrences (Str.ofString "0123456789") ⟨#[ch]⟩ 0 (Str.ofString "0123456789").length 1).isEmpty) = isFigure y := by unfold isFigure; rw [hc0]
          refine o_ins ?_
          rw [fe]
          refine iteS (fun hb => ?_) fun hb => ?_
          · rw [if_pos hb] at tk0
            repeat k_caught0
            refine c_Token T fun a d σ₂ ha na sm => ?_
            have h4' := sm.get h4
            repeat k_caught0
            exact ⟨by simp, by simp, fin _ _ a d σ₂ ha na sm tk0.symm⟩
          · rw [if_neg (by rw [hb]; decide)] at tk0
            repeat k_caught0
            refine c_Token T fun a d σ₂ ha na sm => ?_
            have h4' := sm.get h4
            repeat k_caught0
            exact ⟨by simp, by simp, fin _ _ a d σ₂ ha na sm tk0.symm⟩
  · obtain ⟨⟨tk, done, todo, h1, h2, h3, h4, h5⟩, h6⟩ := J
    have ht : todo = [] := by
      cases todo with
      | nil => rfl
      | cons _ _ => cases h2
    subst ht
    rw [List.append_nil] at h1
    refine TSs.sub ?_ hs
    repeat k_caught0
    rw [← h1] at h3
    exact h f tk σ₁ h3 h4 h5 h6
end
end
section
noncomputable abbrev S (s : String) : Str := Str.ofString s
noncomputable def Ent.says : Ent → List Str
  | .e01 nm => [S "01", nm, S "."]
  | .e05 nm uw _ => [S "05", nm, S "VALUE", uw, S "."]
  | .e88 nm => [S "88", nm, S "VALUES", S "ARE", S "'a'", S "THRU", S "'c'", S "5", S "ZERO", S "."]
  | .e66 nm f none => [S "66", nm, S "RENAMES", f, S "."]
  | .e66 nm f (some l) => [S "66", nm, S "RENAMES", f, S "THROUGH", l, S "."]
structure EntG (e : Ent) : Prop where
  ok : e.Ok
  says : e.says.map tkOf = e.words
  wd : ∀ w ∈ e.says, Wd w ∧ w.length ≤ 200
noncomputable def says (es : List Ent) : List Str := es.flatMap Ent.says
theorem says_words {es : List Ent} (h : ∀ e ∈ es, EntG e) : (says es).map tkOf = es.flatMap Ent.words := by
  unfold says
  induction es with
  | nil => rfl
  | cons e es ih =>
    rw [List.flatMap_cons, List.flatMap_cons, List.map_append, ih fun x hx => h x (.tail _ hx), (h e (.head _)).says]
theorem says_wd {es : List Ent} (h : ∀ e ∈ es, EntG e) : ∀ w ∈ says es, Wd w ∧ w.length ≤ 200 := fun w hw => by
  obtain ⟨e, he, hw⟩ := List.mem_flatMap.mp hw
  exact (h e he).wd w hw
noncomputable def wdB (w : Str) : Bool := !w.cps.toList.contains 32 && !w.cps.toList.isEmpty && Nat.ble w.length 100
theorem wdB_ok {w : Str} (h : wdB w = true) : Wd w ∧ w.length ≤ 100 := by
  unfold wdB at h
  simp only [Bool.and_eq_true, Bool.not_eq_true'] at h
  obtain ⟨⟨h1, h2⟩, h3⟩ := h
  refine ⟨⟨fun m => ?_, fun z => by rw [z] at h2; cases h2⟩, Nat.le_of_ble_eq_true h3⟩
  rw [← List.contains_iff_mem, h1] at m; cases m
theorem wd_S {s : String} (h : wdB (S s) = true) : Wd (S s) ∧ (S s).length ≤ 200 := ⟨(wdB_ok h).1, Nat.le_trans (wdB_ok h).2 (by decide)⟩
theorem fig_no {c : Nat} (h1 : 65 ≤ c) (h2 : c ≤ 90) : (Builtin.Str.occurrences (Str.ofString "0123456789") ⟨#[c]⟩ 0 (Str.ofString "0123456789").length 1).isEmpty = true := by
  have key : ∀ d : Fin 26, (Builtin.Str.occurrences (Str.ofString "0123456789") ⟨#[d.val + 65]⟩ 0 (Str.ofString "0123456789").length 1).isEmpty = true := by decide +kernel
  have := key ⟨c - 65, by lia⟩
  rwa [show c - 65 + 65 = c by lia] at this
theorem tk_name {w : Str} {m : Nat} (h : Nm0 w m) : tkOf w = (sWord, w) := by
  obtain ⟨c, r, e, h1, h2⟩ := h.head
  have hc : w.cps[0]? = some c := by rw [← Array.getElem?_toList, e]; rfl
  have nd : (w == Str.ofString ".") = false := by
    refine beq_eq_false_iff_ne.mpr fun z => ?_
    rw [z, show (Str.ofString ".").cps.toList = [46] by decide +kernel] at e
    have := (List.cons.inj e).1
    lia
  have nf : isFigure w = false := by unfold isFigure; rw [hc]; dsimp only; rw [fig_no h1 h2]; rfl
  unfold tkOf
  rw [hc]
  split
  · rename_i e'; have := Option.some.inj e'; lia
  · rw [nd, nf]; rfl
theorem nm_wd {w : Str} {m : Nat} (h : Nm0 w m) (l : m ≤ 200) : Wd w ∧ w.length ≤ 200 := ⟨h.wd, Nat.le_trans h.len l⟩
theorem entG_01 {nm : Str} {m : Nat} (h : Nm0 nm m) (l : m ≤ 200) : EntG (.e01 nm) := by
  refine ⟨h.res, ?_, ?_⟩
  · show [tkOf _, tkOf nm, tkOf _] = _
    rw [tk_name h, show tkOf (S "01") = (sNum, S "01") by decide +kernel, show tkOf (S ".") = (sSign, S ".") by decide +kernel]; rfl
  · intro w hw
    simp only [Ent.says, List.mem_cons, List.not_mem_nil, or_false] at hw
    rcases hw with rfl | rfl | rfl
    · exact wd_S (by decide +kernel)
    · exact nm_wd h l
    · exact wd_S (by decide +kernel)
theorem entG_05 {nm uw : Str} {m u : Nat} (h : Nm0 nm m) (l : m ≤ 200) (hu : DecOk uw u) (ht : tkOf uw = (sNum, uw)) (hw0 : Wd uw ∧ uw.length ≤ 200) : EntG (.e05 nm uw u) := by
  refine ⟨⟨h.res, hu⟩, ?_, ?_⟩
  · show [tkOf _, tkOf nm, tkOf _, tkOf uw, tkOf _] = _
    rw [tk_name h, ht, show tkOf (S "05") = (sNum, S "05") by decide +kernel, show tkOf (S ".") = (sSign, S ".") by decide +kernel, show tkOf (S "VALUE") = (sWord, S "VALUE") by decide +kernel]; rfl
  · intro w hw
    simp only [Ent.says, List.mem_cons, List.not_mem_nil, or_false] at hw
    rcases hw with rfl | rfl | rfl | rfl | rfl
    · exact wd_S (by decide +kernel)
    · exact nm_wd h l
    · exact wd_S (by decide +kernel)
    · exact hw0
    · exact wd_S (by decide +kernel)
theorem entG_88 {nm : Str} {m : Nat} (h : Nm0 nm m) (l : m ≤ 200) : EntG (.e88 nm) := by
  refine ⟨h.res, ?_, ?_⟩
  · show tkOf _ :: tkOf nm :: [S "VALUES", S "ARE", S "'a'", S "THRU", S "'c'", S "5", S "ZERO", S "."].map tkOf = _
    rw [tk_name h, show tkOf (S "88") = (sNum, S "88") by decide +kernel, show [S "VALUES", S "ARE", S "'a'", S "THRU", S "'c'", S "5", S "ZERO", S "."].map tkOf = [(sWord, S "VALUES"), (sWord, S "ARE"), (sLit, S "a"), (sWord, S "THRU"), (sLit, S "c"), (sNum, S "5"), (sWord, S "ZERO"), (sSign, S ".")] by decide +kernel]; rfl
  · intro w hw
    rw [show (Ent.e88 nm).says = S "88" :: nm :: [S "VALUES", S "ARE", S "'a'", S "THRU", S "'c'", S "5", S "ZERO", S "."] from rfl] at hw
    rcases List.mem_cons.mp hw with rfl | hw
    · exact wd_S (by decide +kernel)
    · rcases List.mem_cons.mp hw with rfl | hw
      · exact nm_wd h l
      · have := List.all_eq_true.mp (show [S "VALUES", S "ARE", S "'a'", S "THRU", S "'c'", S "5", S "ZERO", S "."].all wdB = true by decide +kernel) w hw
        exact ⟨(wdB_ok this).1, Nat.le_trans (wdB_ok this).2 (by decide)⟩
theorem entG_66 {nm f : Str} {l : Option Str} {m : Nat} (h : Nm0 nm m) (hf : Nm0 f m) (hl : ∀ x, l = some x → Nm0 x m) (lm : m ≤ 200) : EntG (.e66 nm f l) := by
  refine ⟨⟨h.res, hf.res, fun x hx => (hl x hx).res⟩, ?_, ?_⟩
  · cases l with
    | none =>
      show [tkOf _, tkOf nm, tkOf _, tkOf f, tkOf _] = _
      rw [tk_name h, tk_name hf, show tkOf (S "66") = (sNum, S "66") by decide +kernel, show tkOf (S ".") = (sSign, S ".") by decide +kernel, show tkOf (S "RENAMES") = (sWord, S "RENAMES") by decide +kernel]; rfl
    | some x =>
      show [tkOf _, tkOf nm, tkOf _, tkOf f, tkOf _, tkOf x, tkOf _] = _
      rw [tk_name h, tk_name hf, tk_name (hl x rfl), show tkOf (S "66") = (sNum, S "66") by decide +kernel, show tkOf (S ".") = (sSign, S ".") by decide +kernel, show tkOf (S "RENAMES") = (sWord, S "RENAMES") by decide +kernel, show tkOf (S "THROUGH") = (sWord, S "THROUGH") by decide +kernel]; rfl
  · intro w hw
    cases l with
    | none =>
      simp only [Ent.says, List.mem_cons, List.not_mem_nil, or_false] at hw
      rcases hw with rfl | rfl | rfl | rfl | rfl
      · exact wd_S (by decide +kernel)
      · exact nm_wd h lm
      · exact wd_S (by decide +kernel)
      · exact nm_wd hf lm
      · exact wd_S (by decide +kernel)
    | some x =>
      simp only [Ent.says, List.mem_cons, List.not_mem_nil, or_false] at hw
      rcases hw with rfl | rfl | rfl | rfl | rfl | rfl | rfl
      · exact wd_S (by decide +kernel)
      · exact nm_wd h lm
      · exact wd_S (by decide +kernel)
      · exact nm_wd hf lm
      · exact wd_S (by decide +kernel)
      · exact nm_wd (hl _ rfl) lm
      · exact wd_S (by decide +kernel)
end
section
noncomputable def kidNm (nm : Str) (j : Nat) : Str := nm ++ S "-" ++ Str.ofString (toString (j : Int))
structure KidG (nm : Str) (j : Nat) (q : KidD) : Prop where
  en : q.nm = kidNm nm j
  uw : q.uw = Str.ofString (toString (j : Int))
  u : q.u = j
  cn : q.cn = none ∨ q.cn = some (S "N-" ++ kidNm nm j)
theorem ms_nil {p : String × V → Prop} : ∀ b ∈ ([] : Loc), p b := fun _ h => nomatch h
theorem ms_all {a : String × V} {l : Loc} {p : String × V → Prop} (h : p a) (t : ∀ b ∈ l, p b) : ∀ b ∈ a :: l, p b := fun b hb => (List.mem_cons.mp hb).elim (fun e => e ▸ h) (t b)
theorem ms_self {x : String} {v : V} {l : Loc} : (x, v) ∈ SetL x v l := .head _
theorem ms_set {x y : String} {v w : V} {l : Loc} (n : y ≠ x) (h : (y, w) ∈ l) : (y, w) ∈ SetL x v l := .tail _ (List.mem_filter.mpr ⟨h, decide_eq_true n⟩)
theorem ms_s2 {a b y : String} {u v w : V} {l : Loc} (h : (y, w) ∈ SetL b v (SetL a u l)) : (y, w) ∈ SetLs [a, b] [u, v] l := h
theorem ms_s3 {a b c y : String} {u v x w : V} {l : Loc} (h : (y, w) ∈ SetL c x (SetL b v (SetL a u l))) : (y, w) ∈ SetLs [a, b, c] [u, v, x] l := h
theorem o_addsE {prog : Program} {g : G} {k : Nat} {Q : V → Store → Prop} {X : Addr → Prop} {σ : Store} {x y z : Str} (e : x ++ y = z) (hl : x.length + y.length ≤ 1000000) (h : Q (.str z) σ) : OV prog g k [.str x, .str y] (binA .Add) Q X σ := o_adds hl (e ▸ h)
theorem c_strE {prog : Program} {g : G} {k : Nat} {Q : V → Store → Prop} {X : Addr → Prop} {σ : Store} {a : Int} {w : Str} (e : Str.ofString (toString a) = w) (h0 : -1000000 ≤ a) (h1 : a ≤ 1000000) (h : Q (.str w) σ) : CV prog g k (.typ "str") [.int a] Q X σ := c_str h0 h1 (e ▸ h)
theorem ol {x y : Str} {a b : Nat} (hx : x.length ≤ a) (hy : y.length ≤ b) : (x ++ y).length ≤ a + b := by rw [Str.length_append]; exact Nat.add_le_add hx hy
theorem olT {x y : Str} {a b : Nat} (hx : x.length ≤ a) (hy : y.length ≤ b) (h : Nat.ble (a + b) 1000000 = true) : x.length + y.length ≤ 1000000 := Nat.le_trans (Nat.add_le_add hx hy) (Nat.le_of_ble_eq_true h)
theorem kid_name {nm : Str} {m j : Nat} (h : Nm0 nm m) (hj : j < 2) : Nm0 (kidNm nm j) (m + 2) := by
  have a : Nm0 (nm ++ S "-") (m + 1) := h.tail (x := S "-") (j := 1) (by decide +kernel) (by decide +kernel)
  obtain rfl | rfl : j = 0 ∨ j = 1 := by lia
  · exact a.tail (x := S "0") (j := 1) (by decide +kernel) (by decide +kernel)
  · exact a.tail (x := S "1") (j := 1) (by decide +kernel) (by decide +kernel)
theorem fig_j {j : Nat} (hj : j < 2) : DecOk (Str.ofString (toString (j : Int))) j ∧ tkOf (Str.ofString (toString (j : Int))) = (sNum, Str.ofString (toString (j : Int))) ∧ Wd (Str.ofString (toString (j : Int))) ∧ (Str.ofString (toString (j : Int))).length ≤ 200 := by
  obtain rfl | rfl : j = 0 ∨ j = 1 := by lia
  · exact ⟨dec_0, by decide +kernel, wd_S (s := "0") (by decide +kernel)⟩
  · exact ⟨dec_1, by decide +kernel, wd_S (s := "1") (by decide +kernel)⟩
theorem KidG.ents {nm : Str} {m j : Nat} {q : KidD} (h : KidG nm j q) (hn : Nm0 nm m) (hj : j < 2) (l : m ≤ 100) : (∀ e ∈ q.ents, EntG e) ∧ q.ents.length ≤ 2 := by
  obtain ⟨h1, h2, h3, h4⟩ := h
  obtain ⟨f1, f2, f3⟩ := fig_j hj
  have kn := kid_name hn hj
  have e5 : EntG (.e05 q.nm q.uw q.u) := by rw [h1, h2, h3]; exact entG_05 kn (by lia) f1 f2 f3
  unfold KidD.ents
  rcases h4 with h4 | h4
  · rw [h4]
    exact ⟨fun e he => by rw [show e = _ from List.mem_singleton.mp he]; exact e5, by simp⟩
  · rw [h4]
    refine ⟨fun e he => ?_, by simp⟩
    rcases List.mem_cons.mp he with rfl | he
    · exact e5
    · rw [show e = _ from List.mem_singleton.mp he]
      exact entG_88 (m := m + 4) ((kn.front (j := 2) (c := 78) (r := [45]) (by decide +kernel) (by decide) (by decide) (by decide +kernel) (by decide +kernel)).mono (by lia)) (by lia)
structure RecG (nm : Str) (m : Nat) (r : RecD) : Prop where
  en : r.nm = nm
  ents : ∀ e ∈ r.ents, EntG e
  len : r.ents.length ≤ 6
theorem flatW_len {ws : List Str} (h : ∀ w ∈ ws, Wd w ∧ w.length ≤ 200) : (flatW ws).length ≤ ws.length * 201 := by
  induction ws with
  | nil => exact Nat.zero_le _
  | cons w ws ih =>
    rw [flatW, Str.length_append, Str.length_append, List.length_cons, show spc.length = 1 by decide +kernel]
    have := ih fun x hx => h x (.tail _ hx)
    have := (h w (.head _)).2
    lia
theorem says_len (es : List Ent) : (says es).length ≤ es.length * 10 := by
  unfold says
  induction es with
  | nil => exact Nat.zero_le _
  | cons e es ih =>
    rw [List.flatMap_cons, List.length_append, List.length_cons]
    have : e.says.length ≤ 10 := by
      cases e with
      | e66 nm f l => cases l <;> simp [Ent.says]
      | _ => simp [Ent.says]
    lia
theorem txt_len {es : List Ent} (h : ∀ e ∈ es, EntG e) : (flatW (says es)).length ≤ es.length * 2010 := by
  have h1 := flatW_len (says_wd h)
  have h2 := says_len es
  lia
theorem txt_01 (nm : Str) : S "01 " ++ nm ++ S " . " = flatW [S "01", nm, S "."] := by
  apply sext
  simp only [flatW_cps, cps_app, List.flatMap_cons, List.flatMap_nil, List.append_nil, List.append_assoc, show (S "01 ").cps.toList = (S "01").cps.toList ++ [32] by decide +kernel, show (S " . ").cps.toList = [32] ++ ((S ".").cps.toList ++ [32]) by decide +kernel]
theorem txt_05 (x kn uw : Str) : x ++ S "05 " ++ kn ++ S " VALUE " ++ uw ++ S " . " = x ++ flatW [S "05", kn, S "VALUE", uw, S "."] := by
  apply sext
  simp only [flatW_cps, cps_app, List.flatMap_cons, List.flatMap_nil, List.append_nil, List.append_assoc, show (S "05 ").cps.toList = (S "05").cps.toList ++ [32] by decide +kernel, show (S " . ").cps.toList = [32] ++ ((S ".").cps.toList ++ [32]) by decide +kernel, show (S " VALUE ").cps.toList = [32] ++ ((S "VALUE").cps.toList ++ [32]) by decide +kernel]
theorem txt_88 (x kn : Str) : x ++ S "88 N-" ++ kn ++ S " VALUES ARE 'a' THRU 'c' 5 ZERO . " = x ++ flatW (S "88" :: (S "N-" ++ kn) :: [S "VALUES", S "ARE", S "'a'", S "THRU", S "'c'", S "5", S "ZERO", S "."]) := by
  apply sext
  simp only [flatW_cps, cps_app, List.flatMap_cons, List.flatMap_nil, List.append_nil, List.append_assoc, show (S "88 N-").cps.toList = (S "88").cps.toList ++ ([32] ++ (S "N-").cps.toList) by decide +kernel]
  congr 5
theorem txt_66a (x nm f : Str) : x ++ S "66 R-" ++ nm ++ S " RENAMES " ++ f ++ S "" ++ S " . " = x ++ flatW [S "66", S "R-" ++ nm, S "RENAMES", f, S "."] := by
  apply sext
  simp only [flatW_cps, cps_app, emp_cps, List.flatMap_cons, List.flatMap_nil, List.append_nil, List.append_assoc, show (S "66 R-").cps.toList = (S "66").cps.toList ++ ([32] ++ (S "R-").cps.toList) by decide +kernel, show (S " . ").cps.toList = [32] ++ ((S ".").cps.toList ++ [32]) by decide +kernel, show (S " RENAMES ").cps.toList = [32] ++ ((S "RENAMES").cps.toList ++ [32]) by decide +kernel]
theorem txt_66b (x nm f l : Str) : x ++ S "66 R-" ++ nm ++ S " RENAMES " ++ f ++ (S " THROUGH " ++ l) ++ S " . " = x ++ flatW [S "66", S "R-" ++ nm, S "RENAMES", f, S "THROUGH", l, S "."] := by
  apply sext
  simp only [flatW_cps, cps_app, List.flatMap_cons, List.flatMap_nil, List.append_nil, List.append_assoc, show (S "66 R-").cps.toList = (S "66").cps.toList ++ ([32] ++ (S "R-").cps.toList) by decide +kernel, show (S " . ").cps.toList = [32] ++ ((S ".").cps.toList ++ [32]) by decide +kernel, show (S " RENAMES ").cps.toList = [32] ++ ((S "RENAMES").cps.toList ++ [32]) by decide +kernel, show (S " THROUGH ").cps.toList = [32] ++ ((S "THROUGH").cps.toList ++ [32]) by decide +kernel]
section
variable {k : Nat} {c : FC} {P : Post} {Q : V → Store → Prop} {X : Addr → Prop} {σ σ' : Store} {loc : Loc} {t : Addr} {n m : Nat}
theorem forl_nameL {x : String} {px : Pos} {body : List Stmt} {D : List Addr} (hl : c.sc.names.lookup (Str.ofString x) = some .local) (K : List V → Loc → Store → Prop) (hx : ∀ vs l s, K vs l s → ∀ p ∈ l, p.1 ≠ x)
    (turn : ∀ v vs l0 σ₁, K (v :: vs) l0 σ₁ → TSs prog g k c ((x, v) :: l0) body { nx := fun l σ₂ => ∃ l1, (∀ p ∈ l1, p ∈ l) ∧ (∀ d ∈ D, σ₂ d = σ₁ d) ∧ K vs l1 σ₂, ct := fun l σ₂ => ∃ l1, (∀ p ∈ l1, p ∈ l) ∧ (∀ d ∈ D, σ₂ d = σ₁ d) ∧ K vs l1 σ₂, rt := P.rt } X σ₁)
    (fin : ∀ l l0 σ₁, (∀ p ∈ l0, p ∈ l) → K [] l0 σ₁ → P.nx l σ₁) : ∀ (vs : List V) (loc l0 : Loc) (σ : Store), K vs l0 σ → (∀ p ∈ l0, p ∈ loc) → ForL prog g k c (.Name (Str.ofString x) px) body P X D vs loc σ
  | [], loc, l0, σ, h, hs => fin loc l0 σ hs h
  | v :: vs, loc, l0, σ, h, hs => by
    refine forl_cons (ta_name hl ?_)
    refine TSs.sub (TSs.mono (turn v vs l0 σ h) (fun l s ⟨l1, q1, q2, q3⟩ => ⟨q2, forl_nameL hl K hx turn fin vs l l1 s q3 q1⟩) (fun _ _ x => x) fun l s ⟨l1, q1, q2, q3⟩ => ⟨q2, forl_nameL hl K hx turn fin vs l l1 s q3 q1⟩) (sub_setL hs (hx _ _ _ h))
theorem drop_range {i j : Nat} {v : V} {vs : List V} (h : v :: vs = (inRange 0 (i : Int)).drop j) : v = .int (j : Int) ∧ vs = (inRange 0 (i : Int)).drop (j + 1) ∧ j < i := by
  have hl : (inRange 0 (i : Int)).length = i := by simp [inRange]
  have hj : j < (inRange 0 (i : Int)).length := by
    have := congrArg List.length h
    rw [List.length_cons, List.length_drop] at this
    lia
  rw [List.drop_eq_getElem_cons hj] at h
  obtain ⟨h1, h2⟩ := List.cons.inj h
  refine ⟨?_, h2, by lia⟩
  rw [h1]
  have := inRange_get (List.getElem?_eq_getElem hj)
  rw [this]
  simp
inductive RKE (σ : Store) (t kd : Addr) (n : Nat) (nm : Str) (i : Nat) (rest : List V) (l0 : Loc) (σ₁ : Store) : Prop
  | mk (ks : List KidD) (j : Nat) (h1 : ks.length = j) (h2 : j ≤ i) (h3 : rest = (inRange 0 (i : Int)).drop j) (h4 : l0 = [("text", .str (flatW (says (.e01 nm :: ks.flatMap KidD.ents)))), ("kids", .ref kd), ("tape", .ref t), ("name", .str nm)]) (h5 : σ₁ kd = some (.list (ks.map KidD.due))) (h6 : Tape σ₁ t (n + 1 + j)) (h7 : ∀ x q, ks[x]? = some q → KidG nm x q)
structure RK (σ : Store) (t kd : Addr) (n : Nat) (nm : Str) (i : Nat) (rest : List V) (l0 : Loc) (σ₁ : Store) : Prop where
  ex : RKE σ t kd n nm i rest l0 σ₁
  ext : Ext [t] σ σ₁
theorem kids_ents {nm : Str} {ks : List KidD} (hN : Nm0 nm m) (hm : m ≤ 50) (hk : ks.length ≤ 2) (h : ∀ x q, ks[x]? = some q → KidG nm x q) : (∀ e ∈ Ent.e01 nm :: ks.flatMap KidD.ents, EntG e) ∧ (ks.flatMap KidD.ents).length ≤ 4 := by
  have key : ∀ q ∈ ks, (∀ e ∈ q.ents, EntG e) ∧ q.ents.length ≤ 2 := fun q hq => by
    obtain ⟨x, hx⟩ := List.mem_iff_getElem?.mp hq
    have hx2 : x < ks.length := (List.getElem?_eq_some_iff.mp hx).1
    exact (h x q hx).ents hN (by lia) (by lia)
  refine ⟨fun e he => ?_, ?_⟩
  · rcases List.mem_cons.mp he with rfl | he
    · exact entG_01 hN (by lia)
    · obtain ⟨q, hq, he⟩ := List.mem_flatMap.mp he
      exact (key q hq).1 e he
  · have : ∀ l : List KidD, (∀ q ∈ l, q.ents.length ≤ 2) → (l.flatMap KidD.ents).length ≤ l.length * 2 := fun l hl => by
      induction l with
      | nil => exact Nat.zero_le _
      | cons q l ih =>
        rw [List.flatMap_cons, List.length_append, List.length_cons]
        have := ih fun q hq => hl q (.tail _ hq)
        have := hl q (.head _)
        lia
    have := this ks fun q hq => (key q hq).2
    lia
set_option maxHeartbeats 4000000 in
theorem c_record (T : Top g) {nm : Str} (hT : Tape σ t n) (hn : n < 9000) (hN : Nm0 nm m) (hm : m ≤ 50)
    (h : ∀ (r : RecD) (n' : Nat) σ', RecG nm m r → n ≤ n' → n' ≤ n + 6 → Tape σ' t n' → Ext [t] σ σ' → Q (.tup [.str (flatW (says r.ents)), r.due]) σ') : CV prog g (k + 2) (.ref 686) [.ref t, .str nm] Q X σ := by
  refine CF.cv (call__law_record_2 T fun c hsc hcl => ?_)
  conv => arg 6; whnf
  have l0 := hN.len
  have l00 : nm.length ≤ 50 := Nat.le_trans l0 hm
  repeat k_caught0
  have b01 : (Str.ofString "01 ").length ≤ 60 := by decide +kernel
  have bdt : (Str.ofString " . ").length ≤ 60 := by decide +kernel
  refine o_adds (by apply olT <;> repeat' (first | with_reducible assumption | with_reducible apply ol | exact Eq.refl true)) ?_
  repeat k_caught0
  refine o_addsE (txt_01 ..) (by apply olT <;> repeat' (first | with_reducible assumption | with_reducible apply ol | exact Eq.refl true)) ?_
  repeat k_caught0
  refine e_list T.ok rfl ⟨by decide, fun kd hkd => ?_⟩
  have ntk : kd ≠ t := fun z => by obtain ⟨_, _, _, _, q⟩ := hT; rw [z, q] at hkd; cases hkd
  have hT0 : Tape (upd σ kd (.list [])) t n := hT.ext (D := []) (Ext.of_same ((Same.refl σ).upd hkd)) (by simp)
  have e0 : Ext [t] σ (upd σ kd (.list [])) := Ext.of_same ((Same.refl σ).upd hkd)
  repeat k_caught0
  refine c_draw T hT0 (by lia) (m := 3) (by decide) fun i σ1 hi hT1 e1 => ?_
  have hk1 := e1.get (upd_self σ kd (.list [])) (by simpa using ntk)
  repeat k_caught0
  refine ⟨_, [], Src.rng T.ok (by decide) (by decide) (by lia) (by lia), ?_⟩
  refine forl_nameL (lk_of hsc rfl) (fun rest l s => RK σ t kd n nm i rest l s) (fun vs l s J => ?_) (fun v vs l0 σ₁ J => ?_) (fun l l0 σ₁ hs J => ?_) _ _ _ _ ⟨⟨[], 0, rfl, Nat.zero_le _, rfl, rfl, hk1, hT1, by simp⟩, e0.trans e1⟩ (by simp [says, Ent.says])
  · obtain ⟨⟨ks, j, h1, h2, h3, rfl, _⟩, _⟩ := J
    simp
  · obtain ⟨⟨ks, j, h1, h2, h3, rfl, h5, h6, h7⟩, h8⟩ := J
    obtain ⟨rfl, h9, h10⟩ := drop_range h3
    obtain ⟨g1, g2⟩ := kids_ents hN hm (by lia) h7
    have lt := txt_len g1
    rw [List.length_cons] at lt
    generalize hx : flatW (says (Ent.e01 nm :: ks.flatMap KidD.ents)) = x at lt
    have lt0 : x.length ≤ 12000 := by lia
    have kn := kid_name hN (show j < 2 by lia)
    have kl : (kidNm nm j).length ≤ 60 := by have := kn.len; lia
    have kw := (fig_j (show j < 2 by lia)).2.2.2
    have b1 : (Str.ofString "-").length ≤ 60 := by decide +kernel
    have b2 : (Str.ofString "05 ").length ≤ 60 := by decide +kernel
    have b3 : (Str.ofString " VALUE ").length ≤ 60 := by decide +kernel
    have b4 : (Str.ofString " . ").length ≤ 60 := by decide +kernel
    have b5 : (Str.ofString "88 N-").length ≤ 60 := by decide +kernel
    have b6 : (Str.ofString " VALUES ARE 'a' THRU 'c' 5 ZERO . ").length ≤ 60 := by decide +kernel
    have b7 : (Str.ofString "N-").length ≤ 60 := by decide +kernel
    have hkn : nm ++ Str.ofString "-" ++ Str.ofString (toString (j : Int)) = kidNm nm j := rfl
    generalize hw : Str.ofString (toString (j : Int)) = w at hkn kw
    repeat k_caught0
    refine o_adds (by apply olT <;> repeat' (first | with_reducible assumption | with_reducible apply ol | exact Eq.refl true)) ?_
    repeat k_caught0
    refine c_strE hw (by lia) (by lia) ?_
    repeat k_caught0
    refine o_addsE hkn (by apply olT <;> repeat' (first | with_reducible assumption | with_reducible apply ol | exact Eq.refl true)) ?_
    generalize hkn2 : kidNm nm j = kd' at kn kl
    repeat k_caught0
    refine o_adds (by apply olT <;> repeat' (first | with_reducible assumption | with_reducible apply ol | exact Eq.refl true)) ?_
    repeat k_caught0
    refine o_adds (by apply olT <;> repeat' (first | with_reducible assumption | with_reducible apply ol | exact Eq.refl true)) ?_
    repeat k_caught0
    refine o_adds (by apply olT <;> repeat' (first | with_reducible assumption | with_reducible apply ol | exact Eq.refl true)) ?_
    repeat k_caught0
    refine c_strE hw (by lia) (by lia) ?_
    repeat k_caught0
    refine o_adds (by apply olT <;> repeat' (first | with_reducible assumption | with_reducible apply ol | exact Eq.refl true)) ?_
    repeat k_caught0
    refine o_addsE (txt_05 ..) (by apply olT <;> repeat' (first | with_reducible assumption | with_reducible apply ol | exact Eq.refl true)) ?_
    have lt2 : (x ++ flatW [S "05", kd', S "VALUE", w, S "."]).length ≤ 12000 := by
      rw [← txt_05]
      simp only [Str.length_append, S]
      lia
    generalize hy05 : x ++ flatW [S "05", kd', S "VALUE", w, S "."] = y05 at lt2
    repeat k_caught0
    refine c_draw T h6 (by lia) (m := 2) (by decide) fun d σ₂ hd hT2 e2 => ?_
    have hk2 := e2.get h5 (by simpa using ntk)
    have hq0 : KidG nm j ⟨kd', w, j, none⟩ := ⟨hkn2.symm, hw.symm, rfl, .inl rfl⟩
    have hq1 : KidG nm j ⟨kd', w, j, some (S "N-" ++ kd')⟩ := ⟨hkn2.symm, hw.symm, rfl, .inr (by rw [hkn2])⟩
    have step : ∀ (q : KidD) (y : Str) (σ₃ : Store), KidG nm j q → y = x ++ flatW (says q.ents) → σ₃ = upd σ₂ kd (.list (ks.map KidD.due ++ [q.due])) → ∀ l : Loc, (∀ p ∈ ([("text", .str y), ("kids", .ref kd), ("tape", .ref t), ("name", .str nm)] : Loc), p ∈ l) → ∃ l1 : Loc, (∀ p ∈ l1, p ∈ l) ∧ (∀ d ∈ ([] : List Addr), σ₃ d = σ₁ d) ∧ RK σ t kd n nm i vs l1 σ₃ := by
      rintro q y _ hq hy rfl l hl
      refine ⟨_, hl, by simp, ⟨⟨ks ++ [q], j + 1, by simp [h1], h10, h9, ?_, by rw [upd_self, List.map_append]; rfl, ?_, fun z p hz => ?_⟩, ?_⟩⟩
      · rw [hy, ← hx, ← flatW_app]
        simp [says]
      · exact hT2.ext ((Ext.refl [kd] σ₂).upd_in (by simp)) (by simpa using ntk.symm)
      · by_cases hzj : z < ks.length
        · rw [List.getElem?_append_left hzj] at hz; exact h7 z p hz
        · rw [List.getElem?_append_right (by lia)] at hz
          have : z - ks.length = 0 := by
            by_cases q0 : z - ks.length = 0
            · exact q0
            · rw [List.getElem?_eq_none (by simp; lia)] at hz; cases hz
          rw [this] at hz
          obtain rfl : q = p := by simpa using hz
          rw [show z = j by lia]
          exact hq
      · exact (h8.trans e2).upds ((Ext.refl [kd] σ₂).upd_in (List.mem_singleton.mpr rfl)) (by simpa using .inl hkd)
    have klen : (ks.map KidD.due).length ≤ 1000000 := by rw [List.length_map]; lia
    repeat k_caught0
    refine iteS (fun hb => ?_) fun hb => ?_
    · repeat k_caught0
      refine o_adds (by apply olT <;> repeat' (first | with_reducible assumption | with_reducible apply ol | exact Eq.refl true)) ?_
      repeat k_caught0
      refine o_adds (by apply olT <;> repeat' (first | with_reducible assumption | with_reducible apply ol | exact Eq.refl true)) ?_
      repeat k_caught0
      refine o_addsE (txt_88 ..) (by apply olT <;> repeat' (first | with_reducible assumption | with_reducible apply ol | exact Eq.refl true)) ?_
      generalize hy88 : y05 ++ flatW _ = y88
      repeat k_caught0
      refine o_adds (by apply olT <;> repeat' (first | with_reducible assumption | with_reducible apply ol | exact Eq.refl true)) ?_
      repeat k_caught0
      refine step ⟨kd', w, j, some (S "N-" ++ kd')⟩ y88 _ hq1 (by rw [← hy88, ← hy05, app_assoc, ← flatW_app]; rfl) rfl _ (by repeat' (first | exact ms_nil | refine ms_all ?_ ?_ | exact m0 | exact m1 | exact m2 | exact m3 | exact m4 | exact m5 | exact m6 | exact m7 | exact m8 | exact m9 | with_reducible exact ms_self | with_reducible refine ms_set (by decide) ?_ | with_reducible refine ms_s2 ?_ | with_reducible refine ms_s3 ?_))
    · repeat k_caught0
      refine step ⟨kd', w, j, none⟩ y05 _ hq0 (by rw [← hy05]; rfl) rfl _ (by repeat' (first | exact ms_nil | refine ms_all ?_ ?_ | exact m0 | exact m1 | exact m2 | exact m3 | exact m4 | exact m5 | exact m6 | exact m7 | exact m8 | exact m9 | with_reducible exact ms_self | with_reducible refine ms_set (by decide) ?_ | with_reducible refine ms_s2 ?_ | with_reducible refine ms_s3 ?_))
  · obtain ⟨⟨ks, j, h1, h2, h3, rfl, h5, h6, h7⟩, h8⟩ := J
    obtain ⟨g1, g2⟩ := kids_ents hN hm (by lia) h7
    have lt := txt_len g1
    rw [List.length_cons] at lt
    refine TSs.sub ?_ hs
    generalize hx : flatW (says (Ent.e01 nm :: ks.flatMap KidD.ents)) = x at lt ⊢
    have lt0 : x.length ≤ 12000 := by lia
    have klen : (ks.map KidD.due).length ≤ 1000 := by rw [List.length_map]; lia
    have fin0 : ∀ (n' : Nat) (σ₃ : Store), n ≤ n' → n' ≤ n + 6 → Tape σ₃ t n' → Ext [t] σ σ₃ → Q (.tup [.str x, .tup [.int 1, .str nm, .none, .tup [], .none, .tup (ks.map KidD.due)]]) σ₃ := fun n' σ₃ a1 a2 a3 a4 => by
      have := h ⟨nm, ks, none⟩ n' σ₃ ⟨rfl, by simpa [RecD.ents] using g1, by show (Ent.e01 nm :: (ks.flatMap KidD.ents ++ [])).length ≤ 6; rw [List.append_nil, List.length_cons]; lia⟩ a1 a2 a3 a4
      simpa [RecD.ents, RecD.due, hx] using this
    cases hks : ks with
    | nil =>
      subst hks
      repeat k_caught0
      refine e_lst rfl ?_
      repeat k_caught0
      refine o_nel (.inr ⟨_, rfl, h5⟩) (.inl rfl) (.inl ⟨rfl, by decide⟩) ?_
      refine iteF rfl ?_
      repeat k_caught0
      refine c_tuple (.inr ⟨_, rfl, h5⟩) (by simp) ?_
      repeat k_caught0
      exact fin0 _ σ₁ (by lia) (by lia) h6 h8
    | cons q0 qs =>
      have h5' := h5
      rw [hks] at h5'
      repeat k_caught0
      refine e_lst rfl ?_
      repeat k_caught0
      refine o_nel (.inr ⟨_, rfl, h5'⟩) (.inl rfl) (.inr (by simp)) ?_
      refine iteT (by simp) ?_
      repeat k_caught0
      refine c_draw T h6 (by lia) (m := 2) (by decide) fun d1 σ₂ hd1 hT2 e2 => ?_
      have hk2 := e2.get h5 (by simpa using ntk)
      repeat k_caught0
      refine iteS (fun hb => ?_) fun hb => ?_
      · have b1 : (Str.ofString "66 R-").length ≤ 60 := by decide +kernel
        have b2 : (Str.ofString " RENAMES ").length ≤ 60 := by decide +kernel
        have b3 : (Str.ofString " . ").length ≤ 60 := by decide +kernel
        have b4 : (Str.ofString " THROUGH ").length ≤ 60 := by decide +kernel
        have b5 : (Str.ofString "").length ≤ 60 := by decide +kernel
        have b6 : (Str.ofString "R-").length ≤ 60 := by decide +kernel
        obtain ⟨ql, init, hql⟩ : ∃ ql init, ks = init ++ [ql] := by
          rcases List.eq_nil_or_concat ks with z | ⟨init, ql, z⟩
          · rw [z] at hks; cases hks
          · exact ⟨ql, init, by rw [z, List.concat_eq_append]⟩
        have n0 : Nm0 q0.nm 60 := by
          have := h7 0 q0 (by rw [hks]; rfl)
          rw [this.en]
          exact (kid_name hN (by decide)).mono (by lia)
        have nl : Nm0 ql.nm 60 := by
          have := h7 init.length ql (by rw [hql]; simp)
          rw [this.en]
          refine (kid_name hN ?_).mono (by lia)
          have := congrArg List.length hql
          rw [List.length_append, List.length_singleton] at this
          lia
        have l0' := n0.len
        have ll := nl.len
        have a0 : At (ks.map KidD.due) 0 q0.due := ⟨by rw [hks]; rfl, by lia⟩
        have al : At (ks.map KidD.due) (-1) ql.due := by rw [hql, List.map_append]; exact at_last
        have nR : Nm0 (S "R-" ++ nm) 60 := (hN.front (x := S "R-") (j := 2) (c := 82) (r := [45]) (by decide +kernel) (by decide) (by decide) (by decide +kernel) (by decide +kernel)).mono (by lia)
        have finR : ∀ (rn : Str × Str × Option Str) (y : Str) (n' : Nat) (σ₃ : Store), EntG (rnEnt rn) → y = x ++ flatW (rnEnt rn).says → n ≤ n' → n' ≤ n + 6 → Tape σ₃ t n' → Ext [t] σ σ₃ → Q (.tup [.str y, .tup [.int 1, .str nm, .none, .tup [], .none, .tup (ks.map KidD.due ++ [rnDue rn])]]) σ₃ := fun rn y n' σ₃ eg hy a1 a2 a3 a4 => by
          have := h ⟨nm, ks, some rn⟩ n' σ₃ ⟨rfl, fun e he => ?_, by show (Ent.e01 nm :: (ks.flatMap KidD.ents ++ [rnEnt rn])).length ≤ 6; rw [List.length_cons, List.length_append, List.length_singleton]; lia⟩ a1 a2 a3 a4
          · have e1 : says (RecD.ents ⟨nm, ks, some rn⟩) = says (Ent.e01 nm :: ks.flatMap KidD.ents) ++ (rnEnt rn).says := by
              show says ((Ent.e01 nm :: ks.flatMap KidD.ents) ++ [rnEnt rn]) = _
              unfold says
              rw [List.flatMap_append]
              simp
            rw [e1, flatW_app, hx, ← hy] at this
            exact this
          · have he : e ∈ (Ent.e01 nm :: ks.flatMap KidD.ents) ++ [rnEnt rn] := he
            rcases List.mem_append.mp he with he | he
            · exact g1 e he
            · rw [List.mem_singleton.mp he]; exact eg
        repeat k_caught0
        refine c_draw T hT2 (by lia) (m := 2) (by decide) fun d2 σ₃ hd2 hT3 e3 => ?_
        have hk3 := e3.get hk2 (by simpa using ntk)
        repeat k_caught0
        refine iteS (fun hb => ?_) fun hb => ?_
        · repeat k_caught0
          refine i_tup (v := .str q0.nm) (fun _ _ => rfl) (by simp) ⟨rfl, by simp⟩ ?_
          repeat k_caught0
          refine i_tup (v := .str ql.nm) (fun _ _ => rfl) (by simp) ⟨rfl, by simp⟩ ?_
          repeat k_caught0
          refine o_adds (by apply olT <;> repeat' (first | with_reducible assumption | with_reducible apply ol | exact Eq.refl true)) ?_
          repeat k_caught0
          refine o_adds (by apply olT <;> repeat' (first | with_reducible assumption | with_reducible apply ol | exact Eq.refl true)) ?_
          repeat k_caught0
          refine o_adds (by apply olT <;> repeat' (first | with_reducible assumption | with_reducible apply ol | exact Eq.refl true)) ?_
          repeat k_caught0
          refine i_tup (v := .str q0.nm) (fun _ _ => rfl) (by simp) ⟨rfl, by simp⟩ ?_
          repeat k_caught0
          refine o_adds (by apply olT <;> repeat' (first | with_reducible assumption | with_reducible apply ol | exact Eq.refl true)) ?_
          repeat k_caught0
          refine i_tup (v := .str ql.nm) (fun _ _ => rfl) (by simp) ⟨rfl, by simp⟩ ?_
          repeat k_caught0
          refine i_tup (v := .str ql.nm) (fun _ _ => rfl) (by simp) ⟨rfl, by simp⟩ ?_
          repeat k_caught0
          refine o_adds (by apply olT <;> repeat' (first | with_reducible assumption | with_reducible apply ol | exact Eq.refl true)) ?_
          repeat k_caught0
          refine o_adds (by apply olT <;> repeat' (first | with_reducible assumption | with_reducible apply ol | exact Eq.refl true)) ?_
          repeat k_caught0
          refine o_addsE (txt_66b ..) (by apply olT <;> repeat' (first | with_reducible assumption | with_reducible apply ol | exact Eq.refl true)) ?_
          generalize hy66 : x ++ flatW _ = y66
          repeat k_caught0
          refine o_adds (by apply olT <;> repeat' (first | with_reducible assumption | with_reducible apply ol | exact Eq.refl true)) ?_
          repeat k_caught0
          refine c_tuple (.inr ⟨_, rfl, upd_self ..⟩) (by rw [List.length_append, List.length_singleton]; lia) ?_
          repeat k_caught0
          exact finR (S "R-" ++ nm, q0.nm, some ql.nm) y66 _ _ (entG_66 nR n0 (fun z hz => by cases hz; exact nl) (by decide)) hy66.symm (by lia) (by lia) (hT3.ext ((Ext.refl [kd] σ₃).upd_in (by simp)) (by simpa using ntk.symm)) (((h8.trans e2).trans e3).upds ((Ext.refl [kd] σ₃).upd_in (List.mem_singleton.mpr rfl)) (by simpa using .inl hkd))
        · repeat k_caught0
          refine i_tup (v := .str q0.nm) (fun _ _ => rfl) (by simp) ⟨rfl, by simp⟩ ?_
          repeat k_caught0
          refine o_adds (by apply olT <;> repeat' (first | with_reducible assumption | with_reducible apply ol | exact Eq.refl true)) ?_
          repeat k_caught0
          refine o_adds (by apply olT <;> repeat' (first | with_reducible assumption | with_reducible apply ol | exact Eq.refl true)) ?_
          repeat k_caught0
          refine o_adds (by apply olT <;> repeat' (first | with_reducible assumption | with_reducible apply ol | exact Eq.refl true)) ?_
          repeat k_caught0
          refine i_tup (v := .str q0.nm) (fun _ _ => rfl) (by simp) ⟨rfl, by simp⟩ ?_
          repeat k_caught0
          refine o_adds (by apply olT <;> repeat' (first | with_reducible assumption | with_reducible apply ol | exact Eq.refl true)) ?_
          repeat k_caught0
          refine i_tup (v := .none) (fun _ _ => rfl) (by simp) ⟨rfl, by simp⟩ ?_
          repeat k_caught0
          refine o_adds (by apply olT <;> repeat' (first | with_reducible assumption | with_reducible apply ol | exact Eq.refl true)) ?_
          repeat k_caught0
          refine o_addsE (txt_66a ..) (by apply olT <;> repeat' (first | with_reducible assumption | with_reducible apply ol | exact Eq.refl true)) ?_
          generalize hy66 : x ++ flatW _ = y66
          repeat k_caught0
          refine o_adds (by apply olT <;> repeat' (first | with_reducible assumption | with_reducible apply ol | exact Eq.refl true)) ?_
          repeat k_caught0
          refine c_tuple (.inr ⟨_, rfl, upd_self ..⟩) (by rw [List.length_append, List.length_singleton]; lia) ?_
          repeat k_caught0
          exact finR (S "R-" ++ nm, q0.nm, none) y66 _ _ (entG_66 nR n0 (fun z hz => by cases hz) (by decide)) hy66.symm (by lia) (by lia) (hT3.ext ((Ext.refl [kd] σ₃).upd_in (by simp)) (by simpa using ntk.symm)) (((h8.trans e2).trans e3).upds ((Ext.refl [kd] σ₃).upd_in (List.mem_singleton.mpr rfl)) (by simpa using .inl hkd))
      · repeat k_caught0
        refine c_tuple (.inr ⟨_, rfl, hk2⟩) (by lia) ?_
        repeat k_caught0
        exact fin0 _ σ₂ (by lia) (by lia) hT2 (h8.trans e2)
end
end
section
section
variable {k : Nat} {c : FC} {P : Post} {Q : V → Store → Prop} {X : Addr → Prop} {σ σ' : Store} {loc : Loc} {t : Addr} {n m : Nat}
noncomputable def recNm (lead : Str) (j : Nat) : Str := lead ++ Str.ofString (toString (j : Int))
theorem RecG.mono {nm : Str} {r : RecD} {m m' : Nat} (h : RecG nm m r) : RecG nm m' r := ⟨h.en, h.ents, h.len⟩
inductive RK2E (σ : Store) (t : Addr) (n : Nat) (lead : Str) (i : Nat) (rest : List V) (l0 : Loc) (σ₁ : Store) : Prop
  | mk (rs : List RecD) (j n' : Nat) (h1 : rs.length = j) (h2 : j ≤ i) (h3 : rest = (inRange 0 (i : Int)).drop j) (h4 : l0 = [("texts", .str (flatW (says (rs.flatMap RecD.ents)))), ("dues", .lst (rs.map RecD.due)), ("tape", .ref t), ("lead", .str lead)]) (h5 : n ≤ n') (h6 : n' ≤ n + 1 + j * 6) (h7 : Tape σ₁ t n') (h8 : ∀ x r, rs[x]? = some r → RecG (recNm lead x) 10 r)
structure RK2 (σ : Store) (t : Addr) (n : Nat) (lead : Str) (i : Nat) (rest : List V) (l0 : Loc) (σ₁ : Store) : Prop where
  ex : RK2E σ t n lead i rest l0 σ₁
  ext : Ext [t] σ σ₁
theorem recs_ents {lead : Str} {rs : List RecD} (h : ∀ (x : Nat) r, rs[x]? = some r → RecG (recNm lead x) 10 r) : (∀ e ∈ rs.flatMap RecD.ents, EntG e) ∧ (rs.flatMap RecD.ents).length ≤ rs.length * 6 := by
  have key : ∀ r ∈ rs, (∀ e ∈ r.ents, EntG e) ∧ r.ents.length ≤ 6 := fun r hr => by
    obtain ⟨x, hx⟩ := List.mem_iff_getElem?.mp hr
    exact ⟨(h x r hx).ents, (h x r hx).len⟩
  refine ⟨fun e he => ?_, ?_⟩
  · obtain ⟨r, hr, he⟩ := List.mem_flatMap.mp he
    exact (key r hr).1 e he
  · have : ∀ l : List RecD, (∀ r ∈ l, r.ents.length ≤ 6) → (l.flatMap RecD.ents).length ≤ l.length * 6 := fun l hl => by
      induction l with
      | nil => exact Nat.zero_le _
      | cons r l ih =>
        rw [List.flatMap_cons, List.length_append, List.length_cons]
        have := ih fun r hr => hl r (.tail _ hr)
        have := hl r (.head _)
        lia
    exact this rs fun r hr => (key r hr).2
set_option maxHeartbeats 4000000 in
theorem c_records (T : Top g) {lead : Str} (hT : Tape σ t n) (hn : n < 8000) (hN : ∀ j < 2, Nm0 (recNm lead j) 10) (hll : lead.length ≤ 10) (hm : 0 < m) (hm3 : m ≤ 3)
    (h : ∀ (rs : List RecD) (n' : Nat) σ', (∀ x r, rs[x]? = some r → RecG (recNm lead x) 10 r) → rs.length < m → n ≤ n' → n' ≤ n + 13 → Tape σ' t n' → Ext [t] σ σ' → Q (.tup [.str (flatW (says (rs.flatMap RecD.ents))), .lst (rs.map RecD.due)]) σ') : CV prog g (k + 3) (.ref 693) [.ref t, .str lead, .int m] Q X σ := by
  refine CF.cv (call__law_records_3 T fun c hsc hcl => ?_)
  conv => arg 6; whnf
  repeat k_caught0
  refine e_lst rfl ?_
  repeat k_caught0
  refine c_draw T hT (by lia) hm fun i σ1 hi hT1 e1 => ?_
  repeat k_caught0
  refine ⟨_, [], Src.rng T.ok (by decide) (by decide) (by lia) (by lia), ?_⟩
  refine forl_nameL (lk_of hsc rfl) (fun rest l s => RK2 σ t n lead i rest l s) (fun vs l s J => ?_) (fun v vs l0 σ₁ J => ?_) (fun l l0 σ₁ hs J => ?_) _ _ _ _ ⟨⟨[], 0, n + 1, rfl, Nat.zero_le _, rfl, rfl, by lia, by lia, hT1, by simp⟩, e1⟩ (by simp [says, flatW])
  · obtain ⟨⟨rs, j, n', h1, h2, h3, rfl, _⟩, _⟩ := J
    simp
  · obtain ⟨⟨rs, j, n', h1, h2, h3, rfl, h5, h6, h7, h8⟩, h9⟩ := J
    obtain ⟨rfl, h10, h11⟩ := drop_range h3
    obtain ⟨g1, g2⟩ := recs_ents h8
    have lt := txt_len g1
    generalize hx : flatW (says (rs.flatMap RecD.ents)) = x at lt
    have nj := hN j (by lia)
    have hj1 : (Str.ofString (toString (j : Int))).length ≤ 200 := (fig_j (show j < 2 by lia)).2.2.2
    repeat k_caught0
    refine c_str (by lia) (by lia) ?_
    repeat k_caught0
    refine o_adds (by lia) ?_
    repeat k_caught0
    refine c_record T h7 (by lia) nj (by decide) fun r n2 σ₂ rg a1 a2 hT2 e2 => ?_
    have lt2 := txt_len rg.ents
    have rl := rg.len
    generalize hx2 : flatW (says r.ents) = x2 at lt2
    repeat k_caught0
    refine o_adds (by lia) ?_
    repeat k_caught0
    refine e_lst rfl ?_
    repeat k_caught0
    refine o_addl (.inl rfl) (.inl rfl) (by simp; lia) ?_
    repeat k_caught0
    refine ⟨[("texts", .str (x ++ x2)), ("dues", .lst (rs.map RecD.due ++ [r.due])), ("tape", .ref t), ("lead", .str lead)], by simp, by simp, ⟨⟨rs ++ [r], j + 1, n2, by simp [h1], h11, h10, ?_, by lia, by lia, hT2, fun z q hz => ?_⟩, h9.trans e2⟩⟩
    · have e1 : says ((rs ++ [r]).flatMap RecD.ents) = says (rs.flatMap RecD.ents) ++ says r.ents := by
        unfold says
        rw [List.flatMap_append, List.flatMap_append]
        simp
      rw [e1, flatW_app, hx, hx2, List.map_append]; rfl
    · by_cases hzj : z < rs.length
      · rw [List.getElem?_append_left hzj] at hz; exact h8 z q hz
      · rw [List.getElem?_append_right (by lia)] at hz
        have : z - rs.length = 0 := by
          by_cases q0 : z - rs.length = 0
          · exact q0
          · rw [List.getElem?_eq_none (by simp; lia)] at hz; cases hz
        rw [this] at hz
        obtain rfl : r = q := by simpa using hz
        rw [show z = j by lia]
        exact rg
  · obtain ⟨⟨rs, j, n', h1, h2, h3, rfl, h5, h6, h7, h8⟩, h9⟩ := J
    refine TSs.sub ?_ hs
    repeat k_caught0
    exact h rs n' σ₁ h8 (by lia) h5 (by lia) h7 h9
end
end
section
noncomputable def pick (R : V → V → Prop) (w : V) : Option V := open Classical in if h : ∃ v, R w v then some (Classical.choose h) else none
theorem pick_of {R : V → V → Prop} (fn : ∀ w v v', R w v → R w v' → v = v') {w v : V} (h : R w v) : pick R w = some v := by
  unfold pick
  rw [dif_pos ⟨v, h⟩]
  exact congrArg some (fn w _ _ (Classical.choose_spec (⟨v, h⟩ : ∃ v, R w v)) h)
theorem pick_all {R : V → V → Prop} (fn : ∀ w v v', R w v → R w v' → v = v') : ∀ {ks vs : List V}, All2 R ks vs → ks.filterMap (pick R) = vs
  | [], [], _ => rfl
  | w :: ks, v :: vs, h => by rw [List.filterMap_cons_some (pick_of fn h.1), pick_all fn h.2]
  | [], _ :: _, h => h.elim
  | _ :: _, [], h => h.elim
theorem all2_rel {R : V → V → Prop} : ∀ {ks vs : List V}, All2 R ks vs → ∀ w ∈ ks, ∃ v, R w v
  | w :: ks, v :: vs, h, x, hx => by
    rcases List.mem_cons.mp hx with rfl | hx
    · exact ⟨v, h.1⟩
    · exact all2_rel h.2 x hx
  | [], _, _, _, hx => nomatch hx
theorem named_fn {σ : Store} (w v v' : V) (h : NamedAt σ w v) (h' : NamedAt σ w v') : v = v' := by
  obtain ⟨na, dn, nm, rows, rfl, h1, rfl⟩ := h
  obtain ⟨na', dn', nm', rows', e, h1', rfl⟩ := h'
  cases e
  rw [h1] at h1'
  cases h1'
  rfl
theorem all2_fn {R : V → V → Prop} (fn : ∀ w v v', R w v → R w v' → v = v') : ∀ {ks vs ws : List V}, All2 R ks vs → All2 R ks ws → vs = ws
  | [], [], [], _, _ => rfl
  | w :: ks, v :: vs, v' :: ws, h, h' => by rw [fn w v v' h.1 h'.1, all2_fn fn h.2 h'.2]
  | [], _ :: _, _, h, _ => h.elim
  | [], [], _ :: _, _, h => h.elim
  | _ :: _, [], _, h, _ => h.elim
  | _ :: _, _ :: _, [], _, h => h.elim
noncomputable def SeenR (z : Addr) (σ : Store) (n : Nat) (w v : V) : Prop := ∃ b, w = .ref b ∧ SeenAt z σ n b v
theorem itF_at {a b : List (String × V)} (e : a = b) (i : Nat) : (a[i]?.map (·.2)) = (b[i]?.map (·.2)) := e ▸ rfl
theorem itF_inj {lv lv' : Int} {nm nm' : Str} {val c p ren val' c' p' ren' : V} {k k' : Addr} (e : itF lv nm val c k p ren = itF lv' nm' val' c' k' p' ren') : lv = lv' ∧ nm = nm' ∧ val = val' ∧ c = c' ∧ k = k' ∧ ren = ren' := by
  exact ⟨V.int.inj (Option.some.inj (itF_at e 0)), V.str.inj (Option.some.inj (itF_at e 1)), Option.some.inj (itF_at e 8), Option.some.inj (itF_at e 11), V.ref.inj (Option.some.inj (itF_at e 12)), Option.some.inj (itF_at e 14)⟩
theorem seen_fn {σ : Store} {z : Addr} : ∀ (n : Nat) (a : Addr) (v v' : V), SeenAt z σ n a v → SeenAt z σ n a v' → v = v' := by
  intro n
  induction n with
  | zero =>
    intro _ _ _ h _
    exact h.elim
  | succ n ih =>
    intro a v v' h h'
    obtain ⟨d, lv, nm, val, c, k, p, ren, cs, ks, ts, vs, h1, h2, h3, _, _, h6, h7, _, _, _, _, h8⟩ := h
    obtain ⟨d', lv', nm', val', c', k', p', ren', cs', ks', ts', vs', g1, g2, g3, _, _, g6, g7, _, _, _, _, g8⟩ := h'
    obtain ⟨e1, e2, e3, e4, e5, e6⟩ := itF_inj (O.inst.inj (Option.some.inj (h1.symm.trans g1))).2.2
    have ec : cs = cs' := O.list.inj (Option.some.inj (h2.symm.trans ((congrArg σ (V.ref.inj e4)).trans g2)))
    have ek : ks = ks' := O.list.inj (Option.some.inj (h3.symm.trans ((congrArg σ e5).trans g3)))
    have f1 : ts = ts' := all2_fn named_fn h6 (ec ▸ g6)
    have f2 : vs = vs' := all2_fn (R := SeenR z σ n) (fun w v v' ⟨b, e, x⟩ ⟨b', e', x'⟩ => ih b v v' x (V.ref.inj (e'.symm.trans e) ▸ x')) h7 (ek ▸ g7)
    rw [h8, g8, e1, e2, e3, e6, f1, f2]
section
variable {k : Nat} {c : FC} {P : Post} {Q : V → Store → Prop} {X : Addr → Prop} {σ σ' : Store} {loc : Loc}
theorem NamedAt.same {w v : V} (h : NamedAt σ w v) (s : Same σ σ') : NamedAt σ' w v := h.ext (z := 0) (Ext.of_same (D := []) s) (fun _ hd => nomatch hd)
theorem SeenAt.same {z a : Addr} {n : Nat} {v : V} (h : SeenAt z σ n a v) (s : Same σ σ') : SeenAt z σ' n a v := h.ext (Ext.of_same (D := []) s) (fun _ hd => nomatch hd)
theorem c_told_named (T : Top g) {w v : V} (hN : NamedAt σ w v) (h : Q v σ) : CV prog g (k + 1) (.ref 138) [w] Q X σ := by
  obtain ⟨na, dn, nm, rows, rfl, h1, rfl⟩ := hN
  refine CF.cv (call_Named_told_1 T fun c hsc hcl => ?_)
  conv => arg 6; whnf
  repeat k_caught0
  exact h
set_option maxHeartbeats 1000000 in
theorem c_seen (T : Top g) {z : Addr} : ∀ (n : Nat) {a : Addr} {v : V} {σ : Store} {Q : V → Store → Prop} {X : Addr → Prop}, SeenAt z σ n a v → (∀ σ', Same σ σ' → Q v σ') → CV prog g (k + 2 + n) (.ref 698) [.ref a] Q X σ := by
  intro n
  induction n with
  | zero =>
    intro _ _ _ _ _ h _
    exact h.elim
  | succ n ih =>
    intro a v σ Q X hs h
    obtain ⟨d, lv, nm, val, ca, ka, p, ren, cs, ks, ts, vs, h1, h2, h3, h4, h5, h6, h7, h8, h9, nb1, nb2, hv⟩ := hs
    subst hv
    rw [show k + 2 + (n + 1) = (k + n + 2) + 1 by lia]
    refine CF.cv (call__law_seen_1 T fun c hsc hcl => ?_)
    conv => arg 6; whnf
    repeat k_caught0
    refine e_comp T.ok (compOk0 (by rfl) rfl rfl) ?_ (by intro _ _; rfl)
    repeat k_caught0
    refine ⟨_, [ca], pick (NamedAt σ), Src.ref T.ok h2, by simp [h2], by lia, fun C w σ₂ hw sm => ?_, fun σ₂ sm => ?_⟩
    · obtain ⟨t, ht⟩ := all2_rel h6 w hw
      have ht2 := ht.same sm
      obtain ⟨na, dn, nm', rows, rfl, hna, rfl⟩ := id ht2
      refine turn0 fun c' hsc' _ => te_set .nil ?_
      repeat k_caught0
      refine c_told_named T ht2 ?_
      exact ⟨pick_of named_fn ht, Same.refl _⟩
    · rw [pick_all named_fn h6]
      refine c_tuple (.inl rfl) (by have := h6.length; lia) ?_
      have h1' := sm.get h1
      have h3' := sm.get h3
      repeat k_caught0
      refine o_attr T.ok h1' rfl (ga_of T (by kernel_rfl)) nb1 ?_
      repeat k_caught0
      refine o_attr T.ok h1' rfl (ga_of T (by kernel_rfl)) nb2 ?_
      repeat k_caught0
      refine e_comp T.ok (compOk0 (by rfl) rfl rfl) ?_ (by intro _ _; rfl)
      repeat k_caught0
      refine ⟨_, [ka], pick (SeenR z σ n), Src.ref T.ok h3', by simp [h3'], by lia, fun C w σ₃ hw sm2 => ?_, fun σ₃ sm2 => ?_⟩
      · obtain ⟨t, ht⟩ := all2_rel (R := SeenR z σ n) h7 w hw
        have hp := pick_of (R := SeenR z σ n) (fun w v v' ⟨b, e, x⟩ ⟨b', e', x'⟩ => by rw [e] at e'; cases e'; exact seen_fn n b v v' x x') ht
        obtain ⟨b, rfl, hb⟩ := ht
        refine turn0 fun c' hsc' _ => te_set .nil ?_
        repeat k_caught0
        have ih := ih (σ := σ₃) (Q := fun w' σ' => pick (SeenR z σ n) (.ref b) = some w' ∧ Same σ₃ σ') (X := fun _ => False) ((hb.same sm).same sm2) fun σ' s' => ⟨hp, s'⟩
        rw [show k + 2 + n = k + n + 2 by lia] at ih
        exact ih
      · rw [pick_all (R := SeenR z σ n) (fun w v v' ⟨b, e, x⟩ ⟨b', e', x'⟩ => by rw [e] at e'; cases e'; exact seen_fn n b v v' x x') h7]
        repeat k_caught0
        refine c_tuple (.inl rfl) (by have := h7.length; lia) ?_
        repeat k_caught0
        exact h _ (sm.trans sm2)
end
end
section
section
variable {k : Nat} {c : FC} {P : Post} {Q : V → Store → Prop} {X : Addr → Prop} {σ σ' : Store} {loc : Loc}
theorem compOk1 {scope : Scope} {x y : String} {a : Addr} (hcl : c.cl = [(Str.ofString y, a)]) (clos : ∀ c' : FC, c'.cl = [(Str.ofString y, a)] → closureFor scope c'.env = pure [(Str.ofString y, a)])
    (h : (scope.names.all fun z => decide (z.2 ≠ .cell ∧ (z.2 = .local → scope.names.lookup z.1 = some .local))) = true)
    (hk : scope.kind = .function) (hx : scope.names.lookup (Str.ofString x) = some .local) : CompOk c scope [(Str.ofString y, a)] x loc [] := by
  have key : ∀ z ∈ scope.names, z.2 ≠ .cell ∧ (z.2 = .local → scope.names.lookup z.1 = some .local) := fun z hz => of_decide_eq_true (List.all_eq_true.mp h z hz)
  exact ⟨clos c hcl, fun y hy => (key y hy).1, hk, fun y hy => (key y hy).2, hx, fun p hp => by rw [hcl]; exact hp, fun _ _ hm => nomatch hm⟩
theorem c_told_empty (T : Top g) {da d w l f s ix : Addr} (D : DataAt σ da d w l f s ix [] [] [] []) (h : ∀ σ', Same σ σ' → Q (.tup [.tup [], .tup [], .tup []]) σ') : CV prog g (k + 1) (.ref 211) [.ref da] Q X σ := by
  refine CF.cv (c_fnC T (fn_Data_told T) (ps := ["self"]) (ws := [.ref da]) (fun s us I r => ?_) (fun n => by rfl) (by decide +kernel) (by decide) fun c hsc hcl => ?_)
  · obtain ⟨u0, us, rfl, r0, q0⟩ := r.cons'
    obtain rfl := q0.nil'
    exact ⟨[u0], binds_of T I fun S => by rfl, VRs.cons'' (r0) (VRs0)⟩
  have hcl : c.cl = [(Str.ofString "self", c.L + 1)] := hcl.trans (by kernel_rfl)
  have hsc : c.sc = s_Data_told := hsc
  obtain ⟨h1, h2, h3, ⟨nf, h4⟩, h5, h6, h7⟩ := D
  conv => arg 6; whnf
  repeat k_caught0
  refine e_comp T.ok (compOk1 hcl (fun c' h' => by obtain ⟨_, _, _, _, _, _, _⟩ := c'; subst h'; kernel_rfl) (by rfl) rfl rfl) ?_ (by intro _ _; rfl)
  repeat k_caught0
  refine ⟨_, [f], fun _ => none, Src.dict T.ok T.hb h4, by simp [h4], by simp, fun C w σ₂ hw sm => (nomatch hw), fun σ₂ sm => ?_⟩
  refine tes_nil ?_
  refine c_tuple (.inl rfl) (by simp) ?_
  have h1' := sm.get h1
  have h2' := sm.get h2
  have h3' := sm.get h3
  repeat k_caught0
  refine e_comp T.ok (compOk0 (by rfl) rfl rfl) ?_ (by intro _ _; rfl)
  repeat k_caught0
  refine ⟨_, [w], fun _ => none, Src.ref T.ok h2', by simp [h2'], by simp, fun C w σ₂ hw sm => (nomatch hw), fun σ₃ sm3 => ?_⟩
  refine tes_nil ?_
  refine c_tuple (.inl rfl) (by simp) ?_
  have h1'' := sm3.get h1'
  have h3'' := sm3.get h3'
  repeat k_caught0
  refine e_comp T.ok (compOk0 (by rfl) rfl rfl) ?_ (by intro _ _; rfl)
  repeat k_caught0
  refine ⟨_, [l], fun _ => none, Src.ref T.ok h3'', by simp [h3''], by simp, fun C w σ₂ hw sm => (nomatch hw), fun σ₄ sm4 => ?_⟩
  refine tes_nil ?_
  refine c_tuple (.inl rfl) (by simp) ?_
  repeat k_caught0
  exact h _ ((sm.trans sm3).trans sm4)
theorem c_read_none (T : Top g) {r : Addr} {R : RdA} {n : Nat} {p : Tk} {rest : List Tk} (hR : RD σ r R n (p :: rest)) (h1 : (p.2.2 == S "DATA") = false) (h : ∀ da d w l f s ix σ', DataAt σ' da d w l f s ix [] [] [] [] → Same σ σ' → Q (.ref da) σ') : CV prog g (k + 8) (.ref 393) [.ref r] Q X σ := by
  refine CF.cv (call_read_data_1 T fun c hsc hcl => ?_)
  conv => arg 6; whnf
  refine ss_cons ?_
  refine s_assign (lk_of hsc rfl) ?_ (by intro _; rfl)
  repeat k_caught0
  refine c_Data T fun da d w l f s ix σ1 D1 fda fw fl ff fsa x1 => ?_
  have hR1 := hR.same x1
  repeat k_caught0
  refine c_head_no T hR1 (by decide +kernel) sp_dd (by decide) (by show (p.2.1 == sWord && p.2.2 == S "DATA") = false; rw [h1, Bool.and_false]) ?_
  repeat k_caught0
  exact h da d w l f s ix σ1 D1 x1
end
end
section
section
variable {k : Nat} {c : FC} {P : Post} {Q : V → Store → Prop} {X : Addr → Prop} {σ σ' : Store} {loc : Loc} {r : Addr} {R : RdA} {n : Nat} {rest : List Tk}
theorem c_read_from (T : Top g) {wt : List (Str × Str)} (hR : RD σ r R n rest) (hw : rest.map (·.2) = headW (S "DATA") (S "DIVISION") ++ wt)
    (h : ∀ (c : FC) da σ', c.sc = s_read_data → St σ σ' r R da [] [] [] wt → TSs prog g (k + 13) c (l2 da r) (b_read_data.drop 2) ⟨fun _ σ' => Q .none σ', Q, fun _ _ => False⟩ X σ') : CV prog g (k + 14) (.ref 393) [.ref r] Q X σ := by
  refine CF.cv (call_read_data_1 T fun c hsc hcl => ?_)
  obtain ⟨p1, ts, rfl, i1, hw⟩ := says_cons hw
  obtain ⟨p2, ts, rfl, i2, hw⟩ := says_cons hw
  obtain ⟨p3, ts, rfl, i3, hw⟩ := says_cons hw
  conv => arg 6; whnf
  refine ss_cons ?_
  refine s_assign (lk_of hsc rfl) ?_ (by intro _; rfl)
  repeat k_caught0
  refine c_Data T fun da d w l f s ix σ1 D1 fda fw fl ff fsa x1 => ?_
  have hR1 := hR.same x1
  repeat k_caught0
  refine c_head_yes T hR1 (by decide +kernel) sp_dd i1 i2 i3 fun σ2 hR2 e2 => ?_
  have S2 : St σ σ2 r R da [] [] [] wt := ⟨⟨d, w, l, f, s, ix, [], [], [], ts, _, hR2, hw, D1.ext e2 (D1.rd hR1), trivial, trivial, trivial, ff, fsa⟩, (Ext.of_same x1).trans e2, fda⟩
  refine u_bool (iteF rfl (ss_nil ?_))
  exact h c da σ2 hsc S2
theorem tail_bad (T : Top g) (hsc : c.sc = s_read_data) {da : Addr} {p : Tk} {ts : List Tk} {m : Nat} (hR : RD σ r R m (p :: ts)) (hp : (p.2.2 == S "PROCEDURE") = false) (hX : X 84) : TSs prog g (k + 13) c (l2 da r) (b_read_data.drop 5) P X σ := by
  unfold l2
  conv => arg 6; whnf
  repeat k_caught0
  refine iteT rfl ?_
  repeat k_caught0
  refine iteT (by rw [sp_pd, pWords_no (show pWd (p :: ts) 0 sWord (S "PROCEDURE") = false by show (p.2.1 == sWord && p.2.2 == S "PROCEDURE") = false; rw [hp, Bool.and_false])]; rfl) ?_
  repeat k_caught0
  intro e d σ1 _ he _
  repeat k_caught0
  exact ⟨e, _, rfl, he, hX⟩
theorem bad1 (T : Top g) (hR : RD σ r R n rest) (hw : rest.map (·.2) = [(sWord, S "DATA"), (sWord, S "DIVISION")]) (hX : X 84) : CV prog g (k + 14) (.ref 393) [.ref r] Q X σ := by
  refine CF.cv (call_read_data_1 T fun c hsc hcl => ?_)
  obtain ⟨p1, ts, rfl, i1, hw⟩ := says_cons hw
  obtain ⟨p2, ts, rfl, i2, hw⟩ := says_cons hw
  obtain rfl := says_nil hw
  conv => arg 6; whnf
  refine ss_cons ?_
  refine s_assign (lk_of hsc rfl) ?_ (by intro _; rfl)
  repeat k_caught0
  refine c_Data T fun da d w l f s ix σ1 D1 fda fw fl ff fsa x1 => ?_
  have hR1 := hR.same x1
  repeat k_caught0
  exact c_head_bad T hR1 (by decide +kernel) sp_dd i1 i2 hX
theorem c_file_raise (T : Top g) {da d w l f s ix : Addr} {ws ls : List V} {kvs : List (Str × V)} {ss : List V} {pn pd : Tk} {rem ts rest' : List Tk} {ds : List RecD} {srt : Bool} (hR : RD σ r R n (pn :: (rem ++ pd :: (ts ++ rest')))) (hS : Short R) (hn1 : pn.2.1 = sWord) (hn2 : isRes pn.2.2 = false)
    (hrem : ∀ p ∈ rem, (p.2.1 == sSign) = false) (hd : Is pd sSign (Str.ofString ".")) (hw : ts.map (·.2) = (ds.flatMap RecD.ents).flatMap Ent.words) (hok : ∀ e ∈ ds.flatMap RecD.ents, e.Ok) (hend : pKind rest' 0 sNum = false) (hlen : (ds.flatMap RecD.ents).length ≤ 400)
    (D : DataAt σ da d w l f s ix ws ls kvs ss) (hbad : ds = [] ∨ (dget kvs pn.2.2).isSome = true) (hX : X 84) :
    CV prog g (k + 12) (.ref 379) [.ref r, .ref da, .bool srt] Q X σ := by
  refine CF.cv (call_read_file_entry_3 T fun c hsc hcl => ?_)
  conv => arg 6; whnf
  repeat k_caught0
  intro pl pld σ0 hpl hpld sm0
  have npl : pl ∉ [r] := fun m => by rw [List.mem_singleton.mp m, hR.self] at hpl; cases hpl
  have hR0 := hR.same sm0
  repeat k_caught0
  refine c_name T hR0 hS (by rw [pName_word hn1 hn2]; rfl) fun σ1 hR1 e1 => ?_
  have e01 := (Ext.of_same (D := [r]) sm0).trans e1
  have hpl1 := e1.get hpld npl
  repeat k_caught0
  refine s_whileL [("name", .str pn.2.2), ("place", .ref pl), ("reader", .ref r), ("data", .ref da), ("is_sort", .bool srt)] (fun j σ₁ => RemS σ σ₁ r R (n + 1 + rem.length) (pd :: (ts ++ rest')) j ∧ σ₁ pl = some (.exc 84 (some pld))) rem.length ⟨⟨⟨rem, _, rfl, hrem, hR1, rfl⟩, e01⟩, hpl1⟩ (by simp) ?_
  rintro j σ2 ⟨⟨⟨rem2, m, rfl, hrem2, hR2, hm⟩, e2⟩, hpl2⟩
  cases rem2 with
  | cons p rem2 =>
    repeat k_caught0
    refine c_skip_sign T hR2 (fun z => by rw [List.cons_append, pWd_kind rfl (hrem2 p (.head _))] at z; cases z) fun _ => ?_
    repeat k_caught0
    refine iteF rfl ?_
    repeat k_caught0
    refine c_take T hR2 fun σ3 hR3 e3 => ?_
    repeat k_caught0
    exact ⟨rem2.length, by simp, by simp, ⟨⟨rem2, m + 1, rfl, fun q hq => hrem2 q (.tail _ hq), hR3, by rw [← hm, List.length_cons]; lia⟩, e2.trans e3⟩, e3.get hpl2 npl⟩
  | nil =>
    repeat k_caught0
    refine c_skip_sign T hR2 (fun _ σ3 hR3 e3 => ?_) fun z => by rw [List.nil_append, pWd_is hd (b := true) (by simp)] at z; cases z
    have hpl3 := e3.get hpl2 npl
    have e23 := e2.trans e3
    have D3 := D.ext e23 (D.rd hR)
    have hR3 : RD σ3 r R (m + 1) (ts ++ rest') := hR3
    repeat k_caught0
    intro lo hs
    refine TSs.sub ?_ hs
    repeat k_caught0
    refine c_read_entries T hR3 hS hw hok hend hlen (z := s) (by rw [D3.sort]; exact (nomatch ·)) fun rr ras σ4 hR4 e4 frr hrr hras => ?_
    have D4 := D3.ext e4 (D3.rd hR3)
    have hpl4 := e4.get hpl3 npl
    obtain ⟨nf, hf4⟩ := D4.file
    have hda4 := D4.self
    repeat k_caught0
    refine o_ind T.ok T.hb (.inr ⟨nf, hf4⟩) ?_
    repeat k_caught0
    cases hg : (dget kvs pn.2.2).isSome with
    | true =>
      refine iteT rfl ?_
      repeat k_caught0
      exact ⟨pl, _, rfl, hpl4, hX⟩
    | false =>
      refine iteF rfl ?_
      rw [hg] at hbad
      have hds : ds = [] := hbad.elim id fun z => nomatch z
      have hras : ras = [] := by
        have := hras.length
        rw [hds] at this
        exact List.eq_nil_of_length_eq_zero this
      subst hras
      repeat k_caught0
      refine e_lst rfl ?_
      repeat k_caught0
      refine o_eql (.inr ⟨_, rfl, hrr⟩) (.inl rfl) (.inl ⟨rfl, by decide⟩) ?_
      repeat k_caught0
      exact ⟨pl, _, rfl, hpl4, hX⟩
theorem c_file_nodot (T : Top g) {da : Addr} {pn : Tk} {rem : List Tk} {srt : Bool} (hR : RD σ r R n (pn :: rem)) (hS : Short R) (hn1 : pn.2.1 = sWord) (hn2 : isRes pn.2.2 = false) (hrem : ∀ p ∈ rem, (p.2.1 == sSign) = false) (hX : X 84) :
    CV prog g (k + 12) (.ref 379) [.ref r, .ref da, .bool srt] Q X σ := by
  refine CF.cv (call_read_file_entry_3 T fun c hsc hcl => ?_)
  conv => arg 6; whnf
  repeat k_caught0
  intro pl pld σ0 hpl hpld sm0
  have hR0 := hR.same sm0
  repeat k_caught0
  refine c_name T hR0 hS (by rw [pName_word hn1 hn2]; rfl) fun σ1 hR1 e1 => ?_
  have e01 := (Ext.of_same (D := [r]) sm0).trans e1
  repeat k_caught0
  refine s_whileL [("name", .str pn.2.2), ("place", .ref pl), ("reader", .ref r), ("data", .ref da), ("is_sort", .bool srt)] (fun j σ₁ => RemS σ σ₁ r R (n + 1 + rem.length) [] j) rem.length ⟨⟨rem, _, rfl, hrem, by rw [List.append_nil]; exact hR1, rfl⟩, e01⟩ (by simp) ?_
  rintro j σ2 ⟨⟨rem2, m, rfl, hrem2, hR2, hm⟩, e2⟩
  rw [List.append_nil] at hR2
  cases rem2 with
  | cons p rem2 =>
    repeat k_caught0
    refine c_skip_sign T hR2 (fun z => by rw [pWd_kind rfl (hrem2 p (.head _))] at z; cases z) fun _ => ?_
    repeat k_caught0
    refine iteF rfl ?_
    repeat k_caught0
    refine c_take T hR2 fun σ3 hR3 e3 => ?_
    repeat k_caught0
    exact ⟨rem2.length, by simp, by simp, ⟨rem2, m + 1, rfl, fun q hq => hrem2 q (.tail _ hq), by rw [List.append_nil]; exact hR3, by rw [← hm, List.length_cons]; lia⟩, e2.trans e3⟩
  | nil =>
    repeat k_caught0
    refine c_skip_sign T hR2 (fun z => by cases z) fun _ => ?_
    repeat k_caught0
    intro e d σ3 _ he _
    repeat k_caught0
    exact ⟨e, _, rfl, he, hX⟩
noncomputable abbrev wFS : List (Str × Str) := headW (S "FILE") (S "SECTION")
noncomputable abbrev wLS : List (Str × Str) := headW (S "LINKAGE") (S "SECTION")
noncomputable abbrev wWS : List (Str × Str) := headW (S "WORKING-STORAGE") (S "SECTION")
noncomputable abbrev wDD : List (Str × Str) := headW (S "DATA") (S "DIVISION")
theorem no_head {ts : List Tk} {wt : List (Str × Str)} {p : Str × Str} (hw : ts.map (·.2) = p :: wt) {x : Str} (h : (p.2 == x) = false) : pWd ts 0 sWord x = false := by
  rw [pWd_says hw]
  show (p.1 == sWord && p.2 == x) = false
  rw [h, Bool.and_false]
theorem bad2 (T : Top g) (hR : RD σ r R n rest) (hS : Short R) (hw : rest.map (·.2) = wDD ++ (wLS ++ wWS)) (hX : X 84) : CV prog g (k + 14) (.ref 393) [.ref r] Q X σ := by
  refine c_read_from T hR hw fun c da σ2 hsc S2 => ?_
  refine ss_cons (st_file T hsc hR hS (o := none) (wt := wLS ++ wWS) (fun _ z => nomatch z) ⟨rfl, by decide +kernel, by decide +kernel⟩ (fun _ p ws e => by cases e; decide +kernel) S2 fun lo σ3 hs S3 => ?_)
  refine TSs.sub ?_ hs
  refine ss_cons (st_work T hsc hR hS (o := none) (wt := wLS ++ wWS) (fun _ z => nomatch z) (rfl : sWord = sWord) (fun _ p ws e => by cases e; decide +kernel) S3 fun lo σ4 hs S4 => ?_)
  refine TSs.sub ?_ hs
  refine ss_cons (st_link T hsc hR hS (o := some []) (wt := wWS) (fun ds z => by cases z; exact ⟨by simp, by simp⟩) (rfl : sWord = sWord) (fun z => nomatch z) S4 fun lo σ5 hs S5 => ?_)
  refine TSs.sub ?_ hs
  obtain ⟨⟨d, w, l, f, s, ix, was, las, kvs, ts5, m, hR5, hw5, _⟩, _, _⟩ := S5
  obtain ⟨p1, ts, rfl, i1, hw5⟩ := says_cons hw5
  exact tail_bad T hsc hR5 (by rw [i1.2]; decide +kernel) hX
theorem bad6 (T : Top g) (hR : RD σ r R n rest) (hS : Short R) (hw : rest.map (·.2) = wDD ++ [(sNum, S "01"), (sWord, S "A"), (sSign, S ".")]) (hX : X 84) : CV prog g (k + 14) (.ref 393) [.ref r] Q X σ := by
  refine c_read_from T hR hw fun c da σ2 hsc S2 => ?_
  obtain ⟨⟨d, w, l, f, s, ix, was, las, kvs, ts, m, hR1, hw1, D1, _⟩, e1, fda⟩ := S2
  obtain ⟨p1, ts, rfl, i1, hw5⟩ := says_cons hw1
  have q := tail_bad (prog := prog) (k := k) (c := c) (P := ⟨fun _ σ' => Q .none σ', Q, fun _ _ => False⟩) (da := da) T hsc hR1 (by rw [i1.2]; decide +kernel) hX
  unfold l2 at q ⊢
  conv => arg 6; whnf
  repeat k_caught0
  refine c_head_no T hR1 (by decide +kernel) sp_fs (by decide) (no_head hw1 (by decide +kernel)) ?_
  repeat k_caught0
  refine c_head_no T hR1 (by decide +kernel) sp_ws (by decide) (no_head hw1 (by decide +kernel)) ?_
  repeat k_caught0
  refine c_head_no T hR1 (by decide +kernel) sp_ls (by decide) (no_head hw1 (by decide +kernel)) ?_
  refine u_bool (iteF rfl (ss_nil ?_))
  exact q
theorem in_files (T : Top g) (hsc : c.sc = s_read_data) {da : Addr} {wt : List (Str × Str)} (S2 : St σ σ' r R da [] [] [] (wFS ++ wt)) (h : ∀ P σ₂, St σ σ₂ r R da [] [] [] wt → TS prog g (k + 13) c (l2 da r) dwhile P X σ₂) :
    TS prog g (k + 13) c (l2 da r) (dst 2) P X σ' := by
  obtain ⟨⟨d, w, l, f, s, ix, was, las, kvs, ts, m, hR1, hw1, D1, hk, hwa, hla, ff, fsa⟩, e1, fda⟩ := S2
  unfold l2 at h ⊢
  conv => arg 6; whnf
  obtain ⟨p1, ts, rfl, i1, hw1⟩ := says_cons hw1
  obtain ⟨p2, ts, rfl, i2, hw1⟩ := says_cons hw1
  obtain ⟨p3, ts, rfl, i3, hw1⟩ := says_cons hw1
  repeat k_caught0
  refine c_head_yes T hR1 (by decide +kernel) sp_fs i1 i2 i3 fun σ2 hR2 e2 => ?_
  refine u_bool (iteT rfl ?_)
  exact ss_cons (h _ σ2 ⟨⟨d, w, l, f, s, ix, was, las, kvs, ts, _, hR2, hw1, D1.ext e2 (D1.rd hR1), hk.imp fun _ _ _ x => x.ext e2 (noR hR1), hwa.imp fun _ _ _ x => x.ext e2 (noR hR1), hla.imp fun _ _ _ x => x.ext e2 (noR hR1), ff, fsa⟩, e1.trans e2, fda⟩)
theorem fd_yes {p : Tk} {ts : List Tk} {b : Bool} (h : Is p sWord (if b then S "SD" else S "FD")) : (pWd (p :: ts) 0 sWord (Str.ofString "FD") || pWd (p :: ts) 0 sWord (Str.ofString "SD")) = true ∧ (p.2.2 == Str.ofString "SD") = b := by
  have hsd : (p.2.2 == Str.ofString "SD") = b := by
    rw [h.2]
    cases b <;> decide +kernel
  refine ⟨?_, hsd⟩
  rw [pWd_word h.1 rfl, pWd_word h.1 hsd, h.2]
  cases b <;> decide +kernel
theorem wh_file (T : Top g) (hsc : c.sc = s_read_data) (hS : Short R) {da : Addr} {wt : List (Str × Str)} (S2 : St σ σ' r R da [] [] [] ((sWord, S "FD") :: (sWord, S "F") :: wt))
    (hb : ∀ σ₂ (m : Nat) (p1 : Tk) (ts : List Tk) d w l f s ix, RD σ₂ r R m (p1 :: ts) → Is p1 sWord (S "F") → ts.map (·.2) = wt → DataAt σ₂ da d w l f s ix [] [] [] [] → CV prog g (k + 12 + 1) (.ref 379) [.ref r, .ref da, .bool false] (fun _ _ => False) X σ₂) : TS prog g (k + 13) c (l2 da r) dwhile P X σ' := by
  obtain ⟨⟨d, w, l, f, s, ix, was, las, kvs, ts, m, hR1, hw1, D1, hk, hwa, hla, ff, fsa⟩, e1, fda⟩ := S2
  have hwas : was = [] := by have := hwa.length; simpa using this
  have hlas : las = [] := by have := hla.length; simpa using this
  have hkv : kvs = [] := by have := hk.length; simpa using this
  subst hwas hlas hkv
  obtain ⟨p0, ts, rfl, i0, hw1⟩ := says_cons hw1
  obtain ⟨p1, ts, rfl, i1, hw1⟩ := says_cons hw1
  obtain ⟨g1, g2⟩ := fd_yes (b := false) (ts := p1 :: ts) i0
  unfold l2
  conv => arg 5; whnf
  refine s_whileL [("data", .ref da), ("reader", .ref r)] (fun j σ₁ => σ₁ = σ') 0 rfl (by simp) ?_
  rintro j _ rfl
  refine tb_fd T hsc hR1 ?_
  refine iteT g1 ?_
  repeat k_caught0
  refine c_take T hR1 fun σ2 hR2 e2 => ?_
  obtain ⟨dt, hdt⟩ := hR2.tok p0 (hR1.mem (j := 0) rfl)
  repeat k_caught0
  rw [g2]
  exact (hb σ2 _ p1 ts d w l f s ix hR2 i1 hw1 (D1.ext e2 (D1.rd hR1))).mono fun _ _ z => z.elim
theorem in_first (T : Top g) {wt : List (Str × Str)} (hR : RD σ r R n rest) (hw : rest.map (·.2) = wDD ++ (wFS ++ wt)) (h : ∀ (c : FC) da P σ₂, c.sc = s_read_data → St σ σ₂ r R da [] [] [] wt → TS prog g (k + 13) c (l2 da r) dwhile P X σ₂) : CV prog g (k + 14) (.ref 393) [.ref r] Q X σ := by
  refine c_read_from T hR hw fun c da σ2 hsc S2 => ?_
  exact ss_cons (in_files T hsc S2 fun P σ₂ S3 => h c da P σ₂ hsc S3)
theorem bad3 (T : Top g) (hR : RD σ r R n rest) (hS : Short R) (hw : rest.map (·.2) = wDD ++ (wFS ++ [(sWord, S "FD"), (sWord, S "F"), (sSign, S ".")])) (hX : X 84) : CV prog g (k + 14) (.ref 393) [.ref r] Q X σ := by
  refine in_first T hR hw fun c da P σ₂ hsc S3 => wh_file T hsc hS S3 fun σ3 m p1 ts d w l f s ix hR3 i1 hw3 D3 => ?_
  obtain ⟨pd, ts, rfl, id, hw3⟩ := says_cons hw3
  obtain rfl := says_nil hw3
  exact c_file_raise T (rem := []) (ts := []) (rest' := []) (ds := []) hR3 hS i1.1 (by rw [i1.2]; exact res_F) (by simp) id rfl (by simp) rfl (by simp) D3 (.inl rfl) hX
theorem bad5 (T : Top g) (hR : RD σ r R n rest) (hS : Short R) (hw : rest.map (·.2) = wDD ++ (wFS ++ [(sWord, S "FD"), (sWord, S "F"), (sNum, S "01"), (sWord, S "A")])) (hX : X 84) : CV prog g (k + 14) (.ref 393) [.ref r] Q X σ := by
  refine in_first T hR hw fun c da P σ₂ hsc S3 => wh_file T hsc hS S3 fun σ3 m p1 ts d w l f s ix hR3 i1 hw3 D3 => ?_
  refine c_file_nodot T hR3 hS i1.1 (by rw [i1.2]; exact res_F) (fun p hp => ?_) hX
  have : p.2 ∈ [(sNum, S "01"), (sWord, S "A")] := by rw [← hw3]; exact List.mem_map.mpr ⟨p, hp, rfl⟩
  simp only [List.mem_cons, List.not_mem_nil, or_false] at this
  rcases this with e | e
  · rw [e]; decide +kernel
  · rw [e]; decide +kernel
noncomputable abbrev w01 (s : String) : List (Str × Str) := [(sNum, S "01"), (sWord, S s), (sSign, S ".")]
theorem pKind_cons_no {p : Tk} {ts : List Tk} {w : Str} (h : Is p sWord w) : pKind (p :: ts) 0 sNum = false := by show (p.2.1 == sNum) = false; rw [h.1]; exact k_wn
theorem bad4 (T : Top g) (hR : RD σ r R n rest) (hS : Short R) (hw : rest.map (·.2) = wDD ++ (wFS ++ ((sWord, S "FD") :: (sWord, S "F") :: (sSign, S ".") :: (w01 "A" ++ ((sWord, S "SD") :: (sWord, S "F") :: (sSign, S ".") :: w01 "B"))))) (hX : X 84) : CV prog g (k + 14) (.ref 393) [.ref r] Q X σ := by
  refine in_first T hR hw fun c da P σ' hsc S3 => ?_
  obtain ⟨⟨d, w, l, f, s, ix, was, las, kvs, ts, m, hR1, hw1, D1, hk, hwa, hla, ff, fsa⟩, e1, fda⟩ := S3
  have hwas : was = [] := by have := hwa.length; simpa using this
  have hlas : las = [] := by have := hla.length; simpa using this
  have hkv : kvs = [] := by have := hk.length; simpa using this
  subst hwas hlas hkv
  obtain ⟨p0, ts, rfl, i0, hw1⟩ := says_cons hw1
  obtain ⟨p1, ts, rfl, i1, hw1⟩ := says_cons hw1
  obtain ⟨p2, ts, rfl, i2, hw1⟩ := says_cons hw1
  obtain ⟨tr, rest', rfl, h3, hw1⟩ := List.map_eq_append_iff.mp hw1
  obtain ⟨q0, ts, rfl, j0, hw1⟩ := says_cons hw1
  obtain ⟨q1, ts, rfl, j1, hw1⟩ := says_cons hw1
  obtain ⟨q2, ts, rfl, j2, hw1⟩ := says_cons hw1
  obtain ⟨g1, g2⟩ := fd_yes (b := false) (ts := p1 :: p2 :: (tr ++ q0 :: q1 :: q2 :: ts)) i0
  obtain ⟨g3, g4⟩ := fd_yes (b := true) (ts := q1 :: q2 :: ts) j0
  have nsR : s ≠ R.l := fun z => by have := hR.list; rw [← z, fsa] at this; cases this
  unfold l2
  conv => arg 5; whnf
  refine s_whileL [("data", .ref da), ("reader", .ref r)] (fun j σ₁ => (j = 1 ∧ σ₁ = σ') ∨ (j = 0 ∧ ∃ m rr, RD σ₁ r R m (q0 :: q1 :: q2 :: ts) ∧ DataAt σ₁ da d w l f s ix [] [] [(S "F", .ref rr)] [])) 1 (.inl ⟨rfl, rfl⟩) (by simp) ?_
  rintro j σ₁ (⟨rfl, rfl⟩ | ⟨rfl, m2, rr, hR2, D2⟩)
  · refine tb_fd T hsc hR1 ?_
    refine iteT g1 ?_
    repeat k_caught0
    refine c_take T hR1 fun σ2 hR2 e2 => ?_
    obtain ⟨dt, hdt⟩ := hR2.tok p0 (hR1.mem (j := 0) rfl)
    repeat k_caught0
    rw [g2]
    refine c_file T (rem := []) (ds := [⟨S "A", [], none⟩]) hR2 hS i1.1 (by rw [i1.2]; exact res_F) (by simp) i2 h3 (fun e he => by rw [show e = .e01 (S "A") from List.mem_singleton.mp he]; exact res_A) (pKind_cons_no j0) (Nat.le_of_ble_eq_true rfl) (D1.ext e2 (D1.rd hR1)) (fun z => nomatch z) (fun p hp => nomatch hp) (Nat.zero_le _) (Nat.zero_le _) nsR fun rr ras σ3 hR3 e3 D3 frr hrr hras => ?_
    rw [i1.2] at D3
    repeat k_caught0
    exact ⟨0, by decide, by simp, .inr ⟨rfl, _, rr, hR3, D3⟩⟩
  · refine tb_fd T hsc hR2 ?_
    refine iteT g3 ?_
    repeat k_caught0
    refine c_take T hR2 fun σ2 hR3 e2 => ?_
    obtain ⟨dt, hdt⟩ := hR3.tok q0 (hR2.mem (j := 0) rfl)
    repeat k_caught0
    rw [g4]
    refine c_file_raise T (rem := []) (ts := ts) (rest' := []) (ds := [⟨S "B", [], none⟩]) (by rw [List.append_nil]; exact hR3) hS j1.1 (by rw [j1.2]; exact res_F) (by simp) j2 hw1 (fun e he => by rw [show e = .e01 (S "B") from List.mem_singleton.mp he]; exact res_B) rfl (Nat.le_of_ble_eq_true rfl) (D2.ext e2 (D2.rd hR2)) (.inr (by rw [j1.2]; simp [dget])) hX
end
end
section
section
variable {k : Nat} {c : FC} {P : Post} {Q : V → Store → Prop} {X : Addr → Prop} {σ σ' : Store} {loc : Loc}
theorem c_reader_of (T : Top g) {x w : Str} {ws : List Str} (hx : x = Str.join spc (w :: ws)) (hl : x.length ≤ 1000000) (hw : ∀ y ∈ w :: ws, Wd y ∧ y.length ≤ 800) (hn : ws.length ≤ 800)
    (h : ∀ r R rest σ', RD σ' r R 0 rest → Short R → rest.map (·.2) = (w :: ws).map tkOf → Same σ σ' → σ r = none → Q (.ref r) σ') :
    CV prog g (k + 3) (.ref 679) [.str x] (fun v σ' => CV prog g (k + 3) (.ref 631) [v] Q X σ') X σ := by
  refine c_tokens T hx hl (fun y hy => ⟨(hw y hy).1, Nat.le_trans (hw y hy).2 (by decide)⟩) hn fun l tk σ1 h1 h2 h3 sm => ?_
  have htk : tk.length = ws.length + 1 := by
    have := congrArg List.length h1
    simpa using this
  refine c_Reader T h2 h3 (by lia) fun r d nd σ2 hR fr sm2 => ?_
  refine h r _ _ σ2 hR (fun p hp => ?_) h1 (sm.trans sm2) (sm.fresh fr)
  have hp : p ∈ tk := hp
  have : p.2 ∈ (w :: ws).map tkOf := by rw [← h1]; exact List.mem_map.mpr ⟨p, hp, rfl⟩
  obtain ⟨y, hy, e⟩ := List.mem_map.mp this
  rw [← e]
  have hyl := (hw y hy).2
  unfold tkOf
  split
  · show (cut y (some 1) (some (-1))).length ≤ 900
    unfold cut
    split
    · exact Nat.le_trans hyl (by decide)
    · show (List.filterMap _ _).toArray.size ≤ 900
      rw [List.size_toArray]
      exact Nat.le_trans (List.length_filterMap_le _ _) (Nat.le_trans (sliceIndices_le _ _ _) (Nat.le_trans hyl (by decide)))
  · split
    · exact Nat.le_trans hyl (by decide)
    · exact Nat.le_trans hyl (by decide)
theorem c_refused (T : Top g) {x w : Str} {ws : List Str} (hx : x = Str.join spc (w :: ws)) (hl : x.length ≤ 1000000) (hw : ∀ y ∈ w :: ws, Wd y ∧ y.length ≤ 800) (hn : ws.length ≤ 800)
    (bad : ∀ r R rest σ', RD σ' r R 0 rest → Short R → rest.map (·.2) = (w :: ws).map tkOf → CV prog g (k + 14) (.ref 393) [.ref r] (fun _ _ => False) (fun C => C = 84) σ') :
    CV prog g (k + 15) (.ref 705) [.str x] (fun v _ => v = .bool true) X s0 := by
  refine CF.cv (call__law_refused_1 T fun c hsc hcl => ?_)
  conv => arg 6; whnf
  refine ss_cons (s_try T hcl (lk_of hsc rfl) ?_ rfl)
  repeat k_caught0
  refine c_reader_of (k := k + 11) T hx hl hw hn fun r R rest σ1 hR hS hr sm fr => ?_
  repeat k_caught0
  exact (bad r R rest σ1 hR hS hr).mono fun _ _ z => z.elim
end
end
section
noncomputable def remS : Nat → List Str
  | 0 => []
  | 1 => [S "LABEL", S "RECORDS", S "ARE", S "STANDARD"]
  | _ => [S "BLOCK", S "CONTAINS", S "5", S "RECORDS", S "DATA", S "RECORD", S "IS", S "X"]
noncomputable def remT : Nat → Str
  | 0 => S ""
  | 1 => S " LABEL RECORDS ARE STANDARD"
  | _ => S " BLOCK CONTAINS 5 RECORDS DATA RECORD IS X"
theorem rem_txt (i : Nat) : remT i ++ S " . " = spc ++ flatW (remS i ++ [S "."]) := by
  match i with
  | 0 => decide +kernel
  | 1 => decide +kernel
  | _ + 2 => exact (show S " BLOCK CONTAINS 5 RECORDS DATA RECORD IS X" ++ S " . " = spc ++ flatW ([S "BLOCK", S "CONTAINS", S "5", S "RECORDS", S "DATA", S "RECORD", S "IS", S "X"] ++ [S "."]) by decide +kernel)
theorem rem_ok (i : Nat) : ∀ w ∈ remS i, (Wd w ∧ w.length ≤ 200) ∧ ((tkOf w).1 == sSign) = false := by
  have key : ∀ l : List Str, (l.all fun w => wdB w && !((tkOf w).1 == sSign)) = true → ∀ w ∈ l, (Wd w ∧ w.length ≤ 200) ∧ ((tkOf w).1 == sSign) = false := fun l h w hw => by
    have := List.all_eq_true.mp h w hw
    rw [Bool.and_eq_true, Bool.not_eq_true'] at this
    exact ⟨⟨(wdB_ok this.1).1, Nat.le_trans (wdB_ok this.1).2 (by decide)⟩, this.2⟩
  match i with
  | 0 => exact fun w hw => nomatch hw
  | 1 => exact key _ (by decide +kernel)
  | _ + 2 => exact key [S "BLOCK", S "CONTAINS", S "5", S "RECORDS", S "DATA", S "RECORD", S "IS", S "X"] (by decide +kernel)
structure FilD where
  j : Nat
  srt : Bool
  rm : Nat
  rcd : RecD
noncomputable def filNm (j : Nat) : Str := S "F" ++ Str.ofString (toString (j : Int))
noncomputable def FilD.d (f : FilD) : FileD := ⟨filNm f.j, f.srt, (remS f.rm).map tkOf, f.rcd⟩
noncomputable def FilD.says (f : FilD) : List Str := (if f.srt then S "SD" else S "FD") :: filNm f.j :: (remS f.rm ++ S "." :: Mine.Internal.says f.rcd.ents)
noncomputable def filesS (fs : List FilD) : List Str := fs.flatMap FilD.says
structure FilG (f : FilD) : Prop where
  j : f.j < 2
  rcd : RecG (filNm f.j ++ S "-R") 10 f.rcd
theorem fil_name {j : Nat} (hj : j < 2) : Nm0 (filNm j) 2 := by
  obtain rfl | rfl : j = 0 ∨ j = 1 := by lia
  · exact ⟨⟨70, [48], by decide +kernel, by decide, by decide⟩, by decide +kernel, by decide +kernel, by decide +kernel⟩
  · exact ⟨⟨70, [49], by decide +kernel, by decide, by decide⟩, by decide +kernel, by decide +kernel, by decide +kernel⟩
theorem fil_words {f : FilD} (h : FilG f) : f.says.map tkOf = f.d.words := by
  have tn := tk_name (fil_name h.j)
  have tr := says_words h.rcd.ents
  show tkOf _ :: tkOf (filNm f.j) :: (remS f.rm ++ S "." :: Mine.Internal.says f.rcd.ents).map tkOf = (sWord, if f.srt then Str.ofString "SD" else Str.ofString "FD") :: (sWord, filNm f.j) :: ((remS f.rm).map tkOf ++ (sSign, Str.ofString ".") :: recW [f.rcd])
  rw [tn, List.map_append, List.map_cons, tr]
  have e1 : tkOf (if f.srt then S "SD" else S "FD") = (sWord, if f.srt then S "SD" else S "FD") := by cases f.srt <;> decide +kernel
  have e2 : tkOf (S ".") = (sSign, S ".") := by decide +kernel
  have e3 : recW [f.rcd] = f.rcd.ents.flatMap Ent.words := by unfold recW; rw [List.flatMap_cons, List.flatMap_nil, List.append_nil]
  rw [e1, e2, e3]
theorem fil_wd {f : FilD} (h : FilG f) : ∀ w ∈ f.says, Wd w ∧ w.length ≤ 200 := fun w hw => by
  rcases List.mem_cons.mp hw with rfl | hw
  · cases f.srt
    · exact wd_S (by decide +kernel)
    · exact wd_S (by decide +kernel)
  · rcases List.mem_cons.mp hw with rfl | hw
    · exact nm_wd (fil_name h.j) (by decide)
    · rcases List.mem_append.mp hw with hw | hw
      · exact (rem_ok _ w hw).1
      · rcases List.mem_cons.mp hw with rfl | hw
        · exact wd_S (by decide +kernel)
        · exact says_wd h.rcd.ents w hw
theorem fil_len {f : FilD} (h : FilG f) : f.says.length ≤ 80 := by
  have h1 : (remS f.rm).length ≤ 8 := by
    match f.rm with
    | 0 => decide
    | 1 => decide
    | _ + 2 => exact Nat.le_refl 8
  have h2 := says_len f.rcd.ents
  have h3 := h.rcd.len
  unfold FilD.says
  rw [List.length_cons, List.length_cons, List.length_append, List.length_cons]
  lia
theorem fil_ok {f : FilD} (h : FilG f) : f.d.Ok := ⟨(fil_name h.j).res, fun p hp => by
    obtain ⟨w, hw, rfl⟩ := List.mem_map.mp hp
    exact (rem_ok _ w hw).2, fun e he => (h.rcd.ents e he).ok, Nat.le_trans h.rcd.len (by decide)⟩
theorem fil_txt (x : Str) (f : FilD) (t : Str) : x ++ (if f.srt then S "SD " else S "FD ") ++ filNm f.j ++ remT f.rm ++ S " . " ++ flatW (Mine.Internal.says f.rcd.ents) = x ++ flatW f.says := by
  have e1 : (if f.srt then S "SD " else S "FD ") = (if f.srt then S "SD" else S "FD") ++ spc := by cases f.srt <;> decide +kernel
  have e2 : f.says = [if f.srt then S "SD" else S "FD", filNm f.j] ++ ((remS f.rm ++ [S "."]) ++ Mine.Internal.says f.rcd.ents) := by unfold FilD.says; simp
  rw [e1, e2, flatW_app, flatW_app]
  simp only [app_assoc]
  rw [← app_assoc (remT f.rm) (S " . "), rem_txt]
  simp only [flatW, app_assoc, app_emp, emp_app]
theorem files_words {fs : List FilD} (h : ∀ f ∈ fs, FilG f) : (filesS fs).map tkOf = (fs.map FilD.d).flatMap FileD.words := by
  unfold filesS
  induction fs with
  | nil => rfl
  | cons f fs ih =>
    rw [List.flatMap_cons, List.map_append, List.map_cons, List.flatMap_cons, fil_words (h f (.head _)), ih fun x hx => h x (.tail _ hx)]
theorem files_wd {fs : List FilD} (h : ∀ f ∈ fs, FilG f) : ∀ w ∈ filesS fs, Wd w ∧ w.length ≤ 200 := fun w hw => by
  obtain ⟨f, hf, hw⟩ := List.mem_flatMap.mp hw
  exact fil_wd (h f hf) w hw
theorem files_len {fs : List FilD} (h : ∀ f ∈ fs, FilG f) : (filesS fs).length ≤ fs.length * 80 := by
  unfold filesS
  induction fs with
  | nil => exact Nat.zero_le _
  | cons f fs ih =>
    rw [List.flatMap_cons, List.length_append, List.length_cons]
    have := ih fun x hx => h x (.tail _ hx)
    have := fil_len (h f (.head _))
    lia
noncomputable def secS (h : List Str) (ws : Option (List Str)) : List Str := match ws with
  | none => []
  | some ws => h ++ ws
noncomputable abbrev hDD : List Str := [S "DATA", S "DIVISION", S "."]
noncomputable abbrev hFS : List Str := [S "FILE", S "SECTION", S "."]
noncomputable abbrev hWS : List Str := [S "WORKING-STORAGE", S "SECTION", S "."]
noncomputable abbrev hLS : List Str := [S "LINKAGE", S "SECTION", S "."]
noncomputable abbrev hPD : List Str := [S "PROCEDURE", S "DIVISION", S "."]
theorem heads_tk : hDD.map tkOf = headW (S "DATA") (S "DIVISION") ∧ hFS.map tkOf = headW (S "FILE") (S "SECTION") ∧ hWS.map tkOf = headW sWS (S "SECTION") ∧ hLS.map tkOf = headW sLS (S "SECTION") ∧ hPD.map tkOf = headW (S "PROCEDURE") (S "DIVISION") := by
  refine ⟨?_, ?_, ?_, ?_, ?_⟩ <;> decide +kernel
theorem heads_wd : ∀ w ∈ hDD ++ hFS ++ hWS ++ hLS ++ hPD, Wd w ∧ w.length ≤ 200 := fun w hw => by
  have := List.all_eq_true.mp (show (hDD ++ hFS ++ hWS ++ hLS ++ hPD).all wdB = true by decide +kernel) w hw
  exact ⟨(wdB_ok this).1, Nat.le_trans (wdB_ok this).2 (by decide)⟩
end
section
structure LawD where
  fo : Option (List FilD)
  wo : Option (List RecD)
  lo : Option (List RecD)
  pr : Bool
noncomputable def recsS (rs : List RecD) : List Str := says (rs.flatMap RecD.ents)
noncomputable def LawD.toD (D : LawD) : DataD := ⟨D.fo.map (·.map FilD.d), D.wo, D.lo, D.pr⟩
noncomputable def LawD.body (D : LawD) : List Str := hDD ++ (secS hFS (D.fo.map filesS) ++ (secS hWS (D.wo.map recsS) ++ secS hLS (D.lo.map recsS)))
noncomputable def LawD.all (D : LawD) : List Str := D.body ++ if D.pr then hPD else []
structure LawG (D : LawD) : Prop where
  fo : ∀ fs, D.fo = some fs → (∀ f ∈ fs, FilG f) ∧ (fs.map FilD.j).Nodup ∧ fs.length ≤ 2
  wo : ∀ rs, D.wo = some rs → (∀ (x : Nat) r, rs[x]? = some r → RecG (recNm (S "W") x) 10 r) ∧ rs.length ≤ 2
  lo : ∀ rs, D.lo = some rs → (∀ (x : Nat) r, rs[x]? = some r → RecG (recNm (S "L") x) 10 r) ∧ rs.length ≤ 2
theorem recsS_tk {lead : Str} {rs : List RecD} (h : ∀ (x : Nat) r, rs[x]? = some r → RecG (recNm lead x) 10 r) : (recsS rs).map tkOf = recW rs := says_words (recs_ents h).1
theorem recsS_wd {lead : Str} {rs : List RecD} (h : ∀ (x : Nat) r, rs[x]? = some r → RecG (recNm lead x) 10 r) : ∀ w ∈ recsS rs, Wd w ∧ w.length ≤ 200 := says_wd (recs_ents h).1
theorem recsS_len {lead : Str} {rs : List RecD} (h : ∀ (x : Nat) r, rs[x]? = some r → RecG (recNm lead x) 10 r) (l : rs.length ≤ 2) : (recsS rs).length ≤ 120 := by
  have := says_len (rs.flatMap RecD.ents)
  have := (recs_ents h).2
  unfold recsS
  lia
theorem law_tk {D : LawD} (G : LawG D) : D.all.map tkOf = D.toD.words := by
  obtain ⟨fo, wo, lo, pr⟩ := D
  obtain ⟨g1, g2, g3⟩ := G
  obtain ⟨k1, k2, k3, k4, k5⟩ := heads_tk
  have e1 : (secS hFS (fo.map filesS)).map tkOf = secF (fo.map (·.map FilD.d)) := by
    cases fo with
    | none => rfl
    | some fs => show (hFS ++ filesS fs).map tkOf = headW _ _ ++ _; rw [List.map_append, k2, files_words (g1 fs rfl).1]
  have e2 : (secS hWS (wo.map recsS)).map tkOf = secR sWS wo := by
    cases wo with
    | none => rfl
    | some rs => show (hWS ++ recsS rs).map tkOf = headW _ _ ++ _; rw [List.map_append, k3, recsS_tk (g2 rs rfl).1]
  have e3 : (secS hLS (lo.map recsS)).map tkOf = secR sLS lo := by
    cases lo with
    | none => rfl
    | some rs => show (hLS ++ recsS rs).map tkOf = headW _ _ ++ _; rw [List.map_append, k4, recsS_tk (g3 rs rfl).1]
  have e4 : (if pr then hPD else []).map tkOf = procW pr := by cases pr; rfl; exact k5
  show ((hDD ++ (secS hFS (fo.map filesS) ++ (secS hWS (wo.map recsS) ++ secS hLS (lo.map recsS)))) ++ (if pr then hPD else [])).map tkOf = headW _ _ ++ (secF _ ++ (secR sWS wo ++ (secR sLS lo ++ procW pr)))
  simp only [List.map_append, e1, e2, e3, e4, List.append_assoc]
  rw [k1]
  rfl
theorem sec_wd {h : List Str} {o : Option (List Str)} (hh : ∀ w ∈ h, Wd w ∧ w.length ≤ 200) (ho : ∀ ws, o = some ws → ∀ w ∈ ws, Wd w ∧ w.length ≤ 200) : ∀ w ∈ secS h o, Wd w ∧ w.length ≤ 200 := fun w hw => by
  cases o with
  | none => cases hw
  | some ws =>
    rcases List.mem_append.mp hw with hw | hw
    · exact hh w hw
    · exact ho ws rfl w hw
theorem sec_len {h : List Str} {o : Option (List Str)} {n : Nat} (hh : h.length = 3) (ho : ∀ ws, o = some ws → ws.length ≤ n) : (secS h o).length ≤ n + 3 := by
  cases o with
  | none => exact Nat.zero_le _
  | some ws =>
    show (h ++ ws).length ≤ _
    rw [List.length_append, hh]
    have := ho ws rfl
    lia
theorem law_wd {D : LawD} (G : LawG D) : ∀ w ∈ D.all, Wd w ∧ w.length ≤ 200 := fun w hw => by
  obtain ⟨fo, wo, lo, pr⟩ := D
  obtain ⟨g1, g2, g3⟩ := G
  have hd : ∀ {l : List Str}, (∀ w ∈ l, w ∈ hDD ++ hFS ++ hWS ++ hLS ++ hPD) → ∀ w ∈ l, Wd w ∧ w.length ≤ 200 := fun h w hw => heads_wd w (h w hw)
  rcases List.mem_append.mp hw with hw | hw
  · rcases List.mem_append.mp hw with hw | hw
    · exact hd (fun w h => by simp only [List.mem_append]; exact .inl (.inl (.inl (.inl h)))) w hw
    · rcases List.mem_append.mp hw with hw | hw
      · refine sec_wd (hd fun w h => by simp only [List.mem_append]; exact .inl (.inl (.inl (.inr h)))) (fun ws e => ?_) w hw
        cases fo with
        | none => cases e
        | some fs => cases e; exact files_wd (g1 fs rfl).1
      · rcases List.mem_append.mp hw with hw | hw
        · refine sec_wd (hd fun w h => by simp only [List.mem_append]; exact .inl (.inl (.inr h))) (fun ws e => ?_) w hw
          cases wo with
          | none => cases e
          | some rs => cases e; exact recsS_wd (g2 rs rfl).1
        · refine sec_wd (hd fun w h => by simp only [List.mem_append]; exact .inl (.inr h)) (fun ws e => ?_) w hw
          cases lo with
          | none => cases e
          | some rs => cases e; exact recsS_wd (g3 rs rfl).1
  · cases pr with
    | false => cases hw
    | true => exact hd (fun w h => by simp only [List.mem_append]; exact .inr h) w hw
theorem law_len {D : LawD} (G : LawG D) : D.all.length ≤ 700 := by
  obtain ⟨fo, wo, lo, pr⟩ := D
  obtain ⟨g1, g2, g3⟩ := G
  have l1 : (secS hFS (fo.map filesS)).length ≤ 160 + 3 := sec_len rfl fun ws e => by
    cases fo with
    | none => cases e
    | some fs => cases e; have := files_len (g1 fs rfl).1; have := (g1 fs rfl).2.2; lia
  have l2 : (secS hWS (wo.map recsS)).length ≤ 120 + 3 := sec_len rfl fun ws e => by
    cases wo with
    | none => cases e
    | some rs => cases e; exact recsS_len (g2 rs rfl).1 (g2 rs rfl).2
  have l3 : (secS hLS (lo.map recsS)).length ≤ 120 + 3 := sec_len rfl fun ws e => by
    cases lo with
    | none => cases e
    | some rs => cases e; exact recsS_len (g3 rs rfl).1 (g3 rs rfl).2
  have l4 : (if pr then hPD else []).length ≤ 3 := by cases pr <;> decide
  unfold LawD.all LawD.body
  simp only [List.length_append]
  have : hDD.length = 3 := rfl
  lia
theorem fil01 : filNm 0 ≠ filNm 1 := by decide +kernel
theorem filNm_inj {i j : Nat} (hi : i < 2) (hj : j < 2) (h : filNm i = filNm j) : i = j := by
  by_cases e : i = j
  · exact e
  · by_cases i0 : i = 0
    · have j1 : j = 1 := by lia
      rw [i0, j1] at h
      exact absurd h fil01
    · have i1 : i = 1 := by lia
      have j0 : j = 0 := by lia
      rw [i1, j0] at h
      exact absurd h.symm fil01
theorem fil_nm (f : FilD) : f.d.nm = filNm f.j := by unfold FilD.d; generalize filNm f.j = x; rfl
theorem law_ok {D : LawD} (G : LawG D) : D.toD.Ok := by
  obtain ⟨fo, wo, lo, pr⟩ := D
  obtain ⟨g1, g2, g3⟩ := G
  refine ⟨fun fs e => ?_, fun ds e => ?_, fun ds e => ?_⟩
  · cases fo with
    | none => cases e
    | some gs =>
      cases e
      obtain ⟨h1, h2, h3⟩ := g1 gs rfl
      refine ⟨fun x hx => ?_, ?_, by rw [List.length_map]; lia⟩
      · obtain ⟨f, hf, rfl⟩ := List.mem_map.mp hx
        exact fil_ok (h1 f hf)
      · rw [List.map_map]
        rw [show ((fun x => x.nm) ∘ FilD.d) = filNm ∘ FilD.j from funext fil_nm, ← List.map_map]
        have key : ∀ l : List Nat, (∀ j ∈ l, j < 2) → l.Nodup → (l.map filNm).Nodup := fun l => by
          induction l with
          | nil => intro _ _; exact .nil
          | cons j l ih =>
            intro hl hn
            rw [List.nodup_cons] at hn
            rw [List.map_cons, List.nodup_cons]
            refine ⟨fun hm => ?_, ih (fun i hi => hl i (.tail _ hi)) hn.2⟩
            obtain ⟨i, hi, e⟩ := List.mem_map.mp hm
            have : i = j := filNm_inj (hl i (.tail _ hi)) (hl j (.head _)) e
            exact hn.1 (this ▸ hi)
        exact key _ (fun j hj => by obtain ⟨f, hf, rfl⟩ := List.mem_map.mp hj; exact (h1 f hf).j) h2
  · have e : wo = some ds := e
    have := recs_ents (g2 ds e).1
    exact ⟨fun x hx => (this.1 x hx).ok, by have := (g2 ds e).2; lia⟩
  · have e : lo = some ds := e
    have := recs_ents (g3 ds e).1
    exact ⟨fun x hx => (this.1 x hx).ok, by have := (g3 ds e).2; lia⟩
theorem flat_join (ws : List Str) (w : Str) (r : List Str) : flatW ws ++ Str.join spc (w :: r) = Str.join spc (ws ++ w :: r) := by
  induction ws with
  | nil => exact emp_app _
  | cons x ws ih =>
    rw [flatW, app_assoc, app_assoc, ih]
    have : ∃ y l, ws ++ w :: r = y :: l := by cases ws <;> exact ⟨_, _, rfl⟩
    obtain ⟨y, l, e⟩ := this
    rw [List.cons_append, e]
    show _ = x ++ spc ++ Str.join spc (y :: l)
    rw [app_assoc]
theorem pd_join : S "PROCEDURE DIVISION ." = Str.join spc hPD := by decide +kernel
theorem law_txt {D : LawD} (G : LawG D) : Txt.stripChars (flatW D.body ++ (if D.pr then S "PROCEDURE DIVISION ." else S "")) spc = Str.join spc D.all := by
  have hw := law_wd G
  have hne : ∃ w ws, D.body = w :: ws := ⟨_, _, rfl⟩
  obtain ⟨w, ws, e⟩ := hne
  unfold LawD.all at hw ⊢
  cases hp : D.pr with
  | false =>
    rw [hp] at hw
    simp only [Bool.false_eq_true, if_false, List.append_nil] at hw ⊢
    rw [app_emp, e]
    rw [e] at hw
    exact (strip_join fun x hx => (hw x hx).1).1
  | true =>
    rw [hp] at hw
    simp only [if_true] at hw ⊢
    rw [pd_join, flat_join, e]
    rw [e] at hw
    exact (strip_join (w := w) (ws := ws ++ hPD) fun x hx => (hw x hx).1).2
theorem law_cons (D : LawD) : ∃ ws, D.all = S "DATA" :: ws := ⟨_, rfl⟩
end
section
noncomputable def lst (j : Nat) : Stmt := b_law.getD j (.Pass ⟨0, 0, 0, 0⟩)
noncomputable def dueF (f : FilD) : V := .tup [.str (filNm f.j), .lst [f.rcd.due]]
noncomputable def sortF (fs : List FilD) : List V := fs.flatMap fun f => if f.srt then [.str (filNm f.j)] else []
structure FilsG (fs : List FilD) : Prop where
  all : ∀ x f, fs[x]? = some f → FilG f ∧ f.j = x
  len : fs.length ≤ 2
section
variable {k : Nat} {c : FC} {P : Post} {Q : V → Store → Prop} {X : Addr → Prop} {σ σ' : Store} {loc : Loc} {t : Addr} {n m : Nat}
theorem law_tape (T : Top g) (hsc : c.sc = s_law) {ns : List Int} (hl : ns.length ≤ 63) (h : ∀ lo t σ', (∀ p ∈ ([("tape", .ref t)] : Loc), p ∈ lo) → Tape σ' t 0 → P.nx lo σ') : TS prog g (k + 15) c [("script", .lst (ns.map V.int))] (lst 0) P X σ := by
  conv => arg 6; whnf
  refine s_assign (lk_of hsc rfl) ?_ (by intro _; rfl)
  refine e_list T.ok rfl ?_
  refine tes_cons (e_or ?_)
  refine e_call rfl ?_
  iterate 3 k_caught0
  refine e_slice_ints ?_
  repeat k_caught0
  refine ⟨ns, rfl, by lia, ?_⟩
  repeat k_caught0
  intro ms hms
  repeat k_caught0
  refine c_list (.inl rfl) (by rw [List.length_map]; lia) ?_
  cases ms with
  | nil =>
    refine u_lst (.inl rfl) (by simp) ?_
    refine iteF rfl ?_
    refine e_lst rfl ?_
    repeat k_caught0
    intro t ht
    exact h _ t _ (by repeat' (first | exact ms_nil | refine ms_all ?_ ?_ | exact m0 | exact m1 | exact m2 | exact m3 | exact m4 | exact m5 | exact m6 | exact m7 | exact m8 | exact m9 | with_reducible exact ms_self | with_reducible refine ms_set (by decide) ?_ | with_reducible refine ms_s2 ?_ | with_reducible refine ms_s3 ?_)) ⟨[2], by simp, by decide, by decide, by rw [upd_self]; rfl⟩
  | cons i ms =>
    refine u_lst (.inl rfl) (by rw [List.length_map]; lia) ?_
    refine iteT rfl ?_
    repeat k_caught0
    intro t ht
    exact h _ t _ (by repeat' (first | exact ms_nil | refine ms_all ?_ ?_ | exact m0 | exact m1 | exact m2 | exact m3 | exact m4 | exact m5 | exact m6 | exact m7 | exact m8 | exact m9 | with_reducible exact ms_self | with_reducible refine ms_set (by decide) ?_ | with_reducible refine ms_s2 ?_ | with_reducible refine ms_s3 ?_)) ⟨i :: ms, by simp, by lia, by decide, by rw [upd_self]; rfl⟩
theorem e_pick {x : String} {v : Bool} {a b : Str} {n1 n2 : Nat} {p p1 p2 p3 : Pos} {Q : V → Store → Prop} (hm : (x, .bool v) ∈ loc) (h : Q (.str (if v then a else b)) σ) (hd : (Str.ofString x == ("__debug__" : Str)) = false := by decide) :
    TE prog g k c loc (.IfExp (.Name (Str.ofString x) p1) (.Constant (.str a) n1 p2) (.Constant (.str b) n2 p3) p) Q X σ := by
  refine e_ite (t_of (e_loc hm (u_bool ?_) hd) (by intro _ _; rfl))
  cases v with
  | true => exact e_str h
  | false => exact e_str h
end
end
local macro_rules | `(tactic| k_caught0) => stp "e_pick M_R"
section
section
variable {k : Nat} {c : FC} {P : Post} {Q : V → Store → Prop} {X : Addr → Prop} {σ σ' : Store} {loc : Loc} {t : Addr} {n m : Nat}
inductive LKE (σ : Store) (t dfa : Addr) (i : Nat) (rest : List V) (l0 : Loc) (σ₁ : Store) : Prop
  | mk (fs : List FilD) (j n' : Nat) (h1 : fs.length = j) (h2 : j ≤ i) (h3 : rest = (inRange 0 (i : Int)).drop j) (h4 : l0 = [("files", .str (flatW (filesS fs))), ("sorts", .lst (sortF fs)), ("due_files", .ref dfa), ("tape", .ref t)]) (h5 : n' ≤ 1 + j * 10) (h6 : Tape σ₁ t n') (h7 : σ₁ dfa = some (.list (fs.map dueF))) (h8 : ∀ x f, fs[x]? = some f → FilG f ∧ f.j = x)
structure LK (σ : Store) (t dfa : Addr) (i : Nat) (rest : List V) (l0 : Loc) (σ₁ : Store) : Prop where
  ex : LKE σ t dfa i rest l0 σ₁
theorem fils_txt {fs : List FilD} (h : ∀ (x : Nat) f, fs[x]? = some f → FilG f ∧ f.j = x) : ∀ f ∈ fs, FilG f := fun f hf => by
  obtain ⟨x, hx⟩ := List.mem_iff_getElem?.mp hf
  exact (h x f hx).1
theorem files_txt_len {fs : List FilD} (h : ∀ f ∈ fs, FilG f) : (flatW (filesS fs)).length ≤ fs.length * 16080 := by
  have h1 := flatW_len (files_wd h)
  have h2 := files_len h
  lia
theorem law_init (T : Top g) (hsc : c.sc = s_law) (hT : Tape σ t n) (h : ∀ lo dfa σ', (∀ p ∈ ([("files", .str (S "")), ("sorts", .lst []), ("due_files", .ref dfa), ("tape", .ref t)] : Loc), p ∈ lo) → σ' dfa = some (.list []) → dfa ≠ t → Tape σ' t n → P.nx lo σ') : TS prog g (k + 15) c [("tape", .ref t)] (lst 1) P X σ := by
  conv => arg 6; whnf
  repeat k_caught0
  refine e_list T.ok rfl ⟨by decide, fun dfa hd => ?_⟩
  repeat k_caught0
  refine e_lst rfl ?_
  repeat k_caught0
  have nd : dfa ≠ t := fun z => by obtain ⟨_, _, _, _, q⟩ := hT; rw [z, q] at hd; cases hd
  exact h _ dfa _ (by repeat' (first | exact ms_nil | refine ms_all ?_ ?_ | exact m0 | exact m1 | exact m2 | exact m3 | exact m4 | exact m5 | exact m6 | exact m7 | exact m8 | exact m9 | with_reducible exact ms_self | with_reducible refine ms_set (by decide) ?_ | with_reducible refine ms_s2 ?_ | with_reducible refine ms_s3 ?_)) (upd_self ..) nd (hT.ext (D := []) (Ext.of_same ((Same.refl σ).upd hd)) (by simp))
set_option maxHeartbeats 4000000 in
theorem law_files (T : Top g) (hsc : c.sc = s_law) {dfa : Addr} (hT : Tape σ t 0) (hd : σ dfa = some (.list [])) (nd : dfa ≠ t)
    (h : ∀ lo fs n σ', FilsG fs → (∀ p ∈ ([("files", .str (flatW (filesS fs))), ("sorts", .lst (sortF fs)), ("due_files", .ref dfa), ("tape", .ref t)] : Loc), p ∈ lo) → n ≤ 100 → Tape σ' t n → σ' dfa = some (.list (fs.map dueF)) → P.nx lo σ') : TS prog g (k + 15) c [("files", .str (S "")), ("sorts", .lst []), ("due_files", .ref dfa), ("tape", .ref t)] (lst 2) P X σ := by
  conv => arg 6; whnf
  repeat k_caught0
  refine c_draw T hT (by lia) (m := 3) (by decide) fun i σ1 hi hT1 e1 => ?_
  repeat k_caught0
  refine ⟨_, [], Src.rng T.ok (by decide) (by decide) (by lia) (by lia), ?_⟩
  refine forl_nameL (lk_of hsc rfl) (fun rest l s => LK σ t dfa i rest l s) (fun vs l s J => ?_) (fun v vs l0 σ₁ J => ?_) (fun l l0 σ₁ hs J => ?_) _ _ _ _ ⟨⟨[], 0, 1, rfl, Nat.zero_le _, rfl, rfl, by lia, hT1, e1.get hd (by simpa using nd), by simp⟩⟩ (by simp [filesS, flatW, sortF])
  · obtain ⟨⟨fs, j, n', h1, h2, h3, rfl, _⟩⟩ := J
    simp
  · obtain ⟨⟨fs, j, n', h1, h2, h3, rfl, h5, h6, h7, h8⟩⟩ := J
    obtain ⟨rfl, h10, h11⟩ := drop_range h3
    have lt := files_txt_len (fils_txt h8)
    generalize hx : flatW (filesS fs) = x at lt
    have lt0 : x.length ≤ 40000 := by lia
    have bF : (Str.ofString "F").length ≤ 60 := by decide +kernel
    have bR : (Str.ofString "-R").length ≤ 60 := by decide +kernel
    have hj1 : (Str.ofString (toString (j : Int))).length ≤ 200 := (fig_j (show j < 2 by lia)).2.2.2
    have fn := fil_name (show j < 2 by lia)
    have hfn : Str.ofString "F" ++ Str.ofString (toString (j : Int)) = filNm j := rfl
    have fl := fn.len
    repeat k_caught0
    refine c_str (by lia) (by lia) ?_
    repeat k_caught0
    refine o_addsE hfn (by apply olT <;> repeat' (first | with_reducible assumption | with_reducible apply ol | exact Eq.refl true)) ?_
    generalize hnm : filNm j = nm at fn fl
    repeat k_caught0
    refine c_draw T h6 (by lia) (m := 2) (by decide) fun d1 σ₂ hd1 hT2 e2 => ?_
    have hd2 := e2.get h7 (by simpa using nd)
    repeat k_caught0
    generalize hsrt : ((d1 : Int) == 1) = srt
    repeat k_caught0
    refine c_draw T hT2 (by lia) (m := 3) (by decide) fun d2 σ₃ hd3 hT3 e3 => ?_
    have hd4 := e3.get hd2 (by simpa using nd)
    repeat k_caught0
    refine i_tup (v := .str (remT d2)) (fun _ _ => rfl) (by simp) ⟨?_, by simp⟩ ?_
    · obtain rfl | rfl | rfl : d2 = 0 ∨ d2 = 1 ∨ d2 = 2 := by lia
      · rfl
      · rfl
      · rfl
    have rl : (remT d2).length ≤ 60 := by
      obtain rfl | rfl | rfl : d2 = 0 ∨ d2 = 1 ∨ d2 = 2 := by lia
      · decide +kernel
      · decide +kernel
      · decide +kernel
    repeat k_caught0
    refine o_adds (by apply olT <;> repeat' (first | with_reducible assumption | with_reducible apply ol | exact Eq.refl true)) ?_
    repeat k_caught0
    have nR : Nm0 (nm ++ S "-R") 10 := (fn.tail (x := S "-R") (j := 2) (by decide +kernel) (by decide +kernel)).mono (by decide)
    refine c_record T hT3 (by lia) nR (by decide) fun r n2 σ₄ rg a1 a2 hT4 e4 => ?_
    have hd5 := e4.get hd4 (by simpa using nd)
    have lt2 := txt_len rg.ents
    have rl2 := rg.len
    generalize hx2 : flatW (says r.ents) = x2 at lt2
    repeat k_caught0
    have htxt := fil_txt x ⟨j, srt, d2, r⟩ (S "")
    dsimp only at htxt
    rw [hnm, hx2] at htxt
    generalize hsd : (if srt = true then Str.ofString "SD " else Str.ofString "FD ") = sd at htxt
    have sdl : sd.length ≤ 60 := by rw [← hsd]; cases srt <;> decide +kernel
    have b1 : (Str.ofString " . ").length ≤ 60 := by decide +kernel
    have lt20 : x2.length ≤ 20000 := by lia
    refine o_adds (by apply olT <;> repeat' (first | with_reducible assumption | with_reducible apply ol | exact Eq.refl true)) ?_
    repeat k_caught0
    refine o_adds (by apply olT <;> repeat' (first | with_reducible assumption | with_reducible apply ol | exact Eq.refl true)) ?_
    repeat k_caught0
    refine o_adds (by apply olT <;> repeat' (first | with_reducible assumption | with_reducible apply ol | exact Eq.refl true)) ?_
    repeat k_caught0
    refine o_adds (by apply olT <;> repeat' (first | with_reducible assumption | with_reducible apply ol | exact Eq.refl true)) ?_
    repeat k_caught0
    refine o_addsE htxt (by apply olT <;> repeat' (first | with_reducible assumption | with_reducible apply ol | exact Eq.refl true)) ?_
    generalize hy : x ++ flatW _ = y
    repeat k_caught0
    refine e_lst rfl ?_
    repeat k_caught0
    have step : ∀ (l : Loc), (∀ p ∈ ([("files", .str y), ("sorts", .lst (sortF fs ++ if srt then [.str nm] else [])), ("due_files", .ref dfa), ("tape", .ref t)] : Loc), p ∈ l) → ∃ l1 : Loc, (∀ p ∈ l1, p ∈ l) ∧ (∀ d ∈ ([] : List Addr), (upd σ₄ dfa (.list (fs.map dueF ++ [.tup [.str nm, .lst [r.due]]]))) d = σ₁ d) ∧ LK σ t dfa i vs l1 (upd σ₄ dfa (.list (fs.map dueF ++ [.tup [.str nm, .lst [r.due]]]))) := fun l hl => by
      refine ⟨_, hl, by simp, ⟨⟨fs ++ [⟨j, srt, d2, r⟩], j + 1, n2, by simp [h1], h11, h10, ?_, by lia, hT4.ext ((Ext.refl [dfa] σ₄).upd_in (by simp)) (by simpa using nd.symm), ?_, fun z f hz => ?_⟩⟩⟩
      · have e1 : filesS (fs ++ [⟨j, srt, d2, r⟩]) = filesS fs ++ FilD.says ⟨j, srt, d2, r⟩ := by unfold filesS; rw [List.flatMap_append]; simp
        have e2 : sortF (fs ++ [⟨j, srt, d2, r⟩]) = sortF fs ++ if srt then [.str nm] else [] := by unfold sortF; rw [List.flatMap_append, ← hnm]; simp
        rw [e1, flatW_app, hx, hy, e2]
      · rw [upd_self, List.map_append, ← hnm]; rfl
      · by_cases hzj : z < fs.length
        · rw [List.getElem?_append_left hzj] at hz; exact h8 z f hz
        · rw [List.getElem?_append_right (by lia)] at hz
          have : z - fs.length = 0 := by
            by_cases q0 : z - fs.length = 0
            · exact q0
            · rw [List.getElem?_eq_none (by simp; lia)] at hz; cases hz
          rw [this] at hz
          have hz : (⟨j, srt, d2, r⟩ : FilD) = f := by simpa using hz
          subst hz
          exact ⟨⟨by show j < 2; lia, by rw [← hnm] at rg; exact rg⟩, by show j = z; lia⟩
    have sl : (sortF fs).length ≤ 1000 := by
      have : ∀ l : List FilD, (sortF l).length ≤ l.length := fun l => by
        unfold sortF
        induction l with
        | nil => exact Nat.le_refl _
        | cons f l ih =>
          rw [List.flatMap_cons, List.length_append, List.length_cons]
          have : (if f.srt then [V.str (filNm f.j)] else []).length ≤ 1 := by split <;> simp
          lia
      have := this fs
      lia
    cases srt with
    | true =>
      refine iteT rfl ?_
      refine e_lst rfl ?_
      repeat k_caught0
      refine o_addl (.inl rfl) (.inl rfl) (by simp; lia) ?_
      repeat k_caught0
      exact step _ (by repeat' (first | exact ms_nil | refine ms_all ?_ ?_ | exact m0 | exact m1 | exact m2 | exact m3 | exact m4 | exact m5 | exact m6 | exact m7 | exact m8 | exact m9 | with_reducible exact ms_self | with_reducible refine ms_set (by decide) ?_ | with_reducible refine ms_s2 ?_ | with_reducible refine ms_s3 ?_))
    | false =>
      refine iteF rfl ?_
      refine e_lst rfl ?_
      repeat k_caught0
      refine o_addl (.inl rfl) (.inl rfl) (by simp; lia) ?_
      repeat k_caught0
      exact step _ (by repeat' (first | exact ms_nil | refine ms_all ?_ ?_ | exact m0 | exact m1 | exact m2 | exact m3 | exact m4 | exact m5 | exact m6 | exact m7 | exact m8 | exact m9 | with_reducible exact ms_self | with_reducible refine ms_set (by decide) ?_ | with_reducible refine ms_s2 ?_ | with_reducible refine ms_s3 ?_))
  · obtain ⟨⟨fs, j, n', h1, h2, h3, rfl, h5, h6, h7, h8⟩⟩ := J
    exact h l fs n' σ₁ ⟨h8, by lia⟩ hs (by lia) h6 h7
end
end
section
theorem flatW_ne {w : Str} {ws : List Str} : (flatW (w :: ws) == S "") = false := by
  refine beq_eq_false_iff_ne.mpr fun z => ?_
  have : (flatW (w :: ws)).cps.toList = (S "").cps.toList := by rw [z]
  rw [flatW_cps, List.flatMap_cons] at this
  rw [show (S "").cps.toList = [] from emp_cps] at this
  simp at this
theorem files_ne {fs : List FilD} (h : fs ≠ []) : (flatW (filesS fs) != S "") = true := by
  cases fs with
  | nil => exact absurd rfl h
  | cons f fs =>
    rw [show filesS (f :: fs) = (if f.srt then S "SD" else S "FD") :: (filNm f.j :: (remS f.rm ++ S "." :: says f.rcd.ents) ++ filesS fs) from rfl]
    unfold bne
    rw [flatW_ne]; rfl
theorem recs_ne {rs : List RecD} (h : rs ≠ []) : (flatW (recsS rs) != S "") = true := by
  cases rs with
  | nil => exact absurd rfl h
  | cons r rs =>
    rw [show recsS (r :: rs) = S "01" :: ([r.nm, S "."] ++ (says (r.kids.flatMap KidD.ents ++ r.rn.toList.map rnEnt) ++ recsS rs)) by unfold recsS says; rw [List.flatMap_cons, List.flatMap_append]; rfl]
    unfold bne
    rw [flatW_ne]; rfl
theorem hd_DD : S "DATA DIVISION . " = flatW hDD := by decide +kernel
theorem hd_FS : S "FILE SECTION . " = flatW hFS := by decide +kernel
theorem hd_WS : S "WORKING-STORAGE SECTION . " = flatW hWS := by decide +kernel
theorem hd_LS : S "LINKAGE SECTION . " = flatW hLS := by decide +kernel
section
variable {k : Nat} {c : FC} {P : Post} {Q : V → Store → Prop} {X : Addr → Prop} {σ σ' : Store} {loc : Loc} {t : Addr} {n m : Nat}
theorem recs_name {lead : Str} {a : Nat} (hc : lead.cps.toList = [a]) (h1 : 65 ≤ a) (h2 : a ≤ 90) : ∀ j < 2, Nm0 (recNm lead j) 10 := fun j hj => by
  have hl : lead.length = 1 := by rw [show lead.length = lead.cps.toList.length by simp [Str.length], hc]; rfl
  obtain rfl | rfl : j = 0 ∨ j = 1 := by lia
  · have e : (Str.ofString (toString (0 : Int))).cps.toList = [48] := by decide +kernel
    refine ⟨⟨a, [48], by unfold recNm; rw [cps_app, hc]; exact congrArg _ e, h1, h2⟩, ?_, .inl ?_, ?_⟩
    · unfold recNm; rw [cps_app, hc]; intro m; rcases List.mem_append.mp m with m | m
      · have := List.mem_singleton.mp m; lia
      · rw [show (Str.ofString (toString ((0 : Nat) : Int))).cps.toList = [48] from e] at m; cases List.mem_singleton.mp m
    · unfold recNm; rw [cps_app]; exact List.mem_append_right _ (by rw [show (Str.ofString (toString ((0 : Nat) : Int))).cps.toList = [48] from e]; exact .head _)
    · unfold recNm; rw [Str.length_append, hl]; exact (show 1 + (Str.ofString (toString (0 : Int))).length ≤ 10 by decide +kernel)
  · have e : (Str.ofString (toString (1 : Int))).cps.toList = [49] := by decide +kernel
    refine ⟨⟨a, [49], by unfold recNm; rw [cps_app, hc]; exact congrArg _ e, h1, h2⟩, ?_, .inr ?_, ?_⟩
    · unfold recNm; rw [cps_app, hc]; intro m; rcases List.mem_append.mp m with m | m
      · have := List.mem_singleton.mp m; lia
      · rw [show (Str.ofString (toString ((1 : Nat) : Int))).cps.toList = [49] from e] at m; cases List.mem_singleton.mp m
    · unfold recNm; rw [cps_app]; exact List.mem_append_right _ (by rw [show (Str.ofString (toString ((1 : Nat) : Int))).cps.toList = [49] from e]; exact .head _)
    · unfold recNm; rw [Str.length_append, hl]; exact (show 1 + (Str.ofString (toString (1 : Int))).length ≤ 10 by decide +kernel)
theorem law_work (T : Top g) (hsc : c.sc = s_law) {fv sv dv : V} (hT : Tape σ t n) (hn : n ≤ 100)
    (h : ∀ lo rs n' σ', (∀ (x : Nat) r, rs[x]? = some r → RecG (recNm (S "W") x) 10 r) → rs.length ≤ 2 → (∀ p ∈ ([("working", .str (flatW (recsS rs))), ("due_working", .lst (rs.map RecD.due)), ("files", fv), ("sorts", sv), ("due_files", dv), ("tape", .ref t)] : Loc), p ∈ lo) → n' ≤ 120 → Tape σ' t n' → Ext [t] σ σ' → P.nx lo σ') :
    TS prog g (k + 15) c [("files", fv), ("sorts", sv), ("due_files", dv), ("tape", .ref t)] (lst 3) P X σ := by
  conv => arg 6; whnf
  repeat k_caught0
  refine c_records (k := k + 12) (m := 3) T hT (by lia) (recs_name (a := 87) (by decide +kernel) (by decide) (by decide)) (by decide +kernel) (by decide) (by decide) fun rs n' σ' h1 h2 h3 h4 h5 h6 => ?_
  repeat k_caught0
  exact h _ rs n' σ' h1 (by lia) (by repeat' (first | exact ms_nil | refine ms_all ?_ ?_ | exact m0 | exact m1 | exact m2 | exact m3 | exact m4 | exact m5 | exact m6 | exact m7 | exact m8 | exact m9 | with_reducible exact ms_self | with_reducible refine ms_set (by decide) ?_ | with_reducible refine ms_s2 ?_ | with_reducible refine ms_s3 ?_)) (by lia) h5 h6
theorem law_link (T : Top g) (hsc : c.sc = s_law) {wv uv fv sv dv : V} (hT : Tape σ t n) (hn : n ≤ 120)
    (h : ∀ lo rs n' σ', (∀ (x : Nat) r, rs[x]? = some r → RecG (recNm (S "L") x) 10 r) → rs.length ≤ 2 → (∀ p ∈ ([("linkage", .str (flatW (recsS rs))), ("due_linkage", .lst (rs.map RecD.due)), ("working", wv), ("due_working", uv), ("files", fv), ("sorts", sv), ("due_files", dv), ("tape", .ref t)] : Loc), p ∈ lo) → n' ≤ 140 → Tape σ' t n' → Ext [t] σ σ' → P.nx lo σ') :
    TS prog g (k + 15) c [("working", wv), ("due_working", uv), ("files", fv), ("sorts", sv), ("due_files", dv), ("tape", .ref t)] (lst 4) P X σ := by
  conv => arg 6; whnf
  repeat k_caught0
  refine c_records (k := k + 12) (m := 2) T hT (by lia) (recs_name (a := 76) (by decide +kernel) (by decide) (by decide)) (by decide +kernel) (by decide) (by decide) fun rs n' σ' h1 h2 h3 h4 h5 h6 => ?_
  repeat k_caught0
  exact h _ rs n' σ' h1 (by lia) (by repeat' (first | exact ms_nil | refine ms_all ?_ ?_ | exact m0 | exact m1 | exact m2 | exact m3 | exact m4 | exact m5 | exact m6 | exact m7 | exact m8 | exact m9 | with_reducible exact ms_self | with_reducible refine ms_set (by decide) ?_ | with_reducible refine ms_s2 ?_ | with_reducible refine ms_s3 ?_)) (by lia) h5 h6
theorem law_sec1 (T : Top g) (hsc : c.sc = s_law) {x y : Str} {lv ul wv uv sv dv : V} (hl : x.length ≤ 1000) (hy : y.length ≤ 100000) (hT : Tape σ t n) (hn : n ≤ 200)
    (h : ∀ lo b n' σ', (b = false → (y != S "") = false) → (∀ p ∈ ([("text", .str (x ++ if b then S "FILE SECTION . " ++ y else S "")), ("linkage", lv), ("due_linkage", ul), ("working", wv), ("due_working", uv), ("sorts", sv), ("due_files", dv), ("tape", .ref t)] : Loc), p ∈ lo) → n' ≤ n + 1 → Tape σ' t n' → Ext [t] σ σ' → P.nx lo σ') :
    TS prog g (k + 15) c [("text", .str x), ("linkage", lv), ("due_linkage", ul), ("working", wv), ("due_working", uv), ("files", .str y), ("sorts", sv), ("due_files", dv), ("tape", .ref t)] (lst 6) P X σ := by
  have b1 : (Str.ofString "FILE SECTION . ").length ≤ 60 := by decide +kernel
  have b2 : (Str.ofString "").length ≤ 60 := by decide +kernel
  conv => arg 6; whnf
  repeat k_caught0
  cases hne : (y != Str.ofString "") with
  | true =>
    refine iteT rfl ?_
    refine iteT rfl ?_
    repeat k_caught0
    refine o_adds (by apply olT <;> repeat' (first | with_reducible assumption | with_reducible apply ol | exact Eq.refl true)) ?_
    repeat k_caught0
    refine o_adds (by apply olT <;> repeat' (first | with_reducible assumption | with_reducible apply ol | exact Eq.refl true)) ?_
    exact h _ true n σ (fun z => nomatch z) (by repeat' (first | exact ms_nil | refine ms_all ?_ ?_ | exact m0 | exact m1 | exact m2 | exact m3 | exact m4 | exact m5 | exact m6 | exact m7 | exact m8 | exact m9 | with_reducible exact ms_self | with_reducible refine ms_set (by decide) ?_ | with_reducible refine ms_s2 ?_ | with_reducible refine ms_s3 ?_)) (by lia) hT (Ext.refl [t] σ)
  | false =>
    refine iteF rfl ?_
    repeat k_caught0
    refine c_draw T hT (by lia) (m := 2) (by decide) fun d σ1 hd hT1 e1 => ?_
    repeat k_caught0
    refine iteS (fun hb => ?_) fun hb => ?_
    · repeat k_caught0
      refine o_adds (by apply olT <;> repeat' (first | with_reducible assumption | with_reducible apply ol | exact Eq.refl true)) ?_
      repeat k_caught0
      refine o_adds (by apply olT <;> repeat' (first | with_reducible assumption | with_reducible apply ol | exact Eq.refl true)) ?_
      exact h _ true _ σ1 (fun z => nomatch z) (by repeat' (first | exact ms_nil | refine ms_all ?_ ?_ | exact m0 | exact m1 | exact m2 | exact m3 | exact m4 | exact m5 | exact m6 | exact m7 | exact m8 | exact m9 | with_reducible exact ms_self | with_reducible refine ms_set (by decide) ?_ | with_reducible refine ms_s2 ?_ | with_reducible refine ms_s3 ?_)) (by lia) hT1 e1
    · repeat k_caught0
      refine o_adds (by apply olT <;> repeat' (first | with_reducible assumption | with_reducible apply ol | exact Eq.refl true)) ?_
      exact h _ false _ σ1 (fun _ => hne) (by repeat' (first | exact ms_nil | refine ms_all ?_ ?_ | exact m0 | exact m1 | exact m2 | exact m3 | exact m4 | exact m5 | exact m6 | exact m7 | exact m8 | exact m9 | with_reducible exact ms_self | with_reducible refine ms_set (by decide) ?_ | with_reducible refine ms_s2 ?_ | with_reducible refine ms_s3 ?_)) (by lia) hT1 e1
theorem law_sec2 (T : Top g) (hsc : c.sc = s_law) {x y : Str} {lv ul uv sv dv : V} (hl : x.length ≤ 200000) (hy : y.length ≤ 100000) (hT : Tape σ t n) (hn : n ≤ 200)
    (h : ∀ lo b n' σ', (b = false → (y != S "") = false) → (∀ p ∈ ([("text", .str (x ++ if b then S "WORKING-STORAGE SECTION . " ++ y else S "")), ("linkage", lv), ("due_linkage", ul), ("due_working", uv), ("sorts", sv), ("due_files", dv), ("tape", .ref t)] : Loc), p ∈ lo) → n' ≤ n + 1 → Tape σ' t n' → Ext [t] σ σ' → P.nx lo σ') :
    TS prog g (k + 15) c [("text", .str x), ("linkage", lv), ("due_linkage", ul), ("working", .str y), ("due_working", uv), ("sorts", sv), ("due_files", dv), ("tape", .ref t)] (lst 7) P X σ := by
  have b1 : (Str.ofString "WORKING-STORAGE SECTION . ").length ≤ 60 := by decide +kernel
  have b2 : (Str.ofString "").length ≤ 60 := by decide +kernel
  conv => arg 6; whnf
  repeat k_caught0
  cases hne : (y != Str.ofString "") with
  | true =>
    refine iteT rfl ?_
    refine iteT rfl ?_
    repeat k_caught0
    refine o_adds (by apply olT <;> repeat' (first | with_reducible assumption | with_reducible apply ol | exact Eq.refl true)) ?_
    repeat k_caught0
    refine o_adds (by apply olT <;> repeat' (first | with_reducible assumption | with_reducible apply ol | exact Eq.refl true)) ?_
    exact h _ true n σ (fun z => nomatch z) (by repeat' (first | exact ms_nil | refine ms_all ?_ ?_ | exact m0 | exact m1 | exact m2 | exact m3 | exact m4 | exact m5 | exact m6 | exact m7 | exact m8 | exact m9 | with_reducible exact ms_self | with_reducible refine ms_set (by decide) ?_ | with_reducible refine ms_s2 ?_ | with_reducible refine ms_s3 ?_)) (by lia) hT (Ext.refl [t] σ)
  | false =>
    refine iteF rfl ?_
    repeat k_caught0
    refine c_draw T hT (by lia) (m := 2) (by decide) fun d σ1 hd hT1 e1 => ?_
    repeat k_caught0
    refine iteS (fun hb => ?_) fun hb => ?_
    · repeat k_caught0
      refine o_adds (by apply olT <;> repeat' (first | with_reducible assumption | with_reducible apply ol | exact Eq.refl true)) ?_
      repeat k_caught0
      refine o_adds (by apply olT <;> repeat' (first | with_reducible assumption | with_reducible apply ol | exact Eq.refl true)) ?_
      exact h _ true _ σ1 (fun z => nomatch z) (by repeat' (first | exact ms_nil | refine ms_all ?_ ?_ | exact m0 | exact m1 | exact m2 | exact m3 | exact m4 | exact m5 | exact m6 | exact m7 | exact m8 | exact m9 | with_reducible exact ms_self | with_reducible refine ms_set (by decide) ?_ | with_reducible refine ms_s2 ?_ | with_reducible refine ms_s3 ?_)) (by lia) hT1 e1
    · repeat k_caught0
      refine o_adds (by apply olT <;> repeat' (first | with_reducible assumption | with_reducible apply ol | exact Eq.refl true)) ?_
      exact h _ false _ σ1 (fun _ => hne) (by repeat' (first | exact ms_nil | refine ms_all ?_ ?_ | exact m0 | exact m1 | exact m2 | exact m3 | exact m4 | exact m5 | exact m6 | exact m7 | exact m8 | exact m9 | with_reducible exact ms_self | with_reducible refine ms_set (by decide) ?_ | with_reducible refine ms_s2 ?_ | with_reducible refine ms_s3 ?_)) (by lia) hT1 e1
theorem law_sec3 (T : Top g) (hsc : c.sc = s_law) {x y : Str} {ul uv sv dv : V} (hl : x.length ≤ 400000) (hy : y.length ≤ 100000) (hT : Tape σ t n) (hn : n ≤ 200)
    (h : ∀ lo b n' σ', (b = false → (y != S "") = false) → (∀ p ∈ ([("text", .str (x ++ if b then S "LINKAGE SECTION . " ++ y else S "")), ("due_linkage", ul), ("due_working", uv), ("sorts", sv), ("due_files", dv), ("tape", .ref t)] : Loc), p ∈ lo) → n' ≤ n + 1 → Tape σ' t n' → Ext [t] σ σ' → P.nx lo σ') :
    TS prog g (k + 15) c [("text", .str x), ("linkage", .str y), ("due_linkage", ul), ("due_working", uv), ("sorts", sv), ("due_files", dv), ("tape", .ref t)] (lst 8) P X σ := by
  have b1 : (Str.ofString "LINKAGE SECTION . ").length ≤ 60 := by decide +kernel
  have b2 : (Str.ofString "").length ≤ 60 := by decide +kernel
  conv => arg 6; whnf
  repeat k_caught0
  cases hne : (y != Str.ofString "") with
  | true =>
    refine iteT rfl ?_
    refine iteT rfl ?_
    repeat k_caught0
    refine o_adds (by apply olT <;> repeat' (first | with_reducible assumption | with_reducible apply ol | exact Eq.refl true)) ?_
    repeat k_caught0
    refine o_adds (by apply olT <;> repeat' (first | with_reducible assumption | with_reducible apply ol | exact Eq.refl true)) ?_
    exact h _ true n σ (fun z => nomatch z) (by repeat' (first | exact ms_nil | refine ms_all ?_ ?_ | exact m0 | exact m1 | exact m2 | exact m3 | exact m4 | exact m5 | exact m6 | exact m7 | exact m8 | exact m9 | with_reducible exact ms_self | with_reducible refine ms_set (by decide) ?_ | with_reducible refine ms_s2 ?_ | with_reducible refine ms_s3 ?_)) (by lia) hT (Ext.refl [t] σ)
  | false =>
    refine iteF rfl ?_
    repeat k_caught0
    refine c_draw T hT (by lia) (m := 2) (by decide) fun d σ1 hd hT1 e1 => ?_
    repeat k_caught0
    refine iteS (fun hb => ?_) fun hb => ?_
    · repeat k_caught0
      refine o_adds (by apply olT <;> repeat' (first | with_reducible assumption | with_reducible apply ol | exact Eq.refl true)) ?_
      repeat k_caught0
      refine o_adds (by apply olT <;> repeat' (first | with_reducible assumption | with_reducible apply ol | exact Eq.refl true)) ?_
      exact h _ true _ σ1 (fun z => nomatch z) (by repeat' (first | exact ms_nil | refine ms_all ?_ ?_ | exact m0 | exact m1 | exact m2 | exact m3 | exact m4 | exact m5 | exact m6 | exact m7 | exact m8 | exact m9 | with_reducible exact ms_self | with_reducible refine ms_set (by decide) ?_ | with_reducible refine ms_s2 ?_ | with_reducible refine ms_s3 ?_)) (by lia) hT1 e1
    · repeat k_caught0
      refine o_adds (by apply olT <;> repeat' (first | with_reducible assumption | with_reducible apply ol | exact Eq.refl true)) ?_
      exact h _ false _ σ1 (fun _ => hne) (by repeat' (first | exact ms_nil | refine ms_all ?_ ?_ | exact m0 | exact m1 | exact m2 | exact m3 | exact m4 | exact m5 | exact m6 | exact m7 | exact m8 | exact m9 | with_reducible exact ms_self | with_reducible refine ms_set (by decide) ?_ | with_reducible refine ms_s2 ?_ | with_reducible refine ms_s3 ?_)) (by lia) hT1 e1
end
end
section
noncomputable def optB {α : Type} (b : Bool) (a : α) : Option α := if b then some a else none
theorem sec_txt (h : List Str) (H x : Str) (ws : List Str) (b : Bool) (l : List Str) (e : H = flatW h) (hx : x = flatW l) : x ++ (if b then H ++ flatW ws else S "") = flatW (l ++ secS h (optB b ws)) := by
  cases b with
  | true => rw [e, hx]; exact (by rw [flatW_app, ← flatW_app h]; rfl)
  | false => rw [hx]; exact (by show _ ++ S "" = flatW (l ++ []); rw [app_emp, List.append_nil])
theorem opt_map {α β : Type} (b : Bool) (a : α) (f : α → β) : (optB b a).map f = optB b (f a) := by cases b <;> rfl
theorem opt_get {α : Type} {b : Bool} {a : List α} (h : b = false → a = []) : (optB b a).getD [] = a := by
  cases b with
  | true => rfl
  | false => rw [h rfl]; rfl
structure LT (lo : Loc) (σ : Store) (D : LawD) (dfa t : Addr) (n : Nat) : Prop where
  G : LawG D
  loc : ∀ p ∈ ([("text", .str (flatW D.body)), ("due_linkage", .lst ((D.lo.getD []).map RecD.due)), ("due_working", .lst ((D.wo.getD []).map RecD.due)), ("sorts", .lst (sortF (D.fo.getD []))), ("due_files", .ref dfa), ("tape", .ref t)] : Loc), p ∈ lo
  due : σ dfa = some (.list ((D.fo.getD []).map dueF))
  nd : dfa ≠ t
  tape : Tape σ t n
  le : n ≤ 200
section
variable {k : Nat} {c : FC} {P : Post} {Q : V → Store → Prop} {X : Addr → Prop} {σ σ' : Store} {loc : Loc} {t : Addr} {n m : Nat}
theorem law_head (T : Top g) (hsc : c.sc = s_law) {ns : List Int} (hl : ns.length ≤ 63) (h : ∀ lo σ' D dfa t n, LT lo σ' D dfa t n → TSs prog g (k + 15) c lo (b_law.drop 9) P X σ') : TSs prog g (k + 15) c [("script", .lst (ns.map V.int))] b_law P X σ := by
  conv => arg 6; whnf
  refine ss_cons (law_tape T hsc hl fun lo t σ1 hs hT => ?_)
  refine TSs.sub ?_ hs
  clear hs
  refine ss_cons (law_init T hsc hT fun lo dfa σ2 hs hd nd hT => ?_)
  refine TSs.sub ?_ hs
  clear hs
  refine ss_cons (law_files T hsc hT hd nd fun lo fs m3 σ3 fg hs hm hT hd => ?_)
  refine TSs.sub ?_ hs
  clear hs
  refine ss_cons (law_work T hsc hT hm fun lo ws m4 σ4 wg wl hs hm hT e4 => ?_)
  have hd := e4.get hd (by simpa using nd)
  refine TSs.sub ?_ hs
  clear hs e4
  refine ss_cons (law_link T hsc hT hm fun lo ls m5 σ5 lg ll hs hm hT e5 => ?_)
  have hd := e5.get hd (by simpa using nd)
  refine TSs.sub ?_ hs
  clear hs e5
  have fl := files_txt_len (fils_txt fg.all)
  have fg2 := fg.len
  have wlen := flatW_len (recsS_wd wg)
  have wlen2 := recsS_len wg wl
  have llen := flatW_len (recsS_wd lg)
  have llen2 := recsS_len lg ll
  generalize hfx : flatW (filesS fs) = fx at fl
  generalize hwx : flatW (recsS ws) = wx at wlen
  generalize hlx : flatW (recsS ls) = lx at llen
  refine ss_cons ?_
  iterate 3 k_caught0
  have xl0 : (Str.ofString "DATA DIVISION . ").length ≤ 60 := by decide +kernel
  have b0 : (S "FILE SECTION . ").length ≤ 60 ∧ (S "WORKING-STORAGE SECTION . ").length ≤ 60 ∧ (S "").length ≤ 60 := by decide +kernel
  have x0 : Str.ofString "DATA DIVISION . " = flatW hDD := hd_DD
  generalize Str.ofString "DATA DIVISION . " = x at xl0 x0
  refine ss_cons (law_sec1 T hsc (by lia) (by lia) hT (by lia) fun lo bf m6 σ6 hbf hs hm6 hT e6 => ?_)
  have hd := e6.get hd (by simpa using nd)
  refine TSs.sub ?_ hs
  clear hs e6
  rw [← hfx, sec_txt hFS _ _ (filesS fs) bf hDD hd_FS x0]
  have x1l : (flatW (hDD ++ secS hFS (optB bf (filesS fs)))).length ≤ 100000 := by
    rw [← sec_txt hFS _ x (filesS fs) bf hDD hd_FS x0, hfx]
    have : (if bf then S "FILE SECTION . " ++ fx else S "").length ≤ 60 + fx.length := by cases bf <;> simp [Str.length_append] <;> lia
    rw [Str.length_append]
    lia
  generalize hx1 : flatW (hDD ++ secS hFS (optB bf (filesS fs))) = x1 at x1l
  refine ss_cons (law_sec2 T hsc (by lia) (by lia) hT (by lia) fun lo bw m7 σ7 hbw hs hm7 hT e7 => ?_)
  have hd := e7.get hd (by simpa using nd)
  refine TSs.sub ?_ hs
  clear hs e7
  rw [← hwx, sec_txt hWS _ _ (recsS ws) bw _ hd_WS hx1.symm]
  have x2l : (flatW ((hDD ++ secS hFS (optB bf (filesS fs))) ++ secS hWS (optB bw (recsS ws)))).length ≤ 200000 := by
    rw [← sec_txt hWS _ x1 (recsS ws) bw _ hd_WS hx1.symm, hwx]
    have : (if bw then S "WORKING-STORAGE SECTION . " ++ wx else S "").length ≤ 60 + wx.length := by cases bw <;> simp [Str.length_append] <;> lia
    rw [Str.length_append]
    lia
  generalize hx2 : flatW ((hDD ++ secS hFS (optB bf (filesS fs))) ++ secS hWS (optB bw (recsS ws))) = x2 at x2l
  refine ss_cons (law_sec3 T hsc (by lia) (by lia) hT (by lia) fun lo bl m8 σ8 hbl hs hm8 hT e8 => ?_)
  have hd := e8.get hd (by simpa using nd)
  rw [← hlx, sec_txt hLS _ _ (recsS ls) bl _ hd_LS hx2.symm] at hs
  have gf : (optB bf fs).getD [] = fs := opt_get fun z => by
    by_cases q : fs = []
    · exact q
    · have := files_ne q; rw [hfx, hbf z] at this; cases this
  have gw : (optB bw ws).getD [] = ws := opt_get fun z => by
    by_cases q : ws = []
    · exact q
    · have := recs_ne q; rw [hwx, hbw z] at this; cases this
  have gl : (optB bl ls).getD [] = ls := opt_get fun z => by
    by_cases q : ls = []
    · exact q
    · have := recs_ne q; rw [hlx, hbl z] at this; cases this
  refine h lo σ8 ⟨optB bf fs, optB bw ws, optB bl ls, false⟩ dfa t m8 ⟨⟨fun gs e => ?_, fun rs e => ?_, fun rs e => ?_⟩, ?_, ?_, nd, hT, by lia⟩
  · have e : optB bf fs = some gs := e
    have e : gs = fs := by rw [← gf, e]; rfl
    subst e
    refine ⟨fils_txt fg.all, ?_, fg.len⟩
    rw [show gs.map FilD.j = List.range gs.length from ?_]
    · exact List.nodup_range
    · apply List.ext_getElem?
      intro x
      rw [List.getElem?_map]
      by_cases hx : x < gs.length
      · rw [List.getElem?_range hx, List.getElem?_eq_getElem hx]
        exact congrArg some (fg.all x _ (List.getElem?_eq_getElem hx)).2
      · rw [List.getElem?_eq_none (by lia), List.getElem?_eq_none (by simp; lia)]; rfl
  · have e : optB bw ws = some rs := e
    have e : rs = ws := by rw [← gw, e]; rfl
    subst e
    exact ⟨wg, wl⟩
  · have e : optB bl ls = some rs := e
    have e : rs = ls := by rw [← gl, e]; rfl
    subst e
    exact ⟨lg, ll⟩
  · show ∀ p ∈ ([("text", .str (flatW (hDD ++ (secS hFS ((optB bf fs).map filesS) ++ (secS hWS ((optB bw ws).map recsS) ++ secS hLS ((optB bl ls).map recsS)))))), ("due_linkage", .lst (((optB bl ls).getD []).map RecD.due)), ("due_working", .lst (((optB bw ws).getD []).map RecD.due)), ("sorts", .lst (sortF ((optB bf fs).getD []))), ("due_files", .ref dfa), ("tape", .ref t)] : Loc), p ∈ lo
    rw [gf, gw, gl, opt_map, opt_map, opt_map]
    simp only [List.append_assoc] at hs
    exact hs
  · show _ = some (O.list (((optB bf fs).getD []).map dueF))
    rw [gf]
    exact hd
end
end
section
noncomputable def LawD.fs (D : LawD) : List FilD := D.fo.getD []
noncomputable def LawD.ws (D : LawD) : List RecD := D.wo.getD []
noncomputable def LawD.ls (D : LawD) : List RecD := D.lo.getD []
structure LR (lo : Loc) (σ : Store) (D : LawD) (dfa r da : Addr) : Prop where
  G : LawG D
  loc : ∀ p ∈ ([("data", .ref da), ("reader", .ref r), ("is_followed", .bool D.pr), ("due_linkage", .lst (D.ls.map RecD.due)), ("due_working", .lst (D.ws.map RecD.due)), ("sorts", .lst (sortF D.fs)), ("due_files", .ref dfa)] : Loc), p ∈ lo
  due : σ dfa = some (.list (D.fs.map dueF))
  st : ∃ σ₀ R, St σ₀ σ r R da (D.fs.map FilD.d) D.ws D.ls (procW D.pr)
section
variable {k : Nat} {c : FC} {P : Post} {Q : V → Store → Prop} {X : Addr → Prop} {σ σ' : Store} {loc : Loc} {t : Addr} {n m : Nat}
theorem law_read (T : Top g) (hsc : c.sc = s_law) {a : Addr} (hcl : c.cl = [(Str.ofString "data", a)]) {lo : Loc} {D : LawD} {dfa : Addr} (L : LT lo σ D dfa t n) (h : ∀ lo σ' D r da, LR lo σ' D dfa r da → TSs prog g (k + 15) c lo (b_law.drop 12) P X σ') : TSs prog g (k + 15) c lo (b_law.drop 9) P X σ := by
  obtain ⟨G, hs, hd, nd, hT, hn⟩ := L
  refine TSs.sub ?_ hs
  clear hs
  have bl := flatW_len (ws := D.body) fun w hw => law_wd G w (List.mem_append_left _ hw)
  have bl2 : D.body.length ≤ 700 := Nat.le_trans (by unfold LawD.all; rw [List.length_append]; lia) (law_len G)
  generalize hx : flatW D.body = x at bl ⊢
  conv => arg 6; whnf
  repeat k_caught0
  refine c_draw T hT (by lia) (m := 2) (by decide) fun d σ1 hd1 hT1 e1 => ?_
  have hd := e1.get hd (by simpa using nd)
  repeat k_caught0
  generalize hpr : ((d : Int) == 0) = pr
  have G' : LawG ⟨D.fo, D.wo, D.lo, pr⟩ := ⟨G.fo, G.wo, G.lo⟩
  have htx := law_txt G'
  dsimp only at htx
  rw [show LawD.body ⟨D.fo, D.wo, D.lo, pr⟩ = D.body from rfl, hx] at htx
  repeat k_caught0
  have pl : (if pr = true then Str.ofString "PROCEDURE DIVISION ." else Str.ofString "").length ≤ 60 := by cases pr <;> decide +kernel
  refine o_adds (by lia) ?_
  repeat k_caught0
  refine c_strip (by rw [Str.length_append]; lia) ?_
  rw [htx]
  obtain ⟨ws, hall⟩ := law_cons ⟨D.fo, D.wo, D.lo, pr⟩
  have wd := law_wd G'
  have wl := law_len G'
  have tk := law_tk G'
  have fl := flatW_len wd
  rw [hall] at wd wl tk fl ⊢
  have jl : (Str.join spc (S "DATA" :: ws)).length ≤ 1000000 := by
    have := congrArg List.length (join_cps (S "DATA") ws)
    rw [← flatW_cps, List.length_append] at this
    have e1 : ∀ z : Str, z.length = z.cps.toList.length := fun z => by simp [Str.length]
    have f2 := fl
    rw [e1] at f2 ⊢
    have : ([32] : List Nat).length = 1 := rfl
    lia
  repeat k_caught0
  refine c_reader_of (k := k + 12) T rfl jl (fun y hy => ⟨(wd y hy).1, Nat.le_trans (wd y hy).2 (by decide)⟩) (by rw [List.length_cons] at wl; lia) fun r R rest σ2 hR hS hr sm fr => ?_
  have hd := sm.get hd
  repeat k_caught0
  refine s_assignC (lk_of hsc rfl) hcl ?_ (by intro _; rfl)
  repeat k_caught0
  refine c_read_data (k := k + 1) T hR hS (hr.trans tk) (law_ok G') fun da σ3 St3 => ?_
  have hd := St3.ext.get hd (by simp; intro z; rw [z, hR.self] at hd; cases hd)
  have ef : (LawD.toD ⟨D.fo, D.wo, D.lo, pr⟩).files.getD [] = (LawD.fs ⟨D.fo, D.wo, D.lo, pr⟩).map FilD.d := by
    show (D.fo.map (·.map FilD.d)).getD [] = (D.fo.getD []).map FilD.d
    cases D.fo <;> rfl
  rw [ef] at St3
  refine h _ σ3 ⟨D.fo, D.wo, D.lo, pr⟩ r da ⟨G', ?_, hd, ⟨_, R, St3⟩⟩
  simp [SetL, LawD.fs, LawD.ws, LawD.ls]
end
end
section
section
variable {k : Nat} {c : FC} {P : Post} {Q : V → Store → Prop} {X : Addr → Prop} {σ σ' : Store} {loc : Loc} {t : Addr} {n m : Nat}
theorem compOk2 {scope : Scope} {x y : String} {a : Addr} {w : V} (hcl : c.cl = [(Str.ofString y, a)]) (clos : ∀ c' : FC, c'.cl = [(Str.ofString y, a)] → closureFor scope c'.env = pure [(Str.ofString y, a)])
    (h : (scope.names.all fun z => decide (z.2 ≠ .cell ∧ (z.2 = .local → scope.names.lookup z.1 = some .local))) = true)
    (hk : scope.kind = .function) (hx : scope.names.lookup (Str.ofString x) = some .local) (hm : (y, w) ∈ loc) (hnl : c.sc.names.lookup (Str.ofString y) ≠ some .local) (hfr : ∀ c' : FC, c'.sc = c.sc → (relabel scope c'.env).names.lookup (Str.ofString y) = some .cell) : CompOk c scope [(Str.ofString y, a)] x loc [(y, w)] := by
  obtain ⟨h1, h2, h3, h4, h5, h6, _⟩ := compOk1 (x := x) (loc := loc) hcl clos h hk hx
  refine ⟨h1, h2, h3, h4, h5, h6, fun z u hz => ?_⟩
  obtain ⟨rfl, rfl⟩ : z = y ∧ u = w := by simpa using hz
  exact ⟨hm, hnl, .inl (hfr c rfl), fun b hb => by rw [hcl] at hb; exact hb⟩
noncomputable abbrev LRl (da r : Addr) (pr : Bool) (ul uw sv dv : V) : Loc := [("data", .ref da), ("reader", .ref r), ("is_followed", .bool pr), ("due_linkage", ul), ("due_working", uw), ("sorts", sv), ("due_files", dv)]
theorem law_12 (T : Top g) (hsc : c.sc = s_law) {r da : Addr} {R : RdA} {ts : List Tk} {pr : Bool} {ul uw sv dv : V} (hR : RD σ r R m ts) (hw : ts.map (·.2) = procW pr) (h : P.nx (LRl da r pr ul uw sv dv) σ) : TS prog g (k + 15) c (LRl da r pr ul uw sv dv) (lst 12) P X σ := by
  unfold LRl at h ⊢
  conv => arg 6; whnf
  cases pr with
  | false =>
    obtain rfl := says_nil hw
    repeat k_caught0
    exact h
  | true =>
    obtain ⟨p1, ts, rfl, i1, hw⟩ := says_cons hw
    obtain ⟨p2, ts, rfl, i2, hw⟩ := says_cons hw
    repeat k_caught0
    refine iteF (by rw [sp_pd, pWords2 i1 i2]; rfl) ?_
    repeat k_caught0
    refine iteF rfl ?_
    repeat k_caught0
    exact h
theorem deeps_map {α : Type} {f : α → V} {m : Nat} : ∀ {l : List α}, (∀ a ∈ l, (f a).deep ≤ m) → V.deeps (l.map f) ≤ m
  | [], _ => Nat.zero_le _
  | a :: l, h => by
    rw [List.map_cons, V.deeps]
    exact Nat.max_le.mpr ⟨h a (.head _), deeps_map fun b hb => h b (.tail _ hb)⟩
theorem deeps_app {m : Nat} : ∀ {l l' : List V}, V.deeps l ≤ m → V.deeps l' ≤ m → V.deeps (l ++ l') ≤ m
  | [], _, _, h => h
  | a :: l, l', h, h' => by
    rw [V.deeps] at h
    rw [List.cons_append, V.deeps]
    have := Nat.max_le.mp h
    exact Nat.max_le.mpr ⟨this.1, deeps_app this.2 h'⟩
theorem deep_rows : rowsV.deep ≤ 4 := by decide
theorem deep_kid (q : KidD) : q.due.deep ≤ 10 := by
  have := deep_rows
  obtain ⟨a, b, u, cn⟩ := q
  cases cn with
  | none => simp only [KidD.due, V.deep, V.deeps, Option.toList_none, List.map_nil]; lia
  | some x => simp only [KidD.due, V.deep, V.deeps, Option.toList_some, List.map_cons, List.map_nil] at this ⊢; lia
theorem deep_rn (p : Str × Str × Option Str) : (rnDue p).deep ≤ 10 := by
  obtain ⟨a, b, l⟩ := p
  cases l <;> (simp only [rnDue, optV, V.deep, V.deeps]; lia)
theorem deep_rec (r : RecD) : r.due.deep ≤ 20 := by
  have h1 : V.deeps (r.kids.map KidD.due) ≤ 10 := deeps_map fun q _ => deep_kid q
  have h2 : V.deeps (r.rn.toList.map rnDue) ≤ 10 := deeps_map fun q _ => deep_rn q
  have h3 := deeps_app h1 h2
  simp only [RecD.due, V.deep, V.deeps]
  lia
theorem deep_file (f : FilD) : (dueF f).deep ≤ 25 := by
  have := deep_rec f.rcd
  simp only [dueF, V.deep, V.deeps]
  lia
theorem sorts_eq (fs : List FilD) : sortsOf (fs.map FilD.d) = sortF fs := by
  unfold sortsOf sortF
  induction fs with
  | nil => rfl
  | cons f fs ih =>
    rw [List.map_cons, List.flatMap_cons, List.flatMap_cons, ih, fil_nm]
    rfl
theorem deep_sort (fs : List FilD) : V.deeps (sortF fs) ≤ 1 := by
  unfold sortF
  induction fs with
  | nil => exact Nat.zero_le _
  | cons f fs ih =>
    rw [List.flatMap_cons]
    refine deeps_app ?_ ih
    cases f.srt <;> simp [V.deep, V.deeps]
theorem seenR_fn {z : Addr} {σ : Store} {n : Nat} (w v v' : V) (h : SeenR z σ n w v) (h' : SeenR z σ n w v') : v = v' := by
  obtain ⟨b, e, x⟩ := h
  obtain ⟨b', e', x'⟩ := h'
  rw [e] at e'
  cases e'
  exact seen_fn n b v v' x x'
theorem seenR_all {z : Addr} {σ σ' : Store} {n : Nat} : ∀ {as : List Addr} {vs : List V}, All2 (SeenAt z σ n) as vs → Same σ σ' → All2 (SeenR z σ' n) (as.map V.ref) vs
  | [], [], _, _ => trivial
  | a :: as, v :: vs, h, s => ⟨⟨a, rfl, h.1.same s⟩, seenR_all h.2 s⟩
  | [], _ :: _, h, _ => h.elim
  | _ :: _, [], h, _ => h.elim
noncomputable def NR (fs : List FilD) (w v : V) : Prop := ∃ f ∈ fs, w = .str (filNm f.j) ∧ v = dueF f
theorem nr_fn {fs : List FilD} (hj : ∀ f ∈ fs, f.j < 2) (hn : (fs.map FilD.j).Nodup) (w v v' : V) (h : NR fs w v) (h' : NR fs w v') : v = v' := by
  obtain ⟨f, hf, rfl, rfl⟩ := h
  obtain ⟨f', hf', e, rfl⟩ := h'
  have e : filNm f.j = filNm f'.j := V.str.inj e
  have e := filNm_inj (hj f hf) (hj f' hf') e
  have key : ∀ l : List FilD, (l.map FilD.j).Nodup → f ∈ l → f' ∈ l → f = f' := fun l => by
    induction l with
    | nil => intro _ h; cases h
    | cons a l ih =>
      intro hn h1 h2
      rw [List.map_cons, List.nodup_cons] at hn
      rcases List.mem_cons.mp h1 with h1 | h1
      · rcases List.mem_cons.mp h2 with h2 | h2
        · rw [h1, h2]
        · exact absurd (List.mem_map.mpr ⟨f', h2, by rw [← e, h1]⟩) hn.1
      · rcases List.mem_cons.mp h2 with h2 | h2
        · exact absurd (List.mem_map.mpr ⟨f, h1, by rw [e, h2]⟩) hn.1
        · exact ih hn.2 h1 h2
  rw [key fs hn hf hf']
theorem law_13 (T : Top g) (hsc : c.sc = s_law) {a : Addr} (hcl : c.cl = [(Str.ofString "data", a)]) {r da d w l f s ix dfa : Addr} {ws ls : List V} {kvs : List (Str × V)} {fs : List FilD} {pr : Bool} {ul uw : V} (D : DataAt σ da d w l f s ix ws ls kvs (sortsOf (fs.map FilD.d))) (hk : All2 (FileAt s σ) kvs (fs.map FilD.d)) (hj : ∀ f ∈ fs, f.j < 2) (hjn : (fs.map FilD.j).Nodup) (hfl : fs.length ≤ 2)
    (hd : σ dfa = some (.list (fs.map dueF))) (h : ∀ σ', Same σ σ' → P.nx (LRl da r pr ul uw (.lst (sortF fs)) (.ref dfa)) σ') : TS prog g (k + 15) c (LRl da r pr ul uw (.lst (sortF fs)) (.ref dfa)) (lst 13) P X σ := by
  obtain ⟨h1, h2, h3, ⟨nf, h4⟩, h5, h6, h7⟩ := D
  unfold LRl at h ⊢
  conv => arg 6; whnf
  refine s_if ?_
  refine t_or ?_
  refine t_cmp ?_ (by with_unfolding_all rfl)
  refine e_comp T.ok (compOk2 (w := .ref da) hcl (fun c' h' => by obtain ⟨_, _, _, _, _, _, _⟩ := c'; subst h'; kernel_rfl) (by rfl) rfl rfl (.head _) (by rw [hsc]; decide +kernel) (fun c' h' => by rw [hsc] at h'; obtain ⟨_, _, _, _, _, _, _⟩ := c'; subst h'; kernel_rfl)) ?_ (by intro _ _; rfl)
  repeat k_caught0
  have hkl := hk.length
  rw [List.length_map] at hkl
  have nr : All2 (NR fs) (kvs.map fun p => V.str p.1) (fs.map dueF) := by
    have : ∀ (kvs : List (Str × V)) (gs : List FilD), (∀ f ∈ gs, f ∈ fs) → All2 (FileAt s σ) kvs (gs.map FilD.d) → All2 (NR fs) (kvs.map fun p => V.str p.1) (gs.map dueF) := fun kvs => by
      induction kvs with
      | nil => intro gs _ h; cases gs with | nil => trivial | cons _ _ => exact h.elim
      | cons p kvs ih =>
        intro gs hm h
        cases gs with
        | nil => exact h.elim
        | cons f gs => exact ⟨⟨f, hm f (.head _), by show V.str p.1 = _; rw [h.1.1, fil_nm], rfl⟩, ih gs (fun f hf => hm f (.tail _ hf)) h.2⟩
    exact this kvs fs (fun _ h => h) hk
  refine ⟨_, [f], pick (NR fs), Src.dict T.ok T.hb h4, by simp [h4], by rw [List.length_map]; lia, fun C w σ₂ hw sm => ?_, fun σ₂ sm => ?_⟩
  · obtain ⟨p, hp, rfl⟩ := List.mem_map.mp hw
    obtain ⟨fd, hfd, hfa⟩ := all2_mem hk p hp
    obtain ⟨f0, hf0, rfl⟩ := List.mem_map.mp hfd
    obtain ⟨hpn, rr, ras, hp2, nrs, hrr, hras⟩ := hfa
    rw [fil_nm] at hpn
    have hpk : pick (NR fs) (.str p.1) = some (dueF f0) := pick_of (nr_fn hj hjn) ⟨f0, hf0, by rw [hpn], rfl⟩
    have hget : dget kvs p.1 = some (.ref rr) := by
      have key : ∀ l : List (Str × V), (l.map (·.1)).Nodup → p ∈ l → dget l p.1 = some p.2 := fun l => by
        induction l with
        | nil => intro _ h; cases h
        | cons q l ih =>
          intro hn hm
          rw [List.map_cons, List.nodup_cons] at hn
          unfold dget
          rw [List.find?_cons]
          by_cases e : q.1 = p.1
          · rcases List.mem_cons.mp hm with hm | hm
            · simp [hm]
            · exact absurd (List.mem_map.mpr ⟨p, hm, e.symm⟩) hn.1
          · rw [show decide (q.1 = p.1) = false from decide_eq_false e]
            rcases List.mem_cons.mp hm with hm | hm
            · exact absurd (congrArg Prod.fst hm).symm e
            · exact ih hn.2 hm
      rw [← hp2]
      refine key kvs ?_ hp
      rw [kvs_names hk, List.map_map, show ((fun x => x.nm) ∘ FilD.d) = filNm ∘ FilD.j from funext fil_nm, ← List.map_map]
      have k2 : ∀ l : List Nat, (∀ j ∈ l, j < 2) → l.Nodup → (l.map filNm).Nodup := fun l => by
        induction l with
        | nil => intro _ _; exact .nil
        | cons j l ih =>
          intro hl hn
          rw [List.nodup_cons] at hn
          rw [List.map_cons, List.nodup_cons]
          refine ⟨fun hm => ?_, ih (fun i hi => hl i (.tail _ hi)) hn.2⟩
          obtain ⟨i, hi, e⟩ := List.mem_map.mp hm
          exact hn.1 (filNm_inj (hl i (.tail _ hi)) (hl j (.head _)) e ▸ hi)
      exact k2 _ (fun j h => by obtain ⟨f, hf, rfl⟩ := List.mem_map.mp h; exact hj f hf) hjn
    have h1' := sm.get h1
    have h4' := sm.get h4
    have hrr' := sm.get hrr
    have lras : ras.length = 1 := hras.length
    have hal : All2 (SeenR s σ₂ 2) (ras.map V.ref) [f0.rcd.due] := seenR_all hras sm
    refine turn0 fun c' hsc' hcl' => te_set (.miss (by decide) .nil) ?_
    repeat k_caught0
    refine e_comp T.ok (compOk0 (by rfl) rfl rfl) ?_ (by intro _ _; rfl)
    repeat k_caught0
    refine i_dict T.ok T.hb (fun _ _ => rfl) (.inr ⟨nf, h4'⟩) hget ?_
    refine ⟨_, [rr], pick (SeenR s σ₂ 2), Src.ref T.ok hrr', by simp [hrr'], by rw [List.length_map]; lia, fun C w σ₃ hw sm3 => ?_, fun σ₃ sm3 => ?_⟩
    · obtain ⟨v, hv⟩ := all2_rel hal w hw
      have hpv := pick_of seenR_fn hv
      obtain ⟨b, rfl, hb⟩ := hv
      refine turn0 fun c2 hsc2 _ => te_set .nil ?_
      repeat k_caught0
      exact c_seen (k := k + 11) T 2 (hb.same sm3) fun σ4 sm4 => ⟨hpv, sm4⟩
    · rw [pick_all seenR_fn hal]
      repeat k_caught0
      refine ⟨?_, sm3⟩
      rw [hpk, hpn]
      rfl
  · rw [pick_all (nr_fn hj hjn) nr]
    have hd2 := sm.get hd
    repeat k_caught0
    refine o_nel (.inl rfl) (.inr ⟨_, rfl, hd2⟩) (.inl ⟨rfl, Nat.le_trans (deeps_map fun f _ => deep_file f) (by decide)⟩) ?_
    refine iteF (by simp) ?_
    have h1' := sm.get h1
    have h5' := sm.get h5
    repeat k_caught0
    refine o_nel (.inr ⟨_, rfl, h5'⟩) (.inl rfl) (.inl ⟨sorts_eq fs, by rw [sorts_eq]; exact Nat.le_trans (deep_sort fs) (by decide)⟩) ?_
    refine iteF (by rw [sorts_eq]; simp) ?_
    repeat k_caught0
    exact h _ sm
end
end
section
section
variable {k : Nat} {c : FC} {P : Post} {Q : V → Store → Prop} {X : Addr → Prop} {σ σ' : Store} {loc : Loc} {t : Addr} {n m : Nat}
theorem law_14 (T : Top g) (hsc : c.sc = s_law) {r da d w l f s ix : Addr} {was las : List Addr} {kvs : List (Str × V)} {ss : List V} {wds lds : List RecD} {pr : Bool} {sv dv : V} (D : DataAt σ da d w l f s ix (was.map .ref) (las.map .ref) kvs ss) (hwa : All2 (SeenAt s σ 2) was (wds.map RecD.due)) (hla : All2 (SeenAt s σ 2) las (lds.map RecD.due))
    (hwl : wds.length ≤ 2) (hll : lds.length ≤ 2) (h : ∀ σ', P.nx (LRl da r pr (.lst (lds.map RecD.due)) (.lst (wds.map RecD.due)) sv dv) σ') : TS prog g (k + 15) c (LRl da r pr (.lst (lds.map RecD.due)) (.lst (wds.map RecD.due)) sv dv) (lst 14) P X σ := by
  obtain ⟨h1, h2, h3, ⟨nf, h4⟩, h5, h6, h7⟩ := D
  have lw : was.length ≤ 2 := by have := hwa.length; rw [List.length_map] at this; lia
  have ll : las.length ≤ 2 := by have := hla.length; rw [List.length_map] at this; lia
  unfold LRl at h ⊢
  conv => arg 6; whnf
  refine s_if ?_
  refine t_or ?_
  refine t_cmp ?_ (by with_unfolding_all rfl)
  refine e_comp T.ok (compOk0 (by rfl) rfl rfl) ?_ (by intro _ _; rfl)
  repeat k_caught0
  have hal := seenR_all hwa (Same.refl σ)
  refine ⟨_, [w], pick (SeenR s σ 2), Src.ref T.ok h2, by simp [h2], by rw [List.length_map]; lia, fun C w σ₃ hw sm3 => ?_, fun σ₂ sm => ?_⟩
  · obtain ⟨v, hv⟩ := all2_rel hal w hw
    have hpv := pick_of seenR_fn hv
    obtain ⟨b, rfl, hb⟩ := hv
    refine turn0 fun c2 hsc2 _ => te_set .nil ?_
    repeat k_caught0
    exact c_seen (k := k + 11) T 2 (hb.same sm3) fun σ4 sm4 => ⟨hpv, sm4⟩
  rw [pick_all seenR_fn hal]
  have h1' := sm.get h1
  have h3' := sm.get h3
  repeat k_caught0
  refine o_nel (.inl rfl) (.inl rfl) (.inl ⟨rfl, Nat.le_trans (deeps_map fun f _ => deep_rec f) (by decide)⟩) ?_
  refine iteF (by simp) ?_
  refine t_cmp ?_ (by with_unfolding_all rfl)
  refine e_comp T.ok (compOk0 (by rfl) rfl rfl) ?_ (by intro _ _; rfl)
  repeat k_caught0
  have hal2 := seenR_all hla sm
  refine ⟨_, [l], pick (SeenR s σ₂ 2), Src.ref T.ok h3', by simp [h3'], by rw [List.length_map]; lia, fun C w σ₃ hw sm3 => ?_, fun σ₃ sm3 => ?_⟩
  · obtain ⟨v, hv⟩ := all2_rel hal2 w hw
    have hpv := pick_of seenR_fn hv
    obtain ⟨b, rfl, hb⟩ := hv
    refine turn0 fun c2 hsc2 _ => te_set .nil ?_
    repeat k_caught0
    exact c_seen (k := k + 11) T 2 (hb.same sm3) fun σ4 sm4 => ⟨hpv, sm4⟩
  rw [pick_all seenR_fn hal2]
  repeat k_caught0
  refine o_nel (.inl rfl) (.inl rfl) (.inl ⟨rfl, Nat.le_trans (deeps_map fun f _ => deep_rec f) (by decide)⟩) ?_
  refine iteF (by simp) ?_
  repeat k_caught0
  exact h _
end
end
section
noncomputable def LstOnly (σ : Store) : Prop := ∀ a o, σ a = some o → ∃ vs, o = O.list vs
theorem LstOnly.upd {σ : Store} (h : LstOnly σ) (a : Addr) (vs : List V) : LstOnly (upd σ a (.list vs)) := fun b o e => by
  by_cases q : b = a
  · subst q; rw [upd_self] at e; cases e; exact ⟨_, rfl⟩
  · rw [upd_ne q] at e; exact h b o e
section
variable {k : Nat} {c : FC} {P : Post} {Q : V → Store → Prop} {X : Addr → Prop} {σ σ' : Store} {loc : Loc} {t : Addr} {n m : Nat}
theorem turn1J {J : Store → Prop} {scope : Scope} {cl : List (Str × Addr)} {C : Addr} {loc : Loc} {t elt : Expr} {r : Option V} (h : ∀ c' : FC, c'.sc = relabel scope c.env → TB prog g k c' loc t (fun b σ₁ => Same σ σ₁ ∧ J σ₁ ∧ if b then TE prog g k c' loc elt (fun w σ' => r = some w ∧ Same σ₁ σ' ∧ J σ') (fun _ => False) σ₁ else r = none) (fun _ => False) σ) : TurnJ J prog g k (cfc c scope cl C) loc [t] elt r σ := h _ rfl
theorem law_15 (T : Top g) (hsc : c.sc = s_law) (h : ∀ r R rest σ', RD σ' r R 0 rest → rest.map (·.2) = hPD.map tkOf → P.nx [("empty", .ref r)] σ') : TS prog g (k + 15) c [] (lst 15) P X σ := by
  conv => arg 6; whnf
  repeat k_caught0
  refine c_reader_of (k := k + 12) T pd_join (by decide +kernel) (fun y hy => ?_) (by decide) fun r R rest σ2 hR hS hr sm fr => ?_
  · have := heads_wd y (by simp only [List.mem_append]; exact .inr hy)
    exact ⟨this.1, Nat.le_trans this.2 (by decide)⟩
  repeat k_caught0
  exact h r R rest σ2 hR hr
theorem law_16 (T : Top g) (hsc : c.sc = s_law) {r : Addr} {R : RdA} {rest : List Tk} (hR : RD σ r R 0 rest) (hw : rest.map (·.2) = hPD.map tkOf) (h : ∀ σ', P.nx [("empty", .ref r)] σ') : TS prog g (k + 15) c [("empty", .ref r)] (lst 16) P X σ := by
  conv => arg 6; whnf
  obtain ⟨p1, ts, rfl, i1, hw⟩ := says_cons hw
  repeat k_caught0
  refine c_read_none (k := k + 7) T hR (by rw [i1.2]; decide +kernel) fun da d w l f s ix σ1 D sm => ?_
  have hR1 := hR.same sm
  have hda := D.self
  repeat k_caught0
  refine c_told_empty (k := k + 14) T D fun σ2 sm2 => ?_
  have hR2 := hR1.same sm2
  clear hR hR1
  repeat k_caught0
  refine o_net (by decide) ?_
  repeat k_caught0
  exact h _
noncomputable def wrongS : List Str := [Str.ofString "DATA DIVISION", Str.ofString "DATA DIVISION . LINKAGE SECTION . WORKING-STORAGE SECTION .", Str.ofString "DATA DIVISION . FILE SECTION . FD F . ", Str.ofString "DATA DIVISION . FILE SECTION . FD F . 01 A . SD F . 01 B .", Str.ofString "DATA DIVISION . FILE SECTION . FD F 01 A", Str.ofString "DATA DIVISION . 01 A ."]
theorem refused1 (T : Top g) {x w : Str} {ws : List Str} (hx : Txt.stripChars x spc = Str.join spc (w :: ws)) (hw : (w :: ws).all wdB = true) (hl : (Str.join spc (w :: ws)).length ≤ 1000000) (hn : ws.length ≤ 800)
    (bad : ∀ r R rest σ', RD σ' r R 0 rest → Short R → rest.map (·.2) = (w :: ws).map tkOf → CV prog g (k + 14) (.ref 393) [.ref r] (fun _ _ => False) (fun C => C = 84) σ') : CV prog g (k + 15) (.ref 705) [.str (Txt.stripChars x spc)] (fun v _ => v = .bool true) X s0 := by
  rw [hx]
  refine c_refused T rfl hl (fun y hy => ?_) hn bad
  have := wdB_ok (List.all_eq_true.mp hw y hy)
  exact ⟨this.1, Nat.le_trans this.2 (by decide)⟩
theorem refused (T : Top g) {x : Str} (h : x ∈ wrongS) : CV prog g (k + 15) (.ref 705) [.str (Txt.stripChars x spc)] (fun v _ => v = .bool true) X s0 := by
  unfold wrongS at h
  simp only [List.mem_cons, List.not_mem_nil, or_false] at h
  rcases h with rfl | rfl | rfl | rfl | rfl | rfl
  · exact refused1 T (w := S "DATA") (ws := [S "DIVISION"]) (by decide +kernel) (by decide +kernel) (by decide +kernel) (by decide) fun r R rest σ' hR hS hw => bad1 T hR (hw.trans (by decide +kernel)) rfl
  · exact refused1 T (w := S "DATA") (ws := [S "DIVISION", S ".", S "LINKAGE", S "SECTION", S ".", S "WORKING-STORAGE", S "SECTION", S "."]) (by decide +kernel) (by decide +kernel) (by decide +kernel) (by decide) fun r R rest σ' hR hS hw => bad2 T hR hS (hw.trans (by decide +kernel)) rfl
  · exact refused1 T (w := S "DATA") (ws := [S "DIVISION", S ".", S "FILE", S "SECTION", S ".", S "FD", S "F", S "."]) (by decide +kernel) (by decide +kernel) (by decide +kernel) (by decide) fun r R rest σ' hR hS hw => bad3 T hR hS (hw.trans (by decide +kernel)) rfl
  · exact refused1 T (w := S "DATA") (ws := [S "DIVISION", S ".", S "FILE", S "SECTION", S ".", S "FD", S "F", S ".", S "01", S "A", S ".", S "SD", S "F", S ".", S "01", S "B", S "."]) (by decide +kernel) (by decide +kernel) (by decide +kernel) (by decide) fun r R rest σ' hR hS hw => bad4 T hR hS (hw.trans (by decide +kernel)) rfl
  · exact refused1 T (w := S "DATA") (ws := [S "DIVISION", S ".", S "FILE", S "SECTION", S ".", S "FD", S "F", S "01", S "A"]) (by decide +kernel) (by decide +kernel) (by decide +kernel) (by decide) fun r R rest σ' hR hS hw => bad5 T hR hS (hw.trans (by decide +kernel)) rfl
  · exact refused1 T (w := S "DATA") (ws := [S "DIVISION", S ".", S "01", S "A", S "."]) (by decide +kernel) (by decide +kernel) (by decide +kernel) (by decide) fun r R rest σ' hR hS hw => bad6 T hR hS (hw.trans (by decide +kernel)) rfl
theorem law_18 (T : Top g) (hsc : c.sc = s_law) (h : ∀ σ', P.rt (.bool true) σ') : TSs prog g (k + 15) c [] (b_law.drop 17) P X s0 := by
  conv => arg 6; whnf
  repeat k_caught0
  refine e_lst rfl ?_
  repeat k_caught0
  refine e_compJ (J := LstOnly) (fun _ a vs h => h.upd a vs) T.ok (compOk0 (by rfl) rfl rfl) ?_ (by intro _ _; rfl)
  repeat k_caught0
  refine ⟨_, [], fun _ => none, Src.lst T.ok, by simp, by decide, (fun a o e => nomatch e), fun C w σ₂ hw sm hj => ?_, fun σ₂ sm => ?_⟩
  · have hw : ∃ x ∈ wrongS, w = .str x := by
      have : w ∈ wrongS.map V.str := hw
      obtain ⟨x, hx, rfl⟩ := List.mem_map.mp this
      exact ⟨x, hx, rfl⟩
    obtain ⟨x, hx, rfl⟩ := hw
    have hlx : x.length ≤ 1000000 := of_decide_eq_true (List.all_eq_true.mp (show (wrongS.all fun x => decide (x.length ≤ 1000000)) = true by decide +kernel) x hx)
    refine turn1J fun c' hsc' => tb_set .nil ?_
    repeat k_caught0
    refine c_strip hlx ?_
    repeat k_caught0
    refine CV.sandbox (R := fun b => b = true) (fun _ _ _ _ z => by rw [VR] at z ⊢; exact z) hj (fun _ _ _ _ z => ?_) ((refused T hx).mono fun v _ e => ⟨true, e, rfl⟩) fun b e => ?_
    · rw [VRs] at z ⊢
      obtain ⟨y, ys, rfl, a, b⟩ := z
      refine ⟨y, ys, rfl, ?_, ?_⟩
      · rw [VR] at a ⊢; exact a
      · rw [VRs] at b ⊢; exact b
    · subst e
      repeat k_caught0
      exact ⟨Same.refl _, hj, rfl⟩
  · rw [show List.filterMap (fun _ => (none : Option V)) _ = [] from rfl]
    repeat k_caught0
    refine e_lst rfl ?_
    repeat k_caught0
    refine o_eql (.inl rfl) (.inl rfl) (.inl ⟨rfl, by decide⟩) ?_
    repeat k_caught0
    exact h _
theorem law_tail (T : Top g) (hsc : c.sc = s_law) {a : Addr} (hcl : c.cl = [(Str.ofString "data", a)]) {lo : Loc} {D : LawD} {dfa r da : Addr} (L : LR lo σ D dfa r da) (h : ∀ σ', P.rt (.bool true) σ') : TSs prog g (k + 15) c lo (b_law.drop 12) P X σ := by
  obtain ⟨G, hs, hd, σ₀, R, ⟨⟨d, w, l, f, s, ix, was, las, kvs, ts, m, hR, hw, D1, hk, hwa, hla, _, _⟩, _, _⟩⟩ := L
  refine TSs.sub ?_ hs
  clear hs
  have gf : (∀ f ∈ D.fs, f.j < 2) ∧ (D.fs.map FilD.j).Nodup ∧ D.fs.length ≤ 2 := by
    unfold LawD.fs
    cases e : D.fo with
    | none => exact ⟨fun _ z => (nomatch z), .nil, Nat.zero_le _⟩
    | some fs => exact ⟨fun f hf => ((G.fo fs e).1 f hf).j, (G.fo fs e).2⟩
  have gw : D.ws.length ≤ 2 := by
    unfold LawD.ws
    cases e : D.wo with
    | none => exact Nat.zero_le _
    | some rs => exact (G.wo rs e).2
  have gl : D.ls.length ≤ 2 := by
    unfold LawD.ls
    cases e : D.lo with
    | none => exact Nat.zero_le _
    | some rs => exact (G.lo rs e).2
  conv => arg 6; whnf
  refine ss_cons (law_12 T hsc hR hw ?_)
  refine ss_cons (law_13 T hsc hcl D1 hk gf.1 gf.2.1 gf.2.2 hd fun σ2 sm => ?_)
  have D2 : DataAt σ2 da d w l f s ix (was.map .ref) (las.map .ref) kvs (sortsOf (D.fs.map FilD.d)) := ⟨sm.get D1.self, sm.get D1.work, sm.get D1.link, ⟨D1.file.choose, sm.get D1.file.choose_spec⟩, sm.get D1.sort, D1.nsw, D1.nsl⟩
  refine ss_cons (law_14 T hsc D2 (hwa.imp fun _ _ _ z => z.same sm) (hla.imp fun _ _ _ z => z.same sm) gw gl fun σ3 => ?_)
  refine TSs.sub (loc' := []) ?_ (fun _ z => nomatch z)
  refine ss_forget ?_
  refine ss_cons (law_15 T hsc fun r R rest σ4 h1 h2 => ?_)
  refine ss_cons (law_16 T hsc h1 h2 fun σ5 => ?_)
  refine TSs.sub (loc' := []) ?_ (fun _ z => nomatch z)
  refine ss_forget ?_
  exact law_18 T hsc h
end
theorem law_true (T : Top g) {ns : List Int} {c : FC} {a : Addr} (hl : ns.length ≤ 63) (hsc : c.sc = s_law) (hcl : c.cl = [(Str.ofString "data", a)]) : TSs prog g 15 c [("script", .lst (ns.map V.int))] b_law ⟨fun _ _ => V.none = V.bool true, fun v _ => v = .bool true, fun _ _ => False⟩ (fun _ => False) s0 :=
  law_head (k := 0) T hsc hl fun lo σ1 D dfa t n L => law_read (k := 0) T hsc hcl L fun lo σ2 D r da L => law_tail (k := 0) T hsc hcl L fun _ => rfl
end
end Mine.Internal
theorem PySem.Challenge.cw_pc0154_01_holds : PySem.Challenge.rw_pc0154_01.Holds :=
  Mine.Internal.the_law_of fun T _ _ _ hl hsc hcl => Mine.Internal.law_true T hl hsc hcl
