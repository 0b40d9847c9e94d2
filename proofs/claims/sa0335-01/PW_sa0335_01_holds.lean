import PyProof.Rows.All
import Wide.All
import OpenK.AllK
import Wide.FinOn
import PySem.Challenge.RW_sa0335_01
set_option Elab.async false
set_option maxRecDepth 100000
set_option compiler.extract_closed false
namespace Mine
open PySem PySem.W PyProof.Rows
set_option maxHeartbeats 8000000 in
open_top hd for PySem.Challenge.rw_sa0335_01
end Mine
namespace Mine
open PySem PySem.W PySem.Calls PyProof.Rows

/-- no exception comes out -/
abbrev Nope : Value → Shared → Prop := fun _ _ => False
/-- the state with another heap and another count of tokens -/
noncomputable def St (s : Shared) (h : Heap) (t : Nat) : Shared := { s with heap := h, toks := t }
theorem St.heap (s : Shared) (h : Heap) (t : Nat) : (St s h t).heap = h := rfl
noncomputable def Grow (h h' : Heap) : Prop := ∀ b o, h.get? b = some o → h'.get? b = some o
theorem Grow.refl (h : Heap) : Grow h h := fun _ _ e => e
theorem Grow.trans {a b c : Heap} (x : Grow a b) (y : Grow b c) : Grow a c := fun _ _ e => y _ _ (x _ _ e)
theorem Grow.push (h : Heap) (o : Obj) : Grow h (h.push o) := fun _ _ e => Heap.get?_push_of_some _ e

structure Room (A : Around) (k : Nat) : Prop where
  handled : A.handled = none
  depth : A.depth + k < 1000
  units : A.units + 8 * k + 16 < 9900
theorem Room.le {A : Around} {k j : Nat} (R : Room A k) (h : j ≤ k) : Room A j := ⟨R.handled, by have := R.depth; (first | lia | omega), by have := R.units; (first | lia | omega)⟩
theorem Room.deeper {A : Around} {k : Nat} {env : Env} (R : Room A (k + 1)) : Room (A.deeper env) k :=
  ⟨R.handled, by have := R.depth; show A.depth + 1 + k < 1000; (first | lia | omega), by have := R.units; show A.units + 3 + 8 * k + 16 < 9900; (first | lia | omega)⟩
theorem Room.limit {A : Around} {k : Nat} (R : Room A k) : A.depth < recursionLimit := by
  have := R.depth; unfold recursionLimit; (first | lia | omega)
/-- what is known of a value -/
inductive AV where
  | int (i : Int)
  | bool (b : Bool)
  | ref (a : Addr)
  | nil
noncomputable def AV.is : AV → Value → Prop
  | .int i, v => ∃ t, v = .int i t
  | .bool b, v => v = .bool b
  | .ref a, v => v = .ref a
  | .nil, v => v = .none
noncomputable def AVs : List AV → List Value → Prop
  | [], [] => True
  | a :: r, v :: q => a.is v ∧ AVs r q
  | _, _ => False
theorem AVs.inv {a : AV} {r : List AV} {vs : List Value} : AVs (a :: r) vs → ∃ v u, vs = v :: u ∧ a.is v ∧ AVs r u := by
  cases vs with
  | nil => exact False.elim
  | cons v u => exact fun h => ⟨v, u, rfl, h⟩
theorem AVs.inv0 {vs : List Value} : AVs [] vs → vs = [] := by
  cases vs with
  | nil => exact fun _ => rfl
  | cons v u => exact False.elim
theorem AVs.len {as : List AV} {vs : List Value} (h : AVs as vs) : vs.length = as.length := by
  induction as generalizing vs with
  | nil => rw [h.inv0]; rfl
  | cons a r ih => obtain ⟨v, u, rfl, _, k⟩ := h.inv; exact congrArg (· + 1) (ih k)
theorem AVs.get {as : List AV} {vs : List Value} (h : AVs as vs) {i : Nat} {a : AV} (e : as[i]? = some a) : ∃ v, vs[i]? = some v ∧ a.is v := by
  induction as generalizing vs i with
  | nil => cases e
  | cons b r ih =>
    obtain ⟨v, u, rfl, x, k⟩ := h.inv
    cases i with
    | zero => cases e; exact ⟨v, rfl, x⟩
    | succ i => exact ih k e
theorem AVs.append {as bs : List AV} {vs ws : List Value} (h : AVs as vs) (k : AVs bs ws) : AVs (as ++ bs) (vs ++ ws) := by
  induction as generalizing vs with
  | nil => rw [h.inv0]; exact k
  | cons a r ih => obtain ⟨v, u, rfl, x, y⟩ := h.inv; exact ⟨x, ih y⟩
theorem AVs.set {as : List AV} {vs : List Value} (h : AVs as vs) {a : AV} {v : Value} (e : a.is v) (i : Nat) : AVs (as.set i a) (vs.set i v) := by
  induction as generalizing vs i with
  | nil => rw [h.inv0]; trivial
  | cons b r ih =>
    obtain ⟨v, u, rfl, x, k⟩ := h.inv
    cases i with
    | zero => exact ⟨e, k⟩
    | succ i => exact ⟨x, ih k i⟩
theorem AVs.toInts {ns : List Int} {vs : List Value} (h : AVs (ns.map .int) vs) : IntsAre vs ns := by
  induction ns generalizing vs with
  | nil => rw [AVs.inv0 h]; exact .nil
  | cons n r ih => obtain ⟨v, u, rfl, ⟨t, rfl⟩, k⟩ := AVs.inv h; exact .cons n t (ih k)
/-- what is known of an object of the heap -/
inductive Ent where
  | il (a : Addr) (ns : List Int)
  | al (a : Addr) (as : List AV)
  | tup (a : Addr) (as : List AV)
  | cell (a : Addr) (v : AV)
  | hole (a : Addr)
  | raw (a : Addr) (o : Obj)
  | gl (a : Addr) (ns : List Int)
  | ga (a : Addr) (as : List AV)
  | rng (a : Addr) (lo hi : Int)
noncomputable def Ent.addr : Ent → Addr
  | .il a _ => a | .al a _ => a | .tup a _ => a | .cell a _ => a | .hole a => a | .raw a _ => a | .gl a _ => a | .ga a _ => a | .rng a _ _ => a
noncomputable def Ent.on (h : Heap) : Ent → Prop
  | .il a ns => ∃ vs, h.IsList a vs.toArray ∧ IntsAre vs ns
  | .al a as => ∃ vs, h.IsList a vs.toArray ∧ AVs as vs
  | .tup a as => ∃ vs, IsTup h a vs.toArray ∧ AVs as vs
  | .cell a v => ∃ x, h.IsCell a (some x) ∧ v.is x
  | .hole a => h.IsCell a none
  | .raw a o => h.get? a = some o
  | .gl a ns => ∃ vs, PlainL h a vs.toArray ∧ IntsAre vs ns
  | .ga a as => ∃ vs, PlainL h a vs.toArray ∧ AVs as vs
  | .rng a lo hi => ∃ t u v, IsRange h a lo hi 1 t u v
theorem Ent.on.there {h : Heap} {e : Ent} (x : e.on h) : ∃ o, h.get? e.addr = some o := by
  cases e with
  | il a ns => obtain ⟨_, ⟨o, ho, _⟩, _⟩ := x; exact ⟨o, ho⟩
  | al a ns => obtain ⟨_, ⟨o, ho, _⟩, _⟩ := x; exact ⟨o, ho⟩
  | tup a ns => obtain ⟨_, ⟨o, ho, _⟩, _⟩ := x; exact ⟨o, ho⟩
  | cell a v => obtain ⟨_, ⟨o, ho, _⟩, _⟩ := x; exact ⟨o, ho⟩
  | hole a => obtain ⟨o, ho, _⟩ := x; exact ⟨o, ho⟩
  | raw a o => exact ⟨o, x⟩
  | gl a ns => obtain ⟨_, ⟨o, _, ho, _⟩, _⟩ := x; exact ⟨o, ho⟩
  | ga a ns => obtain ⟨_, ⟨o, _, ho, _⟩, _⟩ := x; exact ⟨o, ho⟩
  | rng a lo hi => obtain ⟨_, _, _, ho⟩ := x; exact ⟨_, ho⟩
theorem Ent.on.lt {h : Heap} {e : Ent} (x : e.on h) : e.addr < h.objs.size := by
  obtain ⟨o, ho⟩ := x.there; exact Heap.lt_size ho
theorem Ent.on.moved {h h' : Heap} {e : Ent} (x : e.on h) (k : ∀ o, h.get? e.addr = some o → h'.get? e.addr = some o) : e.on h' := by
  cases e with
  | il a ns => obtain ⟨vs, ⟨o, ho, r⟩, i⟩ := x; exact ⟨vs, ⟨o, k o ho, r⟩, i⟩
  | al a ns => obtain ⟨vs, ⟨o, ho, r⟩, i⟩ := x; exact ⟨vs, ⟨o, k o ho, r⟩, i⟩
  | tup a ns => obtain ⟨vs, ⟨o, ho, r⟩, i⟩ := x; exact ⟨vs, ⟨o, k o ho, r⟩, i⟩
  | cell a v => obtain ⟨vs, ⟨o, ho, r⟩, i⟩ := x; exact ⟨vs, ⟨o, k o ho, r⟩, i⟩
  | hole a => obtain ⟨o, ho, r⟩ := x; exact ⟨o, k o ho, r⟩
  | raw a o => exact k o x
  | gl a ns => obtain ⟨vs, ⟨o, n, ho, r⟩, i⟩ := x; exact ⟨vs, ⟨o, n, k o ho, r⟩, i⟩
  | ga a ns => obtain ⟨vs, ⟨o, n, ho, r⟩, i⟩ := x; exact ⟨vs, ⟨o, n, k o ho, r⟩, i⟩
  | rng a lo hi => obtain ⟨t, u, v, ho⟩ := x; exact ⟨t, u, v, k _ ho⟩
theorem Ent.on.gl {h : Heap} {a : Addr} {ns : List Int} (x : (Ent.gl a ns).on h) : (Ent.il a ns).on h := let ⟨vs, p, i⟩ := x; ⟨vs, p.isList, i⟩
theorem Ent.on.ga {h : Heap} {a : Addr} {as : List AV} (x : (Ent.ga a as).on h) : (Ent.al a as).on h := let ⟨vs, p, i⟩ := x; ⟨vs, p.isList, i⟩
theorem Ent.on.grow {h h' : Heap} {e : Ent} (x : e.on h) (k : Grow h h') : e.on h' := x.moved fun o => k _ o

/-- a map of names covers a list of known names -/
noncomputable def Cover (m : Str → Option Value) (l : List (Str × AV)) : Prop := ∀ x a, l.lookup x = some a → ∃ v, m x = some v ∧ a.is v
noncomputable def Names (l : List (Str × AV)) : List (Str × AV) → Prop
  | [] => True
  | p :: r => l.lookup p.1 = some p.2 ∧ Names l r
theorem Names.get {l : List (Str × AV)} : ∀ {r : List (Str × AV)}, Names l r → ∀ x a, r.lookup x = some a → l.lookup x = some a
  | p :: r, h, x, a, e => by
    obtain ⟨y, b⟩ := p
    rw [List.lookup_cons] at e
    split at e
    · rename_i q; cases e; rw [beq_iff_eq.mp q]; exact h.1
    · exact Names.get h.2 x a e

/-- the frame: its locals, its ledger of objects that it may change; all of h₀ stays -/
structure Fm (h₀ : Heap) (L : Addr) (h : Heap) (l : List (Str × AV)) (es : List Ent) : Prop where
  fr : ∃ m, Fr h₀ L h m ∧ Cover m l
  led : ∀ e ∈ es, e.on h ∧ e.addr ≠ L ∧ h₀.get? e.addr = none
  apart : (es.map Ent.addr).Nodup

section
variable {h₀ h h' : Heap} {L : Addr} {l l' : List (Str × AV)} {es es' : List Ent} {e : Ent}
theorem Fm.keep (F : Fm h₀ L h l es) : Grow h₀ h := let ⟨_, f, _⟩ := F.fr; f.keep
theorem Fm.on (F : Fm h₀ L h l es) (hm : e ∈ es) : e.on h := (F.led e hm).1
theorem Fm.base (F : Fm h₀ L h l es) (hm : e.on h₀) : e.on h := hm.grow F.keep
theorem Fm.fresh (F : Fm h₀ L h l es) (hm : e ∈ es) : h₀.get? e.addr = none := (F.led e hm).2.2
theorem Fm.names (F : Fm h₀ L h l es) (n : Names l l') : Fm h₀ L h l' es :=
  ⟨let ⟨m, f, c⟩ := F.fr; ⟨m, f, fun x a q => c x a (n.get x a q)⟩, F.led, F.apart⟩
theorem Fm.ents (F : Fm h₀ L h l es) (n : es'.Sublist es) : Fm h₀ L h l es' :=
  ⟨F.fr, fun e he => F.led e (n.subset he), F.apart.sublist (n.map _)⟩
theorem Fm.perm (F : Fm h₀ L h l es) (n : es'.Perm es) : Fm h₀ L h l es' :=
  ⟨F.fr, fun e he => F.led e (n.mem_iff.mp he), (n.map Ent.addr).nodup_iff.mpr F.apart⟩
theorem Fm.ltL (F : Fm h₀ L h l es) : L < h.objs.size := let ⟨_, f, _⟩ := F.fr; f.ns.lt
theorem Fm.grow (F : Fm h₀ L h l es) (k : Grow h h') : Fm h₀ L h' l es :=
  ⟨let ⟨m, f, c⟩ := F.fr; ⟨m, f.keeps k, c⟩, fun e he => ⟨(F.led e he).1.grow k, (F.led e he).2⟩, F.apart⟩
/-- a new object -/
theorem Fm.add (F : Fm h₀ L h l es) (k : Grow h h') (n : h.get? e.addr = none) (x : e.on h') : Fm h₀ L h' l (e :: es) := by
  refine ⟨(F.grow k).fr, fun e' he => ?_, ?_⟩
  · rcases List.mem_cons.mp he with rfl | he
    · refine ⟨x, fun q => ?_, ?_⟩
      · obtain ⟨m, f, _⟩ := F.fr
        obtain ⟨oL, _, _, hL, _⟩ := f.ns
        rw [q, hL] at n; cases n
      · cases q : h₀.get? e'.addr with
        | none => rfl
        | some o => have := F.keep _ _ q; rw [n] at this; cases this
    · exact (F.grow k).led e' he
  · refine List.nodup_cons.mpr ⟨fun q => ?_, F.apart⟩
    obtain ⟨e', he, ea⟩ := List.mem_map.mp q
    obtain ⟨o, ho⟩ := (F.on he).there
    rw [ea, n] at ho; cases ho
/-- an object of the ledger is changed -/
theorem Fm.change (F : Fm h₀ L h l es) {a : Addr} (hm : a ∈ es.map Ent.addr) (k : ∀ b o, b ≠ a → h.get? b = some o → h'.get? b = some o)
    (hl : ∀ e' ∈ es', (e'.addr = a ∧ e'.on h') ∨ (e'.addr ≠ a ∧ e' ∈ es)) (hs : es'.map Ent.addr = es.map Ent.addr) : Fm h₀ L h' l es' := by
  obtain ⟨e, he, rfl⟩ := List.mem_map.mp hm
  obtain ⟨_, x2, x3⟩ := F.led e he
  refine ⟨?_, fun e' he' => ?_, hs ▸ F.apart⟩
  · obtain ⟨m, f, c⟩ := F.fr
    exact ⟨m, ⟨f.ns.at' fun o q => k _ o (Ne.symm x2) q, fun b o q => k b o (fun z => by rw [z, x3] at q; cases q) (f.keep b o q), f.above⟩, c⟩
  · rcases hl e' he' with ⟨p1, p2⟩ | ⟨p1, p2⟩
    · exact ⟨p2, p1 ▸ x2, p1 ▸ x3⟩
    · exact ⟨(F.on p2).moved fun o q => k _ o p1 q, (F.led e' p2).2⟩
-- one object of the ledger in the place of another
inductive Upd (e e' : Ent) : List Ent → List Ent → Prop where
  | head {r : List Ent} : Upd e e' (e :: r) (e' :: r)
  | tail {x : Ent} {r r' : List Ent} : Upd e e' r r' → Upd e e' (x :: r) (x :: r')
  | app {ps r r' : List Ent} : Upd e e' r r' → Upd e e' (ps ++ r) (ps ++ r')
theorem Upd.mem {e e' : Ent} {es es' : List Ent} (u : Upd e e' es es') : e ∈ es := by
  induction u with
  | head => exact .head _
  | tail _ ih => exact .tail _ ih
  | app _ ih => exact List.mem_append_right _ ih
theorem Upd.addrs {e e' : Ent} {es es' : List Ent} (u : Upd e e' es es') (h : e'.addr = e.addr) : es'.map Ent.addr = es.map Ent.addr := by
  induction u with
  | head => simp [h]
  | tail _ ih => simp [ih]
  | app _ ih => simp [ih]
theorem Upd.cases {e e' : Ent} {es es' : List Ent} (u : Upd e e' es es') (n : (es.map Ent.addr).Nodup) : ∀ x ∈ es', x = e' ∨ (x.addr ≠ e.addr ∧ x ∈ es) := by
  induction u with
  | head =>
    intro x hx
    rcases List.mem_cons.mp hx with rfl | hx
    · exact .inl rfl
    · refine .inr ⟨fun q => (List.nodup_cons.mp n).1 ?_, .tail _ hx⟩
      rw [← q]; exact List.mem_map_of_mem hx
  | @tail y r r' u ih =>
    intro x hx
    have n' := List.nodup_cons.mp n
    rcases List.mem_cons.mp hx with rfl | hx
    · exact .inr ⟨fun q => n'.1 (q ▸ List.mem_map_of_mem u.mem), .head _⟩
    · rcases ih n'.2 x hx with q | q
      · exact .inl q
      · exact .inr ⟨q.1, .tail _ q.2⟩
  | @app ps r r' u ih =>
    intro x hx
    rw [List.map_append] at n
    have n' := List.nodup_append.mp n
    rcases List.mem_append.mp hx with hx | hx
    · exact .inr ⟨fun q => n'.2.2 _ (List.mem_map_of_mem hx) _ (List.mem_map_of_mem u.mem) q, List.mem_append_left _ hx⟩
    · rcases ih n'.2.1 x hx with q | q
      · exact .inl q
      · exact .inr ⟨q.1, List.mem_append_right _ q.2⟩
theorem Fm.upd (F : Fm h₀ L h l es) {e e' : Ent} (u : Upd e e' es es') (ha : e'.addr = e.addr) (k : ∀ b o, b ≠ e.addr → h.get? b = some o → h'.get? b = some o) (x : e'.on h') : Fm h₀ L h' l es' :=
  F.change (a := e.addr) (List.mem_map_of_mem u.mem) k (fun y hy => by
    rcases u.cases F.apart y hy with rfl | q
    · exact .inl ⟨ha, x⟩
    · exact .inr q) (u.addrs ha)
theorem Fm.head (F : Fm h₀ L h l (e :: es)) {e' : Ent} (ha : e'.addr = e.addr) (k : ∀ b o, b ≠ e.addr → h.get? b = some o → h'.get? b = some o) (x : e'.on h') : Fm h₀ L h' l (e' :: es) :=
  F.change (a := e.addr) (by simp) k (fun e₁ he => by
    rcases List.mem_cons.mp he with rfl | he
    · exact .inl ⟨ha, x⟩
    · refine .inr ⟨fun q => ?_, .tail _ he⟩
      exact (List.nodup_cons.mp F.apart).1 (q ▸ List.mem_map_of_mem he)) (by simp [ha])
theorem Fm.storeAt (F : Fm h₀ L h l es) {m : Str → Option Value} (c : Cover m l') (hn : h'.Ns L m) (hs : Heap.SameBut L h h') : Fm h₀ L h' l' es :=
  ⟨let ⟨_, f, _⟩ := F.fr; ⟨m, f.set hn hs, c⟩, fun e he => ⟨(F.led e he).1.moved fun o q => (hs.2 _ (F.led e he).2.1).trans q, (F.led e he).2⟩, F.apart⟩
end
theorem Cover.cons {m : Str → Option Value} {l : List (Str × AV)} {x : Str} {v : Value} {a : AV} (c : Cover m l) (h : a.is v) : Cover (fun y => if y = x then some v else m y) ((x, a) :: l) := by
  intro y b e
  rw [List.lookup_cons] at e
  by_cases q : y = x
  · subst q
    simp only [beq_self_eq_true] at e; cases e
    exact ⟨v, by simp, h⟩
  · have : (y == x) = false := by simpa using q
    simp only [this] at e
    simp only [q, if_false]
    exact c y b e
end Mine
namespace Mine
open PySem PySem.W PySem.Calls PyProof.Rows

/-- where a block of statements may end: behind it, or by a return -/
noncomputable def PF (Qn : Shared → Prop) (Qr : Value → Shared → Prop) : Flow → Shared → Prop
  | .next, s => Qn s
  | .ret v, s => Qr v s
  | _, _ => False

section stmts
variable {M : Model} {A : Around} {s : Shared} {env : Env} {Qn : Shared → Prop} {Qr : Value → Shared → Prop}
theorem r_nil (h : Qn s) : wpAny M A (execs [] env) (PF Qn Qr) Nope s := wpAny_execs_nil h
theorem r_cons {st : Stmt} {rest : List Stmt} (h : wpAny M A (exec st env) (PF (fun s' => wpAny M A (execs rest env) (PF Qn Qr) Nope s') Qr) Nope s) :
    wpAny M A (execs (st :: rest) env) (PF Qn Qr) Nope s :=
  wpAny_execs_cons (wpAny_mono h (fun f s' q => by cases f <;> exact q) fun _ _ e => e)
theorem r_assign {x : Str} {p pos : Pos} {value : Expr} (h : wpAny M A (eval value env) (fun v s₁ => wpAny M A (storeName env x v) (fun _ s₂ => Qn s₂) Nope s₁) Nope s)
    (hs : swapsWith value (some (.Name x p)) pos.line env = pure false := by rfl) : wpAny M A (exec (.Assign [.Name x p] value pos) env) (PF Qn Qr) Nope s := wpAny_Assign_Name h hs
theorem r_aug {x : Str} {p pos : Pos} {op : Operator} {value : Expr}
    (h : wpAny M A (loadName env x) (fun old s₁ => wpAny M A (eval value env) (fun v s₂ => wpAny M A (inplaceOp op old v)
      (fun r s₃ => wpAny M A (storeName env x r) (fun _ s₄ => Qn s₄) Nope s₃) Nope s₂) Nope s₁) Nope s) : wpAny M A (exec (.AugAssign (.Name x p) op value pos) env) (PF Qn Qr) Nope s := wpAny_AugAssign_Name h
theorem r_ret {e : Expr} {pos : Pos} (h : wpAny M A (eval e env) Qr Nope s) : wpAny M A (exec (.Return (some e) pos) env) (PF Qn Qr) Nope s := wpAny_Return_some h
theorem r_if {test : Expr} {body orelse : List Stmt} {pos : Pos}
    (h : wpAny M A (isTrue test env (eval test env)) (fun b s₂ => (b = true → wpAny M A (execs body env) (PF Qn Qr) Nope s₂) ∧ (b = false → wpAny M A (execs orelse env) (PF Qn Qr) Nope s₂)) Nope s) :
    wpAny M A (exec (.If test body orelse pos) env) (PF Qn Qr) Nope s :=
  wpAny_If (wpAny_mono h (fun b s' q => by cases b <;> simp at q ⊢ <;> exact q) fun _ _ e => e)
theorem r_expr {e : Expr} {pos : Pos} (h : wpAny M A (eval e env) (fun v s' => v = .none ∧ Qn s') Nope s) (hi : interactive env = false := by rfl)
    (hs : swapsWith e none pos.line env = pure false := by rfl) : wpAny M A (exec (.Expr e pos) env) (PF Qn Qr) Nope s :=
  wpAny_Expr (wpAny_mono h (fun v s' q => by obtain ⟨rfl, q⟩ := q; exact q) fun _ _ e => e) hi hs
end stmts

section exprs
variable {M : Model} {A : Around} {s : Shared} {env : Env} {Q : Value → Shared → Prop}
theorem r_binop {l r : Expr} {op : Operator} {pos : Pos} (h : wpAny M A (eval l env) (fun a s₁ => wpAny M A (eval r env) (fun b s₂ => wpAny M A (binaryOp op a b) Q Nope s₂) Nope s₁) Nope s) :
    wpAny M A (eval (.BinOp l op r pos) env) Q Nope s := wpAny_BinOp h
theorem r_cmp {l r : Expr} {op : CmpOp} {pos : Pos} (h : wpAny M A (eval l env) (fun a s₁ => wpAny M A (eval r env) (fun b s₂ => wpAny M A (compareOp op a b) Q Nope s₂) Nope s₁) Nope s)
    (hm : behindInMarks op r = false := by rfl) : wpAny M A (eval (.Compare l [op] [r] pos) env) Q Nope s := wpAny_Compare1 h hm
theorem r_un {x : Expr} {op : UnaryOp} {pos : Pos} (h : wpAny M A (eval x env) (fun v s₁ => wpAny M A (unaryOp op v) Q Nope s₁) Nope s) : wpAny M A (eval (.UnaryOp op x pos) env) Q Nope s := by
  show wpAny M A (do let v ← eval x env; standAt pos; holding [v] (unaryOp op v)) Q Nope s
  exact wpAny_bind (wpAny_mono h (fun v s₁ q => wpAny_bind (wpAny_standAt (wpAny_holding q))) fun _ _ e => e)
theorem r_ifexp {t b o : Expr} {pos : Pos}
    (h : wpAny M A (isTrue t env (eval t env)) (fun c s₁ => (c = true → wpAny M A (eval b env) Q Nope s₁) ∧ (c = false → wpAny M A (eval o env) Q Nope s₁)) Nope s) : wpAny M A (eval (.IfExp t b o pos) env) Q Nope s := by
  show wpAny M A (do if ← isTrue t env (eval t env) then eval b env else eval o env) Q Nope s
  refine wpAny_bind (wpAny_mono h (fun c s₁ q => ?_) fun _ _ e => e)
  cases c
  · simpa using q
  · simpa using q
theorem r_sub {v i : Expr} {pos : Pos} (h : wpAny M A (eval v env) (fun o s₁ => wpAny M A (eval i env) (fun k s₂ => wpAny M A (subscriptTail v i o k) Q Nope s₂) Nope s₁) Nope s) :
    wpAny M A (eval (.Subscript v i pos) env) Q Nope s := Subscript_ h
theorem r_list {elts : List Expr} {pos : Pos} (h : wpAny M A (spliced (backTo pos (starEach elts env))) (fun vs s₁ => wpAny M A (newList vs) Q Nope s₁) Nope s) : wpAny M A (eval (.List elts pos) env) Q Nope s := List_ h
theorem r_tuple {elts : List Expr} {k : Nat} {pos : Pos} (h : wpAny M A (spliced (backTo pos (starEach elts env))) (fun vs s₁ => wpAny M A (newTuple vs) Q Nope s₁) Nope s) : wpAny M A (eval (.Tuple elts k pos) env) Q Nope s := Tuple_ h
theorem r_splN {pos : Pos} {Q : List Value → Shared → Prop} (h : Q [] s) : wpAny M A (spliced (backTo pos (starEach [] env))) Q Nope s := spliced_nil h
theorem r_splC {e : Expr} {r : List Expr} {pos : Pos} {Q : List Value → Shared → Prop}
    (h : wpAny M A (eval e env) (fun v s₁ => wpAny M A (spliced (backTo pos (starEach r env))) (fun vs s₂ => Q (v :: vs) s₂) Nope s₁) Nope s)
    (hs : starEach (e :: r) env = (false, eval e env) :: starEach r env := by rfl) : wpAny M A (spliced (backTo pos (starEach (e :: r) env))) Q Nope s := by
  rw [hs]; exact spliced_cons h
theorem r_call {f : Expr} {args : List Expr} {pos : Pos} (h : wpAny M A (eval f env) (fun g s₁ => wpAny M A (callWith pos g [] (backTo pos (starEach args env)) []) Q Nope s₁) Nope s)
    (hf : eval (.Call f args [] pos) env = (do callWith pos (← eval f env) [] (backTo pos (starEach args env)) []) := by rfl) : wpAny M A (eval (.Call f args [] pos) env) Q Nope s := by
  rw [hf]; exact wpAny_bind h
theorem r_int {i : Int} {k : Nat} {pos : Pos} {h : Heap} {t : Nat} (q : ∀ u t', Q (.int i u) (St s h t')) : wpAny M A (eval (.Constant (.int i) k pos) env) Q Nope (St s h t) := wpAny_Constant_int (q _ _)
theorem r_bool {b : Bool} {k : Nat} {pos : Pos} (q : Q (.bool b) s) : wpAny M A (eval (.Constant (.bool b) k pos) env) Q Nope s := wpAny_pure q
end exprs

section tests
variable {M : Model} {A : Around} {s : Shared} {env : Env} {Q : Bool → Shared → Prop} {whole : Sem Value}
theorem r_tcmp {l r : Expr} {op : CmpOp} {pos : Pos} (h : wpAny M A (eval l env) (fun a s₁ => wpAny M A (eval r env) (fun b s₂ => wpAny M A (compareOp op a b) (fun c s₃ => wpAny M A (truthy c) Q Nope s₃) Nope s₂) Nope s₁) Nope s)
    (hm : behindInMarks op r = false := by rfl) : wpAny M A (isTrue (.Compare l [op] [r] pos) env whole) Q Nope s := wpAny_isTrue_Compare1 h hm
theorem r_tcmp2 {l r₁ r₂ : Expr} {o₁ o₂ : CmpOp} {pos : Pos}
    (h : wpAny M A (eval l env) (fun a s₁ => wpAny M A (eval r₁ env) (fun b s₂ => wpAny M A (compareOp o₁ a b) (fun c s₃ => wpAny M A (truthy c) (fun t s₄ =>
      (t = false → Q false s₄) ∧ (t = true → wpAny M A (eval r₂ env) (fun d s₅ => wpAny M A (compareOp o₂ b d) (fun c s₆ => wpAny M A (truthy c) Q Nope s₆) Nope s₅) Nope s₄)) Nope s₃) Nope s₂) Nope s₁) Nope s)
    (h₂ : behindInMarks o₂ r₂ = false := by rfl) : wpAny M A (isTrue (.Compare l [o₁, o₂] [r₁, r₂] pos) env whole) Q Nope s := by
  refine isTrue_chain (wpAny_mono h (fun a s₁ q => ?_) fun _ _ e => e) (by show behindInMarks o₂ r₂ = false; exact h₂)
  refine test_link (wpAny_mono q (fun b s₂ q => wpAny_mono q (fun c s₃ q => wpAny_mono q (fun t s₄ q => ?_) fun _ _ e => e) fun _ _ e => e) fun _ _ e => e)
  cases t
  · exact q.1 rfl
  · exact test_last (q.2 rfl)
theorem r_tnot {x : Expr} {pos : Pos} (h : wpAny M A (isTrue x env (eval x env)) (fun b s₁ => Q (!b) s₁) Nope s) : wpAny M A (isTrue (.UnaryOp .Not x pos) env whole) Q Nope s := by
  show wpAny M A (do return !(← isTrue x env (eval x env))) Q Nope s
  exact wpAny_bind (wpAny_mono h (fun b s₁ q => wpAny_pure q) fun _ _ e => e)
theorem r_tand {a b : Expr} {pos : Pos} (h : wpAny M A (isTrue a env (eval a env)) (fun c s₁ => (c = false → Q false s₁) ∧ (c = true → wpAny M A (isTrue b env (eval b env)) Q Nope s₁)) Nope s) :
    wpAny M A (isTrue (.BoolOp .And [a, b] pos) env whole) Q Nope s :=
  PyProof.Rows.isTrue_and (wpAny_mono h (fun c s₁ q => by
    cases c
    · exact q.1 rfl
    · exact PyProof.Rows.isTrue_and (wpAny_mono (q.2 rfl) (fun d s₂ q => by
        cases d
        · exact q
        · exact PyProof.Rows.isTrue_and_nil q) fun _ _ e => e)) fun _ _ e => e)
theorem r_tor {a b : Expr} {r : List Expr} {pos : Pos} (h : wpAny M A (isTrue a env (eval a env)) (fun c s₁ => (c = true → Q true s₁) ∧ (c = false → wpAny M A (isTrue (.BoolOp .Or (b :: r) pos) env whole) Q Nope s₁)) Nope s) :
    wpAny M A (isTrue (.BoolOp .Or (a :: b :: r) pos) env whole) Q Nope s :=
  PyProof.Rows.isTrue_or (wpAny_mono h (fun c s₁ q => by
    cases c
    · exact q.2 rfl
    · exact q.1 rfl) fun _ _ e => e)
theorem r_tor1 {a : Expr} {pos : Pos} (h : wpAny M A (isTrue a env (eval a env)) Q Nope s) : wpAny M A (isTrue (.BoolOp .Or [a] pos) env whole) Q Nope s :=
  PyProof.Rows.isTrue_or (wpAny_mono h (fun c s₁ q => by
    cases c
    · exact PyProof.Rows.isTrue_or_nil q
    · exact q) fun _ _ e => e)
theorem r_tcall {f : Expr} {args : List Expr} {pos : Pos} (h : wpAny M A (eval (.Call f args [] pos) env) (fun v s₁ => wpAny M A (truthy v) Q Nope s₁) Nope s) :
    wpAny M A (isTrue (.Call f args [] pos) env (eval (.Call f args [] pos) env)) Q Nope s := by
  show wpAny M A (do let v ← eval (.Call f args [] pos) env; standAt _; holding [v] (truthy v)) Q Nope s
  exact wpAny_bind (wpAny_mono h (fun v s₁ q => wpAny_bind (wpAny_standAt (wpAny_holding q))) fun _ _ e => e)
theorem r_tname {x : Str} {pos : Pos} (h : wpAny M A (eval (.Name x pos) env) (fun v s₁ => wpAny M A (truthy v) Q Nope s₁) Nope s) :
    wpAny M A (isTrue (.Name x pos) env (eval (.Name x pos) env)) Q Nope s := by
  show wpAny M A (do let v ← eval (.Name x pos) env; standAt _; holding [v] (truthy v)) Q Nope s
  exact wpAny_bind (wpAny_mono h (fun v s₁ q => wpAny_bind (wpAny_standAt (wpAny_holding q))) fun _ _ e => e)
theorem r_tb {b : Bool} (h : Q b s) : wpAny M A (truthy (.bool b)) Q Nope s := wpAny_truthy_bool h
end tests

section nums
variable {prog : Program} {w : World} {A : Around} {s : Shared} {h : Heap} {k : Nat} {a b : Int} {t u : Tok} {Q : Value → Shared → Prop}
theorem r_add (q : ∀ t' k', Q (.int (a + b) t') (St s h k')) : wpAny (model prog w) A (binaryOp .Add (.int a t) (.int b u)) Q Nope (St s h k) := PyProof.Rows.add_int (q _ _)
theorem r_sub' (q : ∀ t' k', Q (.int (a - b) t') (St s h k')) : wpAny (model prog w) A (binaryOp .Sub (.int a t) (.int b u)) Q Nope (St s h k) := PyProof.Rows.sub_int (q _ _)
theorem r_mul (m : IntMulOk a b) (q : ∀ t' k', Q (.int (a * b) t') (St s h k')) : wpAny (model prog w) A (binaryOp .Mult (.int a t) (.int b u)) Q Nope (St s h k) := PySem.P.mul_int (q _ _) m
theorem r_mod (hb : b ≠ 0) (q : ∀ t' k', Q (.int (a.fmod b) t') (St s h k')) : wpAny (model prog w) A (binaryOp .Mod (.int a t) (.int b u)) Q Nope (St s h k) := PyProof.Rows.mod_int' hb (q _ _)
theorem r_div (hb : b ≠ 0) (hp : Builtin.divisionGoesByPylong a b = false) (q : ∀ t' k', Q (.int (a.fdiv b) t') (St s h k')) : wpAny (model prog w) A (binaryOp .FloorDiv (.int a t) (.int b u)) Q Nope (St s h k) :=
  PyProof.Rows.floordiv_int hb (q _ _) (.inl hp)
theorem r_and (q : ∀ t' k', Q (.int (Builtin.bitAnd a b) t') (St s h k')) : wpAny (model prog w) A (binaryOp .BitAnd (.int a t) (.int b u)) Q Nope (St s h k) := PyProof.Rows.and_int (q _ _)
theorem r_shl (h0 : 0 ≤ b) (h1 : b ≤ 1000000) (ha : a.natAbs < 2 ^ 64) (q : ∀ t' k', Q (.int (a * 2 ^ b.toNat) t') (St s h k')) : wpAny (model prog w) A (binaryOp .LShift (.int a t) (.int b u)) Q Nope (St s h k) :=
  PyProof.Rows.lshift_int_small h0 h1 ha (q _ _)
theorem r_pow (h0 : 0 ≤ b) (h1 : b ≤ 1000000) (ha : a.natAbs < 2 ^ 64) (q : ∀ t' k', Q (.int (a ^ b.toNat) t') (St s h k')) : wpAny (model prog w) A (binaryOp .Pow (.int a t) (.int b u)) Q Nope (St s h k) :=
  PyProof.Rows.pow_int_small h0 h1 ha (q _ _)
theorem r_iadd (q : ∀ t' k', Q (.int (a + b) t') (St s h k')) : wpAny (model prog w) A (inplaceOp .Add (.int a t) (.int b u)) Q Nope (St s h k) := PyProof.Rows.iadd_int (q _ _)
theorem r_isub (q : ∀ t' k', Q (.int (a - b) t') (St s h k')) : wpAny (model prog w) A (inplaceOp .Sub (.int a t) (.int b u)) Q Nope (St s h k) := PyProof.Rows.isub_int (q _ _)
theorem r_ishr (h0 : 0 ≤ b) (q : ∀ t' k', Q (.int (a.fdiv (2 ^ b.toNat)) t') (St s h k')) : wpAny (model prog w) A (inplaceOp .RShift (.int a t) (.int b u)) Q Nope (St s h k) := PyProof.Rows.irshift_int h0 (q _ _)
theorem r_neg (q : ∀ t' k', Q (.int (-a) t') (St s h k')) : wpAny (model prog w) A (unaryOp .USub (.int a t)) Q Nope (St s h k) := PySem.P.neg_int (q _ _)
theorem r_eq {s : Shared} (q : Q (.bool (decide (a = b))) s) : wpAny (model prog w) A (compareOp .Eq (.int a t) (.int b u)) Q Nope s := PySem.P.eq_int q
theorem r_ne {s : Shared} (q : Q (.bool (decide (a ≠ b))) s) : wpAny (model prog w) A (compareOp .NotEq (.int a t) (.int b u)) Q Nope s := PySem.P.ne_int (by
  have e : (a != b) = decide (a ≠ b) := by by_cases x : a = b <;> simp [x]
  rw [e]; exact q)
theorem r_lt {s : Shared} (q : Q (.bool (decide (a < b))) s) : wpAny (model prog w) A (compareOp .Lt (.int a t) (.int b u)) Q Nope s := PySem.P.lt_int q
theorem r_le {s : Shared} (q : Q (.bool (decide (a ≤ b))) s) : wpAny (model prog w) A (compareOp .LtE (.int a t) (.int b u)) Q Nope s := PySem.P.le_int q
theorem r_gt {s : Shared} (q : Q (.bool (decide (b < a))) s) : wpAny (model prog w) A (compareOp .Gt (.int a t) (.int b u)) Q Nope s := PySem.P.gt_int q
end nums

section names
variable {M : Model} {A : Around} {s : Shared} {h h₀ : Heap} {k : Nat} {env : Env} {l : List (Str × AV)} {es : List Ent} {Q : Value → Shared → Prop} {x : Str} {pos : Pos}
theorem r_nmI {i : Int} (F : Fm h₀ env.locals h l es) (hv : l.lookup x = some (.int i)) (q : ∀ t, Q (.int i t) (St s h k))
    (hk : env.scope.kind = .function := by rfl) (hl : env.kindOf x = some .local := by rfl) (hd : (x == ("__debug__" : Str)) = false := by decide) : wpAny M A (eval (.Name x pos) env) Q Nope (St s h k) := by
  obtain ⟨m, f, c⟩ := F.fr
  obtain ⟨v, hm, t, rfl⟩ := c _ _ hv
  exact wpAny_Name (wpAny_loadName_local hk hl f.ns hm (q t)) hd
theorem r_nmR {a : Addr} (F : Fm h₀ env.locals h l es) (hv : l.lookup x = some (.ref a)) (q : Q (.ref a) (St s h k))
    (hk : env.scope.kind = .function := by rfl) (hl : env.kindOf x = some .local := by rfl) (hd : (x == ("__debug__" : Str)) = false := by decide) : wpAny M A (eval (.Name x pos) env) Q Nope (St s h k) := by
  obtain ⟨m, f, c⟩ := F.fr
  obtain ⟨v, hm, rfl⟩ := c _ _ hv
  exact wpAny_Name (wpAny_loadName_local hk hl f.ns hm q) hd
theorem r_st {v : Value} {a : AV} {Q : Unit → Shared → Prop} (F : Fm h₀ env.locals h l es) (hv : a.is v) (q : ∀ h' k', Fm h₀ env.locals h' ((x, a) :: l) es → Q () (St s h' k'))
    (hk : env.scope.kind = .function := by rfl) (hl : env.kindOf x = some .local := by rfl) : wpAny M A (storeName env x v) Q Nope (St s h k) := by
  obtain ⟨m, f, c⟩ := F.fr
  exact wpAny_storeName_local hl f.ns (fun h' hn hs => q h' _ (F.storeAt (c.cons hv) hn hs)) (by rw [hk]; rfl)
theorem r_stI {i : Int} {t : Tok} {Q : Unit → Shared → Prop} (F : Fm h₀ env.locals h l es) (q : ∀ h' k', Fm h₀ env.locals h' ((x, .int i) :: l) es → Q () (St s h' k'))
    (hk : env.scope.kind = .function := by rfl) (hl : env.kindOf x = some .local := by rfl) : wpAny M A (storeName env x (.int i t)) Q Nope (St s h k) := r_st (a := .int i) F ⟨t, rfl⟩ q hk hl
theorem r_stR {a : Addr} {Q : Unit → Shared → Prop} (F : Fm h₀ env.locals h l es) (q : ∀ h' k', Fm h₀ env.locals h' ((x, .ref a) :: l) es → Q () (St s h' k'))
    (hk : env.scope.kind = .function := by rfl) (hl : env.kindOf x = some .local := by rfl) : wpAny M A (storeName env x (.ref a)) Q Nope (St s h k) := r_st (a := .ref a) F rfl q hk hl
theorem r_stB {b : Bool} {Q : Unit → Shared → Prop} (F : Fm h₀ env.locals h l es) (q : ∀ h' k', Fm h₀ env.locals h' ((x, .bool b) :: l) es → Q () (St s h' k'))
    (hk : env.scope.kind = .function := by rfl) (hl : env.kindOf x = some .local := by rfl) : wpAny M A (storeName env x (.bool b)) Q Nope (St s h k) := r_st (a := .bool b) F rfl q hk hl
end names
end Mine
namespace Mine
open PySem PySem.W PySem.Calls PyProof.Rows

theorem get_size (h : Heap) : h.get? h.objs.size = none := by
  cases q : h.get? h.objs.size with
  | none => rfl
  | some o => exact absurd (Heap.lt_size q) (Nat.lt_irrefl _)
theorem Fm.push {h₀ h : Heap} {L : Addr} {l : List (Str × AV)} {es : List Ent} (F : Fm h₀ L h l es) {o : Obj} {e : Ent} (ha : e.addr = h.objs.size) (x : e.on (h.push o)) : Fm h₀ L (h.push o) l (e :: es) :=
  F.add (Grow.push h o) (ha ▸ get_size h) x
theorem isList_push (h : Heap) {items : Array Value} {n : Nat} {d : Option Addr} {sl : Array (Option Value)} : (h.push { cls := .type "list", dict := d, data := .seq items n, slots := sl }).IsList h.objs.size items :=
  ⟨_, Heap.get?_push_size _ rfl, rfl, _, rfl⟩
theorem isTup_push (h : Heap) {items : Array Value} {n : Nat} {d : Option Addr} {sl : Array (Option Value)} : IsTup (h.push { cls := .type "tuple", dict := d, data := .seq items n, slots := sl }) h.objs.size items :=
  ⟨_, Heap.get?_push_size _ rfl, rfl, _, rfl⟩

section
variable {M : Model} {prog : Program} {w : World} {A : Around} {s : Shared} {h h₀ : Heap} {L k : Nat} {l : List (Str × AV)} {es : List Ent} {Q : Value → Shared → Prop} {a b : Addr} {ns ms : List Int} {as : List AV}
theorem r_newIl {vs : List Value} (F : Fm h₀ L h l es) (hi : IntsAre vs ns) (hn : ns.length ≤ 1000000) (q : ∀ a h', Fm h₀ L h' l (.il a ns :: es) → Q (.ref a) (St s h' k)) :
    wpAny M A (newList vs) Q Nope (St s h k) :=
  wpAny_newObj_type (q _ _ (F.push rfl ⟨vs, isList_push h, hi⟩)) (by show vs.toArray.size ≤ sizeLine; rw [List.size_toArray, hi.length, sizeLine_eq]; (first | lia | omega))
theorem r_newAl {vs : List Value} (F : Fm h₀ L h l es) (hi : AVs as vs) (hn : as.length ≤ 1000000) (q : ∀ a h', Fm h₀ L h' l (.al a as :: es) → Q (.ref a) (St s h' k)) :
    wpAny M A (newList vs) Q Nope (St s h k) :=
  wpAny_newObj_type (q _ _ (F.push rfl ⟨vs, isList_push h, hi⟩)) (by show vs.toArray.size ≤ sizeLine; rw [List.size_toArray, hi.len, sizeLine_eq]; (first | lia | omega))
theorem r_newGl (F : Fm h₀ L h l es) (q : ∀ a h', Fm h₀ L h' l (.gl a [] :: es) → Q (.ref a) (St s h' k)) : wpAny M A (newList []) Q Nope (St s h k) :=
  wpAny_newObj_type (q _ _ (F.push rfl ⟨[], ⟨_, _, Heap.get?_push_size _ rfl, rfl, rfl, rfl⟩, .nil⟩)) (by show ([] : List Value).toArray.size ≤ sizeLine; exact Nat.zero_le _)
theorem r_newGa (F : Fm h₀ L h l es) (q : ∀ a h', Fm h₀ L h' l (.ga a [] :: es) → Q (.ref a) (St s h' k)) : wpAny M A (newList []) Q Nope (St s h k) :=
  wpAny_newObj_type (q _ _ (F.push rfl ⟨[], ⟨_, _, Heap.get?_push_size _ rfl, rfl, rfl, rfl⟩, trivial⟩)) (by show ([] : List Value).toArray.size ≤ sizeLine; exact Nat.zero_le _)
theorem r_newTup {vs : List Value} (F : Fm h₀ L h l es) (hi : AVs as vs) (hn : as.length ≤ 1000000) (q : ∀ a h', Fm h₀ L h' l (.tup a as :: es) → Q (.ref a) (St s h' k)) :
    wpAny M A (newTuple vs) Q Nope (St s h k) :=
  wpAny_newObj_type (q _ _ (F.push rfl ⟨vs, isTup_push h, hi⟩)) (by show vs.toArray.size ≤ sizeLine; rw [List.size_toArray, hi.len, sizeLine_eq]; (first | lia | omega))

theorem r_len (e : (Ent.il a ns).on h) (hn : ns.length ≤ 1000000) (q : ∀ t k', Q (.int (ns.length : Nat) t) (St s h k')) : wpAny (model prog w) A (call (.builtin "len") [.ref a]) Q Nope (St s h k) := by
  obtain ⟨vs, hl, hi⟩ := e
  exact len_ints_fit (s := St s h k) hl hi (by (first | lia | omega)) (q _ _)
theorem getInts {vs : List Value} (hi : IntsAre vs ns) {i : Nat} (h1 : i < ns.length) : ∃ t, vs[i]? = some (.int (ns.getD i 0) t) := by
  obtain ⟨t, q⟩ := hi.get i ns[i] (by simp [h1])
  exact ⟨t, by rw [q]; simp [List.getD, h1]⟩
theorem r_item {v sl : PySem.Expr} {i : Int} {u : Tok} (e : (Ent.il a ns).on h) (h0 : 0 ≤ i) (h1 : i < ns.length) (hn : ns.length ≤ 1000000) (q : ∀ t, Q (.int (ns.getD i.toNat 0) t) (St s h k))
    (hs : subscripted sl false (.ref a) (.int i u) = operate [.ref a, .int i u] (getItem (.ref a) (.int i u)) := by rfl) :
    wpAny (model prog w) A (subscriptTail v sl (.ref a) (.int i u)) Q Nope (St s h k) := by
  obtain ⟨vs, hl, hi⟩ := e
  obtain ⟨t, hx⟩ := getInts hi (i := i.toNat) (by (first | lia | omega))
  exact tail_any (s := St s h k) hl.typeIs slot_list_getitem.lookup (wpAny_getItem_list hl h0 (by (first | lia | omega)) (by simpa using hx) (q t)) hs
theorem r_itemA {v sl : PySem.Expr} {i : Int} {u : Tok} {x : AV} (e : (Ent.al a as).on h) (h0 : 0 ≤ i) (hi : i < 1000000) (h1 : as[i.toNat]? = some x) (q : ∀ y, x.is y → Q y (St s h k))
    (hs : subscripted sl false (.ref a) (.int i u) = operate [.ref a, .int i u] (getItem (.ref a) (.int i u)) := by rfl) :
    wpAny (model prog w) A (subscriptTail v sl (.ref a) (.int i u)) Q Nope (St s h k) := by
  obtain ⟨vs, hl, ha⟩ := e
  obtain ⟨y, hx, hy⟩ := ha.get h1
  exact tail_any (s := St s h k) hl.typeIs slot_list_getitem.lookup (wpAny_getItem_list hl h0 (by (first | lia | omega)) (by simpa using hx) (q y hy)) hs
theorem r_itemAI {v sl : PySem.Expr} {i j : Int} {u : Tok} (e : (Ent.al a as).on h) (h0 : 0 ≤ i) (hi : i < 1000000) (h1 : as[i.toNat]? = some (.int j)) (q : ∀ t, Q (.int j t) (St s h k))
    (hs : subscripted sl false (.ref a) (.int i u) = operate [.ref a, .int i u] (getItem (.ref a) (.int i u)) := by rfl) :
    wpAny (model prog w) A (subscriptTail v sl (.ref a) (.int i u)) Q Nope (St s h k) := r_itemA e h0 hi h1 (fun y ⟨t, hy⟩ => hy ▸ q t) hs
theorem r_itemAR {v sl : PySem.Expr} {i : Int} {u : Tok} {c : Addr} (e : (Ent.al a as).on h) (h0 : 0 ≤ i) (hi : i < 1000000) (h1 : as[i.toNat]? = some (.ref c)) (q : Q (.ref c) (St s h k))
    (hs : subscripted sl false (.ref a) (.int i u) = operate [.ref a, .int i u] (getItem (.ref a) (.int i u)) := by rfl) :
    wpAny (model prog w) A (subscriptTail v sl (.ref a) (.int i u)) Q Nope (St s h k) := r_itemA e h0 hi h1 (fun y hy => hy ▸ q) hs
theorem r_itemTR {v sl : PySem.Expr} {i : Nat} {u : Tok} {c : Addr} (e : (Ent.tup a as).on h) (h2 : as.length ≤ 1000) (h1 : as[i]? = some (.ref c)) (q : Q (.ref c) (St s h k))
    (hs : subscripted sl false (.ref a) (.int i u) = operate [.ref a, .int i u] (getItem (.ref a) (.int i u)) := by rfl) :
    wpAny (model prog w) A (subscriptTail v sl (.ref a) (.int (i : Nat) u)) Q Nope (St s h k) := by
  obtain ⟨vs, hl, ha⟩ := e
  obtain ⟨y, hx, hy⟩ := ha.get h1
  have hlt : i < vs.length := by
    have := List.getElem?_eq_some_iff.mp hx; exact this.1
  have hlen := ha.len
  exact item_tupleT (s := St s h k) hl (by (first | lia | omega)) (by (first | lia | omega)) (j := i) (by unfold seqIndex?; simp; (first | lia | omega)) hx (by cases hy; exact q) hs

theorem r_append {v : Value} {i : Int} {t : Tok} (F : Fm h₀ L h l es) (hm : Ent.gl a ns ∈ es) (hv : v = .int i t) (hn : ns.length ≤ 1000000)
    (q : ∀ h', (∀ b o, b ≠ a → h.get? b = some o → h'.get? b = some o) → (Ent.gl a (ns ++ [i])).on h' → Q .none (St s h' k)) :
    wpAny (model prog w) A (call (.builtin "list.append") [.ref a, v]) Q Nope (St s h k) := by
  subst hv
  obtain ⟨vs, hl, hi⟩ := F.on hm
  refine list_append_plainL (s := St s h k) hl (fun h' hl' hs => q h' (fun b o hb e => (hs.2 b hb).trans e) ⟨vs ++ [.int i t], by simpa using hl', hi.append (.cons i t .nil)⟩) ?_
  rw [List.size_toArray, hi.length, sizeLine_eq]; (first | lia | omega)
theorem r_appendA {v : Value} {x : AV} (F : Fm h₀ L h l es) (hm : Ent.ga a as ∈ es) (hv : x.is v) (hn : as.length ≤ 1000000)
    (q : ∀ h', (∀ b o, b ≠ a → h.get? b = some o → h'.get? b = some o) → (Ent.ga a (as ++ [x])).on h' → Q .none (St s h' k)) :
    wpAny (model prog w) A (call (.builtin "list.append") [.ref a, v]) Q Nope (St s h k) := by
  obtain ⟨vs, hl, hi⟩ := F.on hm
  refine list_append_plainL (s := St s h k) hl (fun h' hl' hs => q h' (fun b o hb e => (hs.2 b hb).trans e) ⟨vs ++ [v], by simpa using hl', hi.append ⟨hv, trivial⟩⟩) ?_
  rw [List.size_toArray, hi.len, sizeLine_eq]; (first | lia | omega)
theorem ints_set {vs : List Value} {ns : List Int} (h : IntsAre vs ns) (i : Nat) (x : Int) (t : Tok) : IntsAre (vs.set i (.int x t)) (ns.set i x) := by
  induction h generalizing i with
  | nil => exact .nil
  | cons n u r ih =>
    cases i with
    | zero => exact .cons x t r
    | succ i => exact .cons n u (ih i)
theorem r_set {i x : Int} {t u : Tok} {Q : Unit → Shared → Prop} (e : (Ent.il a ns).on h) (h0 : 0 ≤ i) (h1 : i < ns.length) (hn : ns.length ≤ 1000000)
    (q : ∀ h', (∀ b o, b ≠ a → h.get? b = some o → h'.get? b = some o) → (Ent.il a (ns.set i.toNat x)).on h' → Q () (St s h' k)) :
    wpAny (model prog w) A (setItem (.ref a) (.int i u) (.int x t)) Q Nope (St s h k) := by
  obtain ⟨vs, hl, hi⟩ := e
  have hlen := hi.length
  refine wpAny_setItem_list (s := St s h k) hl h0 (by (first | lia | omega)) (by simp; (first | lia | omega)) (fun h' hl' hs => q h' (fun b o hb e => (hs.2 b hb).trans e) ⟨vs.set i.toNat (.int x t), ?_, ints_set hi _ _ _⟩)
  have ee : vs.toArray.setIfInBounds i.toNat (.int x t) = (vs.set i.toNat (.int x t)).toArray := by simp
  rw [← ee]; exact hl'
theorem r_setA {i : Int} {v : Value} {x : AV} {u : Tok} {Q : Unit → Shared → Prop} (e : (Ent.al a as).on h) (hv : x.is v) (h0 : 0 ≤ i) (h1 : i < as.length) (hn : as.length ≤ 1000000)
    (q : ∀ h', (∀ b o, b ≠ a → h.get? b = some o → h'.get? b = some o) → (Ent.al a (as.set i.toNat x)).on h' → Q () (St s h' k)) :
    wpAny (model prog w) A (setItem (.ref a) (.int i u) v) Q Nope (St s h k) := by
  obtain ⟨vs, hl, hi⟩ := e
  have hlen := hi.len
  refine wpAny_setItem_list (s := St s h k) hl h0 (by (first | lia | omega)) (by simp; (first | lia | omega)) (fun h' hl' hs => q h' (fun b o hb e => (hs.2 b hb).trans e) ⟨vs.set i.toNat v, ?_, hi.set hv _⟩)
  have ee : vs.toArray.setIfInBounds i.toNat v = (vs.set i.toNat v).toArray := by simp
  rw [← ee]; exact hl'
theorem r_cat (F : Fm h₀ L h l es) (ea : (Ent.il a ns).on h) (eb : (Ent.il b ms).on h) (hn : ns.length ≤ 1000000) (hm : ms.length ≤ 1000000)
    (q : ∀ c h', Fm h₀ L h' l (.il c (ns ++ ms) :: es) → Q (.ref c) (St s h' k)) : wpAny (model prog w) A (binaryOp .Add (.ref a) (.ref b)) Q Nope (St s h k) := by
  obtain ⟨vs, hl, hi⟩ := ea
  obtain ⟨ws, hl2, hj⟩ := eb
  obtain ⟨⟨cls, dd, data, sl⟩, ho, hc, n, hd⟩ := id hl
  obtain ⟨⟨cls2, dd2, data2, sl2⟩, ho2, hc2, n2, hd2⟩ := id hl2
  simp only at hc hd hc2 hd2
  subst hc hd hc2 hd2
  have e : vs.toArray ++ ws.toArray = (vs ++ ws).toArray := by simp
  refine concat_meets (s := St s h k) ⟨_, ho, rfl⟩ ⟨_, ho2, rfl⟩ noFill_list_add seq_list_add PySem.F.slot_list_add PySem.F.entry_list_add (PySem.F.args_list_add_2 _ _)
    (list_addW a b vs.toArray ws.toArray n n2 dd dd2 sl sl2 (by simp only [List.size_toArray, hi.length, hj.length, sizeLine_eq]; (first | lia | omega))) ⟨ho, ho2, ?_⟩
  rw [e]
  exact q _ _ (F.push rfl ⟨vs ++ ws, isList_push h, hi.append hj⟩)
theorem rep_ints {vs : List Value} (hi : IntsAre vs ns) : ∀ j : Nat, IntsAre (List.replicate j vs).flatten (List.replicate j ns).flatten
  | 0 => .nil
  | j + 1 => by simp only [List.replicate_succ, List.flatten_cons]; exact hi.append (rep_ints hi j)
theorem rep_one (x : Int) : ∀ j : Nat, (List.replicate j [x]).flatten = List.replicate j x
  | 0 => rfl
  | j + 1 => by simp only [List.replicate_succ, List.flatten_cons, rep_one x j]; rfl
theorem r_rep {x i : Int} {u : Tok} (F : Fm h₀ L h l es) (ea : (Ent.il a [x]).on h) (hi0 : i ≤ 1000000)
    (q : ∀ c h', Fm h₀ L h' l (.il c (List.replicate i.toNat x) :: es) → Q (.ref c) (St s h' k)) (hlo : -1000000 ≤ i) : wpAny (model prog w) A (binaryOp .Mult (.ref a) (.int i u)) Q Nope (St s h k) := by
  obtain ⟨vs, hl, hi⟩ := ea
  obtain ⟨⟨cls, d, data, sl⟩, ho, hcl, n, hd⟩ := id hl
  simp only at hcl hd
  subst hcl hd
  have hlen : vs.length = 1 := hi.length
  have hsz' : vs.toArray.size * i.toNat ≤ 2 ^ 24 := by simp [hlen]; (first | lia | omega)
  refine wpAny_binaryOp_repeat_ref (s := St s h k) (T := "list") (U := "int") (by decide) ⟨_, ho, rfl⟩ (fun s' => typeIs_int s' i u) noFill_list_mul PySem.F.fills_int_mul PySem.F.slot_int_rmul repeat_list PySem.F.slot_int_index.lookup
    (call_meets PySem.F.slot_int_rmul (typeIs_int _ i u) PySem.F.entry_int_rmul (PySem.F.args_int_rmul_2 _ _) (lm_int_rmul_list_any i u a vs.toArray n d sl)
      ⟨ho, rfl, ⟨_, ho, rfl⟩, call_meets PySem.F.slot_list_mul ⟨_, ho, rfl⟩ PySem.F.entry_list_mul (PySem.F.args_list_mul_2 _ _)
        (lm_list_mul_any a vs.toArray n d sl i u (by simp [Builtin.List.listFitsIndex]; (first | lia | omega)) (by (first | lia | omega)) (by simp [Builtin.List.listTooLong, sizeLine]; (first | lia | omega)))
        ⟨ho, ?_⟩⟩)
  have hz : (h.push { cls := .type "list", data := .seq (List.foldl (fun x1 x2 => x1 ++ x2) #[] (List.replicate (if vs.toArray.isEmpty = true then 0 else i.toNat) vs.toArray)) }).IsList h.objs.size (List.replicate i.toNat vs).flatten.toArray := by
    rw [← listMul_foldl_if]; exact isList_push h
  exact q _ _ (F.push rfl ⟨(List.replicate i.toNat vs).flatten, hz, by rw [← rep_one]; exact rep_ints hi _⟩)
theorem r_eqL (R : Room A 8) (ea : (Ent.il a ns).on h) (eb : (Ent.il b ms).on h) (q : Q (.bool (decide (ns = ms))) (St s h k)) : wpAny (model prog w) A (compareOp .Eq (.ref a) (.ref b)) Q Nope (St s h k) := by
  obtain ⟨vs, hl, hi⟩ := ea
  obtain ⟨ws, hl2, hj⟩ := eb
  exact ke_eq_ints (s := St s h k) hl hl2 hi hj (by have := R.units; unfold cLine; (first | lia | omega)) q
theorem r_neL (R : Room A 8) (ea : (Ent.il a ns).on h) (eb : (Ent.il b ms).on h) (q : Q (.bool (decide (ns ≠ ms))) (St s h k)) : wpAny (model prog w) A (compareOp .NotEq (.ref a) (.ref b)) Q Nope (St s h k) := by
  obtain ⟨vs, hl, hi⟩ := ea
  obtain ⟨ws, hl2, hj⟩ := eb
  exact ke_ne_ints (s := St s h k) hl hl2 hi hj (by have := R.units; unfold cLine; (first | lia | omega)) (by rw [← decide_not]; exact q)
theorem r_min {i j : Int} {t u : Tok} (R : Room A 0) (F : Fm h₀ L h l es) (q : ∀ t' k' h', Fm h₀ L h' l es → Q (.int (min i j) t') (St s h' k')) : wpAny (model prog w) A (call (.builtin "min") [.int i t, .int j u]) Q Nope (St s h k) :=
  min_two_ints (s := St s h k) R.handled fun h' tk kp => by
    by_cases c : j < i
    · rw [if_pos c]; have := q u tk h' (F.grow kp); rwa [show min i j = j by (first | lia | omega)] at this
    · rw [if_neg c]; have := q t tk h' (F.grow kp); rwa [show min i j = i by (first | lia | omega)] at this
theorem r_max {i j : Int} {t u : Tok} (R : Room A 0) (F : Fm h₀ L h l es) (q : ∀ t' k' h', Fm h₀ L h' l es → Q (.int (max i j) t') (St s h' k')) : wpAny (model prog w) A (call (.builtin "max") [.int i t, .int j u]) Q Nope (St s h k) :=
  max_two_ints (s := St s h k) R.handled fun h' tk kp => by
    by_cases c : j > i
    · rw [if_pos c]; have := q u tk h' (F.grow kp); rwa [show max i j = j by (first | lia | omega)] at this
    · rw [if_neg c]; have := q t tk h' (F.grow kp); rwa [show max i j = i by (first | lia | omega)] at this
end

-- a slice of a list
section
variable {M : Model} {prog : Program} {w : World} {A : Around} {s : Shared} {h h₀ : Heap} {L k : Nat} {env : Env} {l : List (Str × AV)} {es : List Ent} {Q : Value → Shared → Prop} {a b : Addr} {ns ms : List Int} {as : List AV}
noncomputable def SlT (M : Model) (A : Around) (v sl : PySem.Expr) (o x y z : Value) (Q : Value → Shared → Prop) (s : Shared) : Prop :=
  wpAny M A (subscriptTail v sl o (.ref s.heap.objs.size)) Q Nope { s with heap := s.heap.push { cls := .type "slice", data := .fields #[x, y, z] } }
theorem r_part0 {s : Shared} (q : Q .none s) : wpAny M A (valueOrNone (evalOpt none env)) Q Nope s := wpAny_pure q
theorem r_part1 {e : PySem.Expr} {s : Shared} (q : wpAny M A (eval e env) Q Nope s) : wpAny M A (valueOrNone (evalOpt (some e) env)) Q Nope s := q
theorem r_subsl {v : PySem.Expr} {lo hi st : Option PySem.Expr} {p pos : Pos} {s : Shared}
    (q : wpAny M A (eval v env) (fun o s₁ => wpAny M A (valueOrNone (evalOpt lo env)) (fun x s₂ => wpAny M A (valueOrNone (evalOpt hi env)) (fun y s₃ => wpAny M A (valueOrNone (evalOpt st env))
      (fun z s₄ => SlT M A v (.Slice lo hi st p) o x y z Q s₄) Nope s₃) Nope s₂) Nope s₁) Nope s) : wpAny M A (eval (.Subscript v (.Slice lo hi st p) pos) env) Q Nope s := by
  refine Subscript_ (wpAny_mono q (fun o s₁ q => ?_) fun _ _ e => e)
  show wpAny M A (do let l ← valueOrNone (evalOpt lo env); let u ← holding [l] (valueOrNone (evalOpt hi env)); let s ← holding [l, u] (valueOrNone (evalOpt st env)); newFields "slice" [l, u, s]) _ Nope s₁
  refine wpAny_bind (wpAny_mono q (fun x s₂ q => wpAny_bind (wpAny_holding (wpAny_mono q (fun y s₃ q => wpAny_bind (wpAny_holding (wpAny_mono q (fun z s₄ q => ?_) fun _ _ e => e))) fun _ _ e => e))) fun _ _ e => e)
  exact wpAny_newObj_type q (by show ([x, y, z] : List Value).toArray.size ≤ sizeLine + 2; simp [sizeLine_eq])
theorem slt {v sl : PySem.Expr} {x y z : Value} {lo hi st : Option Int} {ops : List Value} {ms : List Int} (F : Fm h₀ L h l es) (e : (Ent.il a ns).on h) (hn : ns.length ≤ 1000000) (px : IsPart x lo) (py : IsPart y hi) (pz : IsPart z st) (h0 : st ≠ some 0)
    (hp : ∀ vs, IntsAre vs ns → IntsAre (slicePick vs.toArray lo hi st).toList ms)
    (q : ∀ c h', Fm h₀ L h' l (.il c ms :: es) → Q (.ref c) (St s h' k)) (hs : subscripted sl false (.ref a) (.ref h.objs.size) = operate ops (getItem (.ref a) (.ref h.objs.size))) :
    SlT (model prog w) A v sl (.ref a) x y z Q (St s h k) := by
  obtain ⟨vs, hl, hi⟩ := e
  unfold SlT
  have hl1 := hl.push { cls := .type "slice", data := .fields #[x, y, z] }
  refine tail_any (Heap.IsList.typeIs (s := St s (h.push { cls := .type "slice", data := .fields #[x, y, z] }) k) hl1) slot_list_getitem.lookup
    (wpAny_getItem_list_slice (s := St s (h.push { cls := .type "slice", data := .fields #[x, y, z] }) k) hl1 (Heap.IsSliceOf.new ..) px py pz h0 ?_ (by rw [List.size_toArray, hi.length, sizeLine_eq]; (first | lia | omega))) hs
  exact q _ _ ((F.grow (Grow.push h _)).push rfl ⟨(slicePick vs.toArray lo _ st).toList, by rw [Array.toArray_toList]; exact isList_push _, hp vs hi⟩)
theorem r_slTo {v : PySem.Expr} {hi : Option PySem.Expr} {p : Pos} {j : Int} {t : Tok} (F : Fm h₀ L h l es) (e : (Ent.il a ns).on h) (hn : ns.length ≤ 1000000) (h0 : 0 ≤ j)
    (q : ∀ c h', Fm h₀ L h' l (.il c (ns.take j.toNat) :: es) → Q (.ref c) (St s h' k)) : SlT (model prog w) A v (.Slice none hi none p) (.ref a) .none (.int j t) .none Q (St s h k) :=
  slt F e hn .none (.int j t) .none (by simp) (fun _ hi => slice_ints_uptoW hi h0) q rfl
theorem r_slFrom {v : PySem.Expr} {lo : Option PySem.Expr} {p : Pos} {j : Int} {t : Tok} (F : Fm h₀ L h l es) (e : (Ent.il a ns).on h) (hn : ns.length ≤ 1000000) (h0 : 0 ≤ j)
    (q : ∀ c h', Fm h₀ L h' l (.il c (ns.drop j.toNat) :: es) → Q (.ref c) (St s h' k)) : SlT (model prog w) A v (.Slice lo none none p) (.ref a) (.int j t) .none .none Q (St s h k) :=
  slt F e hn (.int j t) .none .none (by simp) (fun _ hi => slice_ints_fromW hi h0) q rfl
theorem r_slFT {v : PySem.Expr} {lo hi : Option PySem.Expr} {p : Pos} {i j : Int} {t u : Tok} (F : Fm h₀ L h l es) (e : (Ent.il a ns).on h) (hn : ns.length ≤ 1000000) (h0 : 0 ≤ i) (h1 : i ≤ j) (h2 : j ≤ ns.length)
    (q : ∀ c h', Fm h₀ L h' l (.il c ((ns.drop i.toNat).take (j - i).toNat) :: es) → Q (.ref c) (St s h' k)) : SlT (model prog w) A v (.Slice lo hi none p) (.ref a) (.int i t) (.int j u) .none Q (St s h k) :=
  slt F e hn (.int i t) (.int j u) .none (by simp) (fun _ hi => slice_ints hi h0 h1 h2) q rfl
theorem r_slRev {v : PySem.Expr} {st : PySem.Expr} {p : Pos} {u : Tok} (F : Fm h₀ L h l es) (e : (Ent.il a ns).on h) (hn : ns.length ≤ 1000000)
    (q : ∀ c h', Fm h₀ L h' l (.il c ns.reverse :: es) → Q (.ref c) (St s h' k)) : SlT (model prog w) A v (.Slice none none (some st) p) (.ref a) .none .none (.int (-1) u) Q (St s h k) :=
  slt F e hn .none .none (.int (-1) u) (by simp) (fun vs hi => by rw [krv_pick]; simpa using hi.reverse) q rfl
end
end Mine
namespace Mine
open PySem PySem.W PySem.Calls PyProof.Rows

-- the part of the heap that the top left
structure Gd (w : World) (hb : Heap) : Prop where
  X : (hd.heap_39 w.params).In hb
  T : ∃ loose mg mb, TopRead hd.view_39 loose mg mb hb
theorem Gd.grow {w : World} {h h' : Heap} (G : Gd w h) (k : Grow h h') : Gd w h' := ⟨G.X.keeps k, let ⟨a, b, c, T⟩ := G.T; ⟨a, b, c, T.keeps k⟩⟩

theorem warm : PySem.Challenge.rw_sa0335_01 = PySem.Challenge.rw_sa0335_01 ∧ @hd.heap_39 = @hd.heap_39 := by k_fill; exact ⟨rfl, rfl⟩
theorem g_normal (w : World) : nsIn (hd.heap_39 w.params) mainGlobals (Str.ofString "normal") = some (some (.ref 46)) := by k_is
theorem g_add (w : World) : nsIn (hd.heap_39 w.params) mainGlobals (Str.ofString "add") = some (some (.ref 53)) := by k_is
theorem g_inverse_limb (w : World) : nsIn (hd.heap_39 w.params) mainGlobals (Str.ofString "inverse_limb") = some (some (.ref 60)) := by k_is
theorem g_low_limbs (w : World) : nsIn (hd.heap_39 w.params) mainGlobals (Str.ofString "low_limbs") = some (some (.ref 67)) := by k_is
theorem g_complement (w : World) : nsIn (hd.heap_39 w.params) mainGlobals (Str.ofString "complement") = some (some (.ref 72)) := by k_is
theorem g_inverse_low (w : World) : nsIn (hd.heap_39 w.params) mainGlobals (Str.ofString "inverse_low") = some (some (.ref 79)) := by k_is
theorem g_take_product (w : World) : nsIn (hd.heap_39 w.params) mainGlobals (Str.ofString "take_product") = some (some (.ref 86)) := by k_is
theorem g_divrem_low (w : World) : nsIn (hd.heap_39 w.params) mainGlobals (Str.ofString "divrem_low") = some (some (.ref 93)) := by k_is
theorem g_mul_school (w : World) : nsIn (hd.heap_39 w.params) mainGlobals (Str.ofString "mul_school") = some (some (.ref 100)) := by k_is
theorem g_law_pip (w : World) : nsIn (hd.heap_39 w.params) mainGlobals (Str.ofString "_law_pip") = some (some (.ref 107)) := by k_is
theorem g_law_limbs (w : World) : nsIn (hd.heap_39 w.params) mainGlobals (Str.ofString "_law_limbs") = some (some (.ref 114)) := by k_is
theorem g_law_worth (w : World) : nsIn (hd.heap_39 w.params) mainGlobals (Str.ofString "_law_worth") = some (some (.ref 119)) := by k_is
theorem g_law_common (w : World) : nsIn (hd.heap_39 w.params) mainGlobals (Str.ofString "_law_common") = some (some (.ref 126)) := by k_is
theorem g_law_order (w : World) : nsIn (hd.heap_39 w.params) mainGlobals (Str.ofString "_law_order") = some (some (.ref 133)) := by k_is
theorem g_law_divided (w : World) : nsIn (hd.heap_39 w.params) mainGlobals (Str.ofString "_law_divided") = some (some (.ref 140)) := by k_is
theorem g_law_is_round (w : World) : nsIn (hd.heap_39 w.params) mainGlobals (Str.ofString "_law_is_round") = some (some (.ref 147)) := by k_is

section
variable {w : World} {A : Around} {s : Shared} {h hb h₀ : Heap} {k : Nat} {env : Env} {L : Addr} {l : List (Str × AV)} {es : List Ent} {Q : Value → Shared → Prop} {x : Str} {pos : Pos} {M : Model}
theorem r_gl {v : Value} (G : Gd w hb) (kb : Grow hb h₀) (F : Fm h₀ L h l es) (e : nsIn (hd.heap_39 w.params) mainGlobals x = some (some v)) (q : Q v (St s h k))
    (hg : env.globals = mainGlobals := by rfl) (hk : env.scope.kind = .function := by rfl) (hx : env.kindOf x = some .globalImplicit := by rfl) (hd : (x == ("__debug__" : Str)) = false := by decide) :
    wpAny M A (eval (.Name x pos) env) Q Nope (St s h k) := by
  obtain ⟨loose, mg, mb, T⟩ := G.T
  exact Name_function_global hk hx (loadGlobal_global (env := env) (s := St s h k) (by rw [hg]; exact (T.g.keeps kb).keeps F.keep) (mg_of G.X T.g e) q) hd
theorem r_bi {v : Value} (G : Gd w hb) (kb : Grow hb h₀) (F : Fm h₀ L h l es) (e : nsIn (hd.heap_39 w.params) mainGlobals x = some none) (hv : bootBuiltins x = some v) (hn : x ≠ "__name__") (q : Q v (St s h k))
    (hg : env.globals = mainGlobals := by rfl) (hgb : env.builtins = builtinsNs := by rfl) (hk : env.scope.kind = .function := by rfl) (hx : env.kindOf x = some .globalImplicit := by rfl) (hd : (x == ("__debug__" : Str)) = false := by decide) :
    wpAny M A (eval (.Name x pos) env) Q Nope (St s h k) := by
  obtain ⟨loose, mg, mb, T⟩ := G.T
  exact Name_function_global hk hx (loadGlobal_builtin (env := env) (s := St s h k) (by rw [hg]; exact (T.g.keeps kb).keeps F.keep) (mg_none_of G.X T.g e) (by rw [hgb]; exact (T.b.keeps kb).keeps F.keep) ((T.builtins x hn).trans hv) q) hd
theorem Fm.inK (F : Fm h₀ L h l es) (G : Gd w hb) (kb : Grow hb h₀) : (hd.heap_39 w.params).In h := (G.X.keeps kb).keeps F.keep

theorem r_cwB {id : String} {e : PySem.Expr} {rest : List PySem.Expr} {s : Shared} (q : wpAny M A (spliced (backTo pos (starEach (e :: rest) env))) (fun vs s₁ => wpAny M A (call (.builtin id) vs) Q Nope s₁) Nope s)
    (he : starEach (e :: rest) env = (false, eval e env) :: starEach rest env := by rfl) (hp : (backTo pos (starEach rest env)).any (·.1) = false := by rfl) :
    wpAny M A (callWith pos (.builtin id) [] (backTo pos (starEach (e :: rest) env)) []) Q Nope s := PyProof.Rows.callWith_builtin1 q he hp
theorem r_cwT {T : String} {e : PySem.Expr} {rest : List PySem.Expr} {s : Shared} (q : wpAny M A (spliced (backTo pos (starEach (e :: rest) env))) (fun vs s₁ => wpAny M A (call (.type T) vs) Q Nope s₁) Nope s)
    (he : starEach (e :: rest) env = (false, eval e env) :: starEach rest env := by rfl) (hp : (backTo pos (starEach rest env)).any (·.1) = false := by rfl) :
    wpAny M A (callWith pos (.type T) [] (backTo pos (starEach (e :: rest) env)) []) Q Nope s := PyProof.Rows.callWith_type1 q he hp
theorem r_cwF {f : Addr} {e : PySem.Expr} {rest : List PySem.Expr} {s : Shared} (X : (hd.heap_39 w.params).In s.heap) (hk : keepIn (hd.heap_39 w.params) (.ref f) = true)
    (q : wpAny M A (spliced (backTo pos (starEach (e :: rest) env))) (fun vs s₁ => (hd.heap_39 w.params).In s₁.heap ∧ wpAny M A (call (.ref f) vs) Q Nope s₁) Nope s)
    (he : starEach (e :: rest) env = (false, eval e env) :: starEach rest env := by rfl) (hp : (backTo pos (starEach rest env)).any (·.1) = false := by rfl) :
    wpAny M A (callWith pos (.ref f) [] (backTo pos (starEach (e :: rest) env)) []) Q Nope s := by
  exact callWith_K (h₀ := s.heap) X hk q he hp
theorem r_appCall {prog : Program} {o e : PySem.Expr} {apos : Pos} {s : Shared} (q : wpAny (model prog w) A (eval o env) (fun ov s₁ => ∃ D its, ov = .ref D ∧ PlainL s₁.heap D its ∧
      wpAny (model prog w) A (eval e env) (fun y s₂ => wpAny (model prog w) A (call (.builtin "list.append") [.ref D, y]) Q Nope s₂) Nope s₁) Nope s)
    (hb : attributeBase o "append" env (eval o env) = eval o env := by rfl)
    (hf : ((backTo pos (starEach [e] env)).all (fun x => !x.1) && (backToKw pos (keywordEach [] env)).all (fun x => x.1.isSome) && decide (([e] : List PySem.Expr).length + ([] : List Keyword).length + (if ([] : List Keyword).isEmpty then 0 else 1) < 30)) = true := by rfl)
    (hl : (apos.endLine == pos.line) = true := by rfl) (ht : backTo pos (starEach [e] env) = [(false, eval e env)] := by rfl) : wpAny (model prog w) A (eval (.Call (.Attribute o "append" apos) [e] [] pos) env) Q Nope s :=
  wpAny_Call_append hb hf hl ht q
end

section
variable {w : World} {A : Around} {s : Shared} {h hb h₀ : Heap} {k : Nat} {L : Addr} {l : List (Str × AV)} {es : List Ent} {Q : Value → Shared → Prop} {prog : Program}
-- a call of a def of the text without cells: no exception, all the heap below it may be used
theorem r_enter {f : Addr} {vals : List Value} {binds : List (Str × Value)} {name qual : Str} {params : Arguments} {body : List Stmt} {scope : Scope} {dV kV doc pm cdv ct oc : Value} {an od : Option Addr} {osl : Array (Option Value)} {n : Nat}
    (G : Gd w hb) (hbase : Grow hb h₀) (k₀ : Grow h₀ h) (hsz : h₀.objs.size ≤ h.objs.size) (R : Room A (n + 1))
    (ho : (hd.heap_39 w.params).lookup f = some ⟨oc, od, .func (fnOf name qual params body scope dV kV doc pm an cdv ct), osl⟩) (hcd : codeIn (hd.heap_39 w.params) cdv qual = true)
    (hbind : BindsTo (St s h k) (fnOf name qual params body scope dV kV doc pm an cdv ct) ⟨vals, []⟩ binds)
    (hcell : ∀ x ∈ scope.names, x.2 ≠ .cell) (hloc : ∀ x ∈ binds, scope.names.lookup x.1 = some .local)
    (q : ∀ L h₁ k₁ m, Fr h₀ L h₁ m → (∀ x v, binds.reverse.lookup x = some v → m x = some v) → Grow h h₁ → h.objs.size ≤ L → Room (A.deeper (envOf qual scope L f cdv)) n →
      wpAny (model prog w) (A.deeper (envOf qual scope L f cdv)) (execs body (envOf qual scope L f cdv)) (PF (Q .none) Q) Nope (St s h₁ k₁))
    (hco : scope.isCoroutine = false := by rfl) (hgen : scope.isGenerator = false := by rfl) (hk : scope.kind = .function := by rfl) :
    wpAny (model prog w) A (call (.ref f) vals) Q Nope (St s h k) := by
  obtain ⟨loose, mg, mb, T⟩ := G.T
  have X := (G.X.keeps hbase).keeps k₀
  refine wpAny_call (codeAny_call_def (s := St s h k) (fd := fnOf name qual params body scope dV kV doc pm an cdv ct) (body := body) (binds := binds) R.limit (X _ _ ho) rfl ((T.nolimit.keeps hbase).keeps k₀) (codeRec_of X hcd) rfl hbind hcell hloc (fun h₁ hns hk₁ => ?_) hco hgen hk)
  refine wpAny_mono (q h.objs.size h₁ _ _ ⟨hns, fun b o e => hk₁ b o (k₀ b o e), hsz⟩ (fun x v e => e) hk₁ (Nat.le_refl _) R.deeper) (fun fl s' z => ?_) fun _ _ e => e.elim
  cases fl <;> first | exact z | exact z.elim
end
end Mine
namespace Mine
open PySem PySem.W PySem.Calls PyProof.Rows

noncomputable def LR (Qn : Shared → Prop) (Qr : Value → Shared → Prop) (r : Result) (s' : Shared) : Prop :=
  match r with
  | .ok f => PF Qn Qr f s'
  | .error _ => False
-- the end of a turn: a new state of the loop
noncomputable def Turn {σ : Type} (s : Shared) (h₀ : Heap) (L : Addr) (J : σ → Prop) (Lo : σ → List (Str × AV)) (Le : σ → List Ent) (s' : Shared) : Prop :=
  ∃ y h' k', s' = St s h' k' ∧ J y ∧ Fm h₀ L h' (Lo y) (Le y)
theorem Turn.mk {σ : Type} {s : Shared} {h₀ h : Heap} {L : Addr} {k : Nat} {J : σ → Prop} {Lo : σ → List (Str × AV)} {Le : σ → List Ent} {l : List (Str × AV)} {es : List Ent} (y : σ) (F : Fm h₀ L h l es)
    (n : Names l (Lo y)) (u : (Le y).Sublist es) (j : J y) : Turn s h₀ L J Lo Le (St s h k) := ⟨y, h, k, rfl, j, (F.names n).ents u⟩

section
variable {prog : Program} {w : World} {A : Around} {s : Shared} {h h₀ : Heap} {k : Nat} {env : Env} {l : List (Str × AV)} {es : List Ent} {Qn : Shared → Prop} {Qr : Value → Shared → Prop}

theorem r_while {σ : Type} (J : σ → Prop) (Lo : σ → List (Str × AV)) (Le : σ → List Ent) (μ : σ → Nat) {test : PySem.Expr} {body : List Stmt} {pos : Pos} (x₀ : σ)
    (F : Fm h₀ env.locals h l es) (n : Names l (Lo x₀)) (u : (Le x₀).Sublist es) (j : J x₀)
    (turn : ∀ x h k, J x → Fm h₀ env.locals h (Lo x) (Le x) → wpAny (model prog w) A (isTrue test env (eval test env)) (fun b s' =>
      (b = true → wpAny (model prog w) A (execs body env) (PF (Turn s h₀ env.locals (fun y => J y ∧ μ y < μ x) Lo Le) Qr) Nope s') ∧ (b = false → Qn s')) Nope (St s h k)) :
    wpAny (model prog w) A (exec (.While test body [] pos) env) (PF Qn Qr) Nope (St s h k) := by
  refine wpAny_While ?_
  refine codeAny_whileLoop (fun n s' => ∃ x h k, s' = St s h k ∧ μ x = n ∧ J x ∧ Fm h₀ env.locals h (Lo x) (Le x)) ?_ (μ x₀) ⟨x₀, h, k, rfl, rfl, j, (F.names n).ents u⟩
  rintro n s' ⟨x, h, k, rfl, rfl, j, F⟩
  refine wpAny_mono (turn x h k j F) (fun b s₂ q => ?_) fun _ _ e => e.elim
  cases b with
  | true =>
    rw [if_pos rfl]
    refine wpAny_mono (q.1 rfl) (fun f s₃ z => ?_) fun _ _ e => e.elim
    cases f with
    | next => obtain ⟨y, h', k', rfl, ⟨j', lt⟩, F'⟩ := z; exact ⟨μ y, lt, y, h', k', rfl, rfl, j', F'⟩
    | ret v => exact z
    | brk => exact z.elim
    | cont => exact z.elim
  | false =>
    rw [if_neg (by decide)]
    exact wpAny_execs_nil (q.2 rfl)

theorem r_for {target iter : PySem.Expr} {body : List Stmt} {pos : Pos} {s : Shared}
    (q : wpAny (model prog w) A (eval iter env) (fun x s₁ => wpAny (model prog w) A (pyIter x) (fun it s₂ => codeAny (model prog w) A (.forLoop target it body [] env) (LR Qn Qr) s₂) Nope s₁) Nope s)
    (hs : ∀ x, foldedSetIterable iter env x = pure x := by intro _; rfl) : wpAny (model prog w) A (exec (.For target iter body [] pos) env) (PF Qn Qr) Nope s := by
  refine wpAny_For (wpAny_mono q (fun x s₁ q => wpAny_mono q (fun it s₂ q => ?_) fun _ _ e => e) fun _ _ e => e) hs
  refine codeAny_mono q fun r s' z => ?_
  cases r with
  | ok f => exact z
  | error e => exact z.elim

noncomputable def raws (os : List (Addr × Obj)) : List Ent := os.map fun p => .raw p.1 p.2
theorem raws_addr (os : List (Addr × Obj)) : (raws os).map Ent.addr = os.map (·.1) := by induction os <;> simp_all [raws, Ent.addr]
-- the objects that an iterator writes are written
theorem Fm.written {L : Addr} {h' : Heap} {os : List (Addr × Obj)} {r : List Ent} (F : Fm h₀ L h l (raws os ++ r)) (k : ∀ b o, b ∉ os.map (·.1) → h.get? b = some o → h'.get? b = some o)
    (hI : ∀ b ∈ os.map (·.1), ∃ o, h'.get? b = some o) : ∃ os', os'.map (·.1) = os.map (·.1) ∧ Fm h₀ L h' l (raws os' ++ r) := by
  have mk : ∀ l : List Addr, (∀ b ∈ l, ∃ o, h'.get? b = some o) → ∃ os' : List (Addr × Obj), os'.map (·.1) = l ∧ ∀ p ∈ os', h'.get? p.1 = some p.2 := by
    intro l
    induction l with
    | nil => intro _; exact ⟨[], rfl, fun _ hp => nomatch hp⟩
    | cons b r ih =>
      intro hb
      obtain ⟨o, ho⟩ := hb b (.head _)
      obtain ⟨os', e, he⟩ := ih fun c hc => hb c (.tail _ hc)
      exact ⟨(b, o) :: os', by simp [e], fun p hp => by rcases List.mem_cons.mp hp with rfl | hp; exact ho; exact he p hp⟩
  obtain ⟨os', e, he⟩ := mk _ hI
  refine ⟨os', e, ?_⟩
  have nd := F.apart
  have offL : ∀ b ∈ os.map (·.1), b ≠ L ∧ h₀.get? b = none := fun b hb => by
    obtain ⟨p, hp, rfl⟩ := List.mem_map.mp hb
    have := F.led (.raw p.1 p.2) (List.mem_append_left _ (List.mem_map.mpr ⟨p, hp, rfl⟩))
    exact this.2
  have hne : ∀ e' ∈ r, e'.addr ∉ os.map (·.1) := fun e' he' hm => by
    rw [List.map_append, raws_addr] at nd
    exact (List.nodup_append.mp nd).2.2 _ hm _ (List.mem_map_of_mem he') rfl
  refine ⟨?_, fun e' he' => ?_, by rw [List.map_append, raws_addr, e]; rw [List.map_append, raws_addr] at nd; exact nd⟩
  · obtain ⟨m, f, c⟩ := F.fr
    refine ⟨m, ⟨f.ns.at' fun o q => k _ o (fun hm => (offL _ hm).1 rfl) q, fun b o q => k b o (fun hm => by rw [(offL b hm).2] at q; cases q) (f.keep b o q), f.above⟩, c⟩
  · rcases List.mem_append.mp he' with hm | hm
    · obtain ⟨p, hp, rfl⟩ := List.mem_map.mp hm
      have : p.1 ∈ os.map (·.1) := e ▸ List.mem_map_of_mem hp
      exact ⟨he p hp, (offL _ this).1, (offL _ this).2⟩
    · have := F.led e' (List.mem_append_right _ hm)
      exact ⟨this.1.moved fun o q => k _ o (hne e' hm) q, this.2⟩

/-- the objects that an iterator needs, found again -/
theorem frame_at {L : Addr} {fp wr : List Addr} {os : List (Addr × Obj)} {pins r r' r'' : List Ent} {L' : Addr} {l' : List (Str × AV)} {h₁ h₂ : Heap} (F₁ : Fm h₀ L h₁ l (r'' ++ (raws os ++ (pins ++ r)))) (F₂ : Fm h₀ L' h₂ l' (r' ++ (raws os ++ (pins ++ es)))) (hos : os.map (·.1) = wr)
    (hfp : ∀ b ∈ fp, b ∈ wr ∨ (∃ o, h₀.get? b = some o) ∨ ∃ o, Ent.raw b o ∈ pins) : ∀ b ∈ fp, ∀ o, h₁.get? b = some o → h₂.get? b = some o := fun b hb o e => by
  rcases hfp b hb with q | ⟨o', q⟩ | ⟨o', q⟩
  · have hm : b ∈ os.map (·.1) := hos.symm ▸ q
    obtain ⟨p, hp, rfl⟩ := List.mem_map.mp hm
    have g₁ : h₁.get? p.1 = some p.2 := F₁.on (List.mem_append_right _ (List.mem_append_left _ (List.mem_map.mpr ⟨p, hp, rfl⟩)))
    have g₂ : h₂.get? p.1 = some p.2 := F₂.on (List.mem_append_right _ (List.mem_append_left _ (List.mem_map.mpr ⟨p, hp, rfl⟩)))
    rw [g₁] at e; cases e; exact g₂
  · rw [F₁.keep _ _ q] at e; cases e; exact F₂.keep _ _ q
  · have g₁ : h₁.get? b = some o' := F₁.on (List.mem_append_right _ (List.mem_append_right _ (List.mem_append_left _ q)))
    have g₂ : h₂.get? b = some o' := F₂.on (List.mem_append_right _ (List.mem_append_right _ (List.mem_append_left _ q)))
    rw [g₁] at e; cases e; exact g₂
-- the walk over a source: J i says what holds when i items are taken
theorem for_core {σ : Type} {I : Addr} {fp wr : List Addr} {n : Nat} {P : Nat → Value → Prop} {Sx : Nat → Heap → Prop} (W : Walks prog w A I fp wr n P Sx)
    (hI : ∀ i h, Sx i h → ∀ b ∈ wr, ∃ o, h.get? b = some o) (J : Nat → σ → Prop) (Lo : σ → List (Str × AV)) (Le : σ → List Ent) {os : List (Addr × Obj)} {pins : List Ent}
    (hfp : ∀ b ∈ fp, b ∈ wr ∨ (∃ o, h₀.get? b = some o) ∨ ∃ o, Ent.raw b o ∈ pins) (hos : os.map (·.1) = wr) {target : PySem.Expr} {body : List Stmt} (x₀ : σ)
    (hst : Sx 0 h) (F : Fm h₀ env.locals h (Lo x₀) (raws os ++ (pins ++ Le x₀))) (j : J 0 x₀)
    (turn : ∀ i v x h k ps, i < n → P i v → J i x → Fm h₀ env.locals h (Lo x) (Le x ++ ps) →
      wpAny (model prog w) A (assign target env v) (fun _ s₁ => wpAny (model prog w) A (execs body env) (PF (Turn s h₀ env.locals (J (i + 1)) Lo (fun y => Le y ++ ps)) Qr) Nope s₁) Nope (St s h k))
    (done : ∀ x h k, J n x → Fm h₀ env.locals h (Lo x) (Le x) → Qn (St s h k))
    (ht : ∀ v, letOwnedTupleGo target (.ref I) v = pure () := by intro _; rfl) :
    codeAny (model prog w) A (.forLoop target (.ref I) body [] env) (LR Qn Qr) (St s h k) := by
  refine codeAny_forLoop (fun m s' => ∃ i x h k os, s' = St s h k ∧ m = n + 1 - i ∧ i ≤ n ∧ Sx i h ∧ J i x ∧ os.map (·.1) = wr ∧ Fm h₀ env.locals h (Lo x) (raws os ++ (pins ++ Le x))) ?_ (n + 1)
    ⟨0, x₀, h, k, os, rfl, rfl, Nat.zero_le _, hst, j, hos, F⟩ ht
  rintro m s' ⟨i, x, h, k, os, rfl, rfl, hi, hst, j, hos, F⟩
  by_cases c : i < n
  · refine W.item i _ _ _ c hst fun v h₁ tk₁ hP hst₁ hk₁ => ?_
    obtain ⟨os₁, e₁, F₁⟩ := F.written (h' := h₁) (fun b o hb => hk₁ b o (hos ▸ hb)) (fun b hb => hI _ _ hst₁ b (hos ▸ hb))
    have F₂ : Fm h₀ env.locals h₁ (Lo x) ((raws os₁ ++ pins) ++ Le x) := by rw [List.append_assoc]; exact F₁
    refine wpAny_mono (turn i v x h₁ tk₁ _ c hP j (F₂.perm List.perm_append_comm)) (fun _ s₂ q => wpAny_mono q (fun f s₃ z => ?_) fun _ _ e => e.elim) fun _ _ e => e.elim
    cases f with
    | next =>
      obtain ⟨y, h', k', rfl, j', F'⟩ := z
      have F' : Fm h₀ env.locals h' (Lo y) ((raws os₁ ++ pins) ++ Le y) := Fm.perm F' List.perm_append_comm
      refine ⟨n + 1 - (i + 1), by (first | lia | omega), i + 1, y, h', k', os₁, rfl, rfl, c, ?_, j', e₁.trans hos, by rw [← List.append_assoc]; exact F'⟩
      exact W.frame _ _ _ hst₁ (frame_at (r'' := []) (r' := []) F₁ (by rw [List.append_assoc] at F'; exact F') (e₁.trans hos) hfp)
    | ret v => exact z
    | brk => exact z.elim
    | cont => exact z.elim
  · have hin : i = n := by (first | lia | omega)
    subst hin
    refine W.done _ _ _ hst fun h₁ tk₁ hk₁ => wpAny_execs_nil ?_
    have off : ∀ b ∈ os.map (·.1), b ≠ env.locals ∧ h₀.get? b = none := fun b hb => by
      obtain ⟨p, hp, rfl⟩ := List.mem_map.mp hb
      exact (F.led (.raw p.1 p.2) (List.mem_append_left _ (List.mem_map.mpr ⟨p, hp, rfl⟩))).2
    have nd := F.apart
    refine done x h₁ tk₁ j ⟨?_, fun e he => ?_, ?_⟩
    · obtain ⟨m, f, c⟩ := F.fr
      exact ⟨m, ⟨f.ns.at' fun o q => hk₁ _ o (fun hm => (off _ (hos ▸ hm)).1 rfl) q, fun b o q => hk₁ b o (fun hm => by rw [(off b (hos ▸ hm)).2] at q; cases q) (f.keep b o q), f.above⟩, c⟩
    · have := F.led e (List.mem_append_right _ (List.mem_append_right _ he))
      refine ⟨this.1.moved fun o q => hk₁ _ o (fun hm => ?_) q, this.2⟩
      rw [List.map_append, raws_addr, hos] at nd
      exact (List.nodup_append.mp nd).2.2 _ hm _ (List.mem_map_of_mem (List.mem_append_right _ he)) rfl
    · rw [List.map_append, List.map_append] at nd
      exact (List.nodup_append.mp (List.nodup_append.mp nd).2.1).2.1
end

section
variable {prog : Program} {w : World} {A : Around} {s : Shared} {h h₀ : Heap} {k : Nat} {env : Env} {L : Addr} {l : List (Str × AV)} {es : List Ent} {Qn : Shared → Prop} {Qr : Value → Shared → Prop} {Q : Value → Shared → Prop}
theorem r_range1 {n : Int} {t : Tok} (F : Fm h₀ L h l es) (q : ∀ a h' k', Fm h₀ L h' l (.rng a 0 n :: es) → Q (.ref a) (St s h' k')) : wpAny (model prog w) A (call (.type "range") [.int n t]) Q Nope (St s h k) :=
  call_range_1 (s := St s h k) (q _ _ _ (F.push rfl ⟨_, _, _, IsRange.new h 0 n 1 _ _ _⟩))
theorem r_range2 {m n : Int} {t u : Tok} (F : Fm h₀ L h l es) (q : ∀ a h' k', Fm h₀ L h' l (.rng a m n :: es) → Q (.ref a) (St s h' k')) : wpAny (model prog w) A (call (.type "range") [.int m t, .int n u]) Q Nope (St s h k) :=
  call_range_2 (s := St s h k) (q _ _ _ (F.push rfl ⟨_, _, _, IsRange.new h m n 1 _ _ _⟩))
theorem r_forRange {σ : Type} (J : Nat → σ → Prop) (Lo : σ → List (Str × AV)) (Le : σ → List Ent) (x₀ : σ) {a : Addr} {lo hi : Int} {y : Str} {p : Pos} {body : List Stmt} (R : Room A 0) (e : (Ent.rng a lo hi).on h)
    (h1 : -1000000 ≤ lo) (h2 : lo ≤ 1000000) (h3 : -1000000 ≤ hi) (h4 : hi ≤ 1000000)
    (F : Fm h₀ env.locals h l es) (n : Names l (Lo x₀)) (u : (Le x₀).Sublist es) (j : J 0 x₀)
    (turn : ∀ i x h k ps, i < (hi - lo).toNat → J i x → Fm h₀ env.locals h ((y, .int (lo + i)) :: Lo x) (Le x ++ ps) →
      wpAny (model prog w) A (execs body env) (PF (Turn s h₀ env.locals (J (i + 1)) Lo (fun y => Le y ++ ps)) Qr) Nope (St s h k))
    (done : ∀ x h k, J (hi - lo).toNat x → Fm h₀ env.locals h (Lo x) (Le x) → Qn (St s h k))
    (hk : env.scope.kind = .function := by rfl) (hl : env.kindOf y = some .local := by rfl) :
    wpAny (model prog w) A (pyIter (.ref a)) (fun it s₂ => codeAny (model prog w) A (.forLoop (.Name y p) it body [] env) (LR Qn Qr) s₂) Nope (St s h k) := by
  obtain ⟨t, v, z, hr⟩ := e
  refine wpAny_pyIter_range (s := St s h k) hr (small_one (by (first | lia | omega)) (by (first | lia | omega)) (by (first | lia | omega)) (by (first | lia | omega))) ?_
  have hsz : Builtin.Range.rangeSize lo hi 1 = ((hi - lo).toNat : Int) := by rw [rangeSize_one]; split <;> (first | lia | omega)
  rw [hsz]
  have FF := ((F.names n).ents u).push (o := { cls := .type "range_iterator", data := .fields #[rawInt lo, rawInt ((hi - lo).toNat : Int), rawInt 1] }) (e := .raw h.objs.size _) rfl (Heap.get?_push_size _ rfl)
  refine for_core (s := s) (os := [(h.objs.size, _)]) (pins := []) (Walks.range (prog := prog) (w := w) R.handled h.objs.size lo 1 (hi - lo).toNat) (fun i h' q b hb => by rw [List.mem_singleton.mp hb]; exact ⟨_, q⟩) J Lo Le (fun b hb => .inl hb) rfl x₀ ?_ FF j ?_ done
  · show IsRangeIter _ _ (lo + ((0 : Nat) : Int) * 1) (((hi - lo).toNat : Int) - ((0 : Nat) : Int)) 1
    rw [show lo + ((0 : Nat) : Int) * 1 = lo by simp, show (((hi - lo).toNat : Int) - ((0 : Nat) : Int)) = ((hi - lo).toNat : Int) by simp]
    exact Heap.get?_push_size _ rfl
  · rintro i v x h' k' ps hi' ⟨t', rfl⟩ j' F'
    refine PyProof.Rows.assign_Name (r_stI F' (fun h₂ k₂ F₂ => ?_) hk hl)
    have := turn i x h₂ k₂ ps hi' j' (by rw [show lo + (i : Int) * 1 = lo + i by (first | lia | omega)] at F₂; exact F₂)
    exact this
theorem r_forList {σ : Type} (J : Nat → σ → Prop) (Lo : σ → List (Str × AV)) (Le : σ → List Ent) (x₀ : σ) {a : Addr} {ns : List Int} {y : Str} {p : Pos} {body : List Stmt} (R : Room A 0) (e : (Ent.il a ns).on h₀)
    (F : Fm h₀ env.locals h l es) (n : Names l (Lo x₀)) (u : (Le x₀).Sublist es) (j : J 0 x₀)
    (turn : ∀ i x h k ps, i < ns.length → J i x → Fm h₀ env.locals h ((y, .int (ns.getD i 0)) :: Lo x) (Le x ++ ps) →
      wpAny (model prog w) A (execs body env) (PF (Turn s h₀ env.locals (J (i + 1)) Lo (fun y => Le y ++ ps)) Qr) Nope (St s h k))
    (done : ∀ x h k, J ns.length x → Fm h₀ env.locals h (Lo x) (Le x) → Qn (St s h k))
    (hk : env.scope.kind = .function := by rfl) (hl : env.kindOf y = some .local := by rfl) :
    wpAny (model prog w) A (pyIter (.ref a)) (fun it s₂ => codeAny (model prog w) A (.forLoop (.Name y p) it body [] env) (LR Qn Qr) s₂) Nope (St s h k) := by
  obtain ⟨vs, hb, hi⟩ := e
  obtain ⟨ob, hob, _⟩ := id hb
  have hls : h.IsList a vs.toArray := hb.at fun o e => F.keep a o e
  have hlt : a < h.objs.size := let ⟨_, q, _⟩ := hls; Heap.lt_size q
  refine wpAny_pyIter_list (s := St s h k) hls ?_
  have FF := ((F.names n).ents u).push (o := { cls := .type "list_iterator", data := .fields #[.ref a, .int 0 0] }) (e := .raw h.objs.size _) rfl (Heap.get?_push_size _ rfl)
  have hlen : vs.toArray.size = ns.length := by simp [hi.length]
  refine for_core (s := s) (os := [(h.objs.size, _)]) (pins := []) (hlen ▸ Walks.list (prog := prog) (w := w) R.handled h.objs.size a (Nat.ne_of_lt hlt) vs.toArray) (fun i h' q b hb => ?_) J Lo Le (fun b hb => ?_) rfl x₀ ?_ FF j ?_ done
  · rw [List.mem_singleton.mp hb]
    obtain ⟨⟨o, ho, _⟩, _⟩ := q
    exact ⟨o, ho⟩
  · rcases List.mem_cons.mp hb with rfl | hb
    · exact .inl (.head _)
    · rw [List.mem_singleton.mp hb]; exact .inr (.inl ⟨ob, hob⟩)
  · exact ⟨⟨_, Heap.get?_push_size _ rfl, rfl, rfl⟩, hls.push _⟩
  · rintro i v x h' k' ps hi' hP j' F'
    obtain ⟨t, hx⟩ := getInts hi hi'
    have hv : v = .int (ns.getD i 0) t := by
      have hP' : vs[i]? = some v := by simpa using hP
      rw [hx] at hP'; exact (Option.some.inj hP').symm
    subst hv
    exact PyProof.Rows.assign_Name (r_stI F' (fun h₂ k₂ F₂ => turn i x h₂ k₂ ps hi' j' F₂) hk hl)
end
end Mine
namespace Mine
open PySem PySem.W PySem.Calls PyProof.Rows

theorem warm2 : PySem.Challenge.rw_sa0335_01 = PySem.Challenge.rw_sa0335_01 ∧ @hd.heap_39 = @hd.heap_39 := by k_fill; exact ⟨rfl, rfl⟩
theorem bb_len (w : World) : nsIn (hd.heap_39 w.params) mainGlobals (Str.ofString "len") = some none := by k_is
theorem bb_range (w : World) : nsIn (hd.heap_39 w.params) mainGlobals (Str.ofString "range") = some none := by k_is
theorem bb_enumerate (w : World) : nsIn (hd.heap_39 w.params) mainGlobals (Str.ofString "enumerate") = some none := by k_is
theorem bb_sum (w : World) : nsIn (hd.heap_39 w.params) mainGlobals (Str.ofString "sum") = some none := by k_is
theorem bb_min (w : World) : nsIn (hd.heap_39 w.params) mainGlobals (Str.ofString "min") = some none := by k_is
theorem bb_max (w : World) : nsIn (hd.heap_39 w.params) mainGlobals (Str.ofString "max") = some none := by k_is
theorem bb_abs (w : World) : nsIn (hd.heap_39 w.params) mainGlobals (Str.ofString "abs") = some none := by k_is
theorem bb_int (w : World) : nsIn (hd.heap_39 w.params) mainGlobals (Str.ofString "int") = some none := by k_is
theorem bv_len : bootBuiltins (Str.ofString "len") = some (.builtin "len") := by boot_by_name
theorem bv_range : bootBuiltins (Str.ofString "range") = some (.type "range") := by boot_by_name
theorem bv_enumerate : bootBuiltins (Str.ofString "enumerate") = some (.type "enumerate") := by boot_by_name
theorem bv_sum : bootBuiltins (Str.ofString "sum") = some (.builtin "sum") := by boot_by_name
theorem bv_min : bootBuiltins (Str.ofString "min") = some (.builtin "min") := by boot_by_name
theorem bv_max : bootBuiltins (Str.ofString "max") = some (.builtin "max") := by boot_by_name
theorem bv_abs : bootBuiltins (Str.ofString "abs") = some (.builtin "abs") := by boot_by_name
theorem bv_int : bootBuiltins (Str.ofString "int") = some (.type "int") := by boot_by_name

/-- what follows for each value that is so known -/
noncomputable def AVq : AV → (Value → Prop) → Prop
  | .int i, P => ∀ t, P (.int i t)
  | .bool b, P => P (.bool b)
  | .ref a, P => P (.ref a)
  | .nil, P => P .none
theorem AVq.ofI {i : Int} {P : Value → Prop} (h : ∀ t, P (.int i t)) : AVq (.int i) P := h
theorem AVq.ofB {b : Bool} {P : Value → Prop} (h : P (.bool b)) : AVq (.bool b) P := h
theorem AVq.ofR {a : Addr} {P : Value → Prop} (h : P (.ref a)) : AVq (.ref a) P := h
theorem AVq.app {a : AV} {P : Value → Prop} (h : AVq a P) {v : Value} (x : a.is v) : P v := by
  cases a with
  | int i => obtain ⟨t, rfl⟩ := x; exact h t
  | bool b => cases x; exact h
  | ref b => cases x; exact h
  | nil => cases x; exact h
section
variable {M : Model} {A : Around} {s : Shared} {h h₀ : Heap} {k : Nat} {env : Env} {l : List (Str × AV)} {es : List Ent} {Q : Value → Shared → Prop} {x : Str} {pos : Pos}
theorem r_nm {a : AV} (F : Fm h₀ env.locals h l es) (hv : l.lookup x = some a) (q : AVq a fun v => Q v (St s h k))
    (hk : env.scope.kind = .function := by rfl) (hl : env.kindOf x = some .local := by rfl) (hd : (x == ("__debug__" : Str)) = false := by decide) : wpAny M A (eval (.Name x pos) env) Q Nope (St s h k) := by
  obtain ⟨m, f, c⟩ := F.fr
  obtain ⟨v, hm, hav⟩ := c _ _ hv
  exact wpAny_Name (wpAny_loadName_local hk hl f.ns hm (q.app hav)) hd
theorem r_ld {a : AV} (F : Fm h₀ env.locals h l es) (hv : l.lookup x = some a) (q : AVq a fun v => Q v (St s h k))
    (hk : env.scope.kind = .function := by rfl) (hl : env.kindOf x = some .local := by rfl) : wpAny M A (loadName env x) Q Nope (St s h k) := by
  obtain ⟨m, f, c⟩ := F.fr
  obtain ⟨v, hm, hav⟩ := c _ _ hv
  exact wpAny_loadName_local hk hl f.ns hm (q.app hav)
end
theorem nm_int {o : Option AV} {x y : Int} (e : o = some (AV.int y)) (h : y = x) : o = some (AV.int x) := h ▸ e
/-- the names of a call and what is known of their values -/
noncomputable def Binds : List (Str × Value) → List (Str × AV) → Prop
  | [], [] => True
  | b :: r, p :: t => b.1 = p.1 ∧ p.2.is b.2 ∧ Binds r t
  | _, _ => False
theorem Binds.cover : ∀ {bs : List (Str × Value)} {l : List (Str × AV)}, Binds bs l → Cover (fun x => bs.lookup x) l
  | [], [], _ => fun x a e => nomatch e
  | (y, v) :: r, (z, b) :: t, ⟨e1, e2, e3⟩ => by
    intro x a e
    simp only at e1 e2
    subst e1
    rw [List.lookup_cons] at e
    show ∃ v', List.lookup x ((y, v) :: r) = some v' ∧ _
    rw [List.lookup_cons]
    cases q : x == y with
    | true => rw [q] at e; cases e; exact ⟨v, rfl, e2⟩
    | false => rw [q] at e; exact Binds.cover e3 x a e
theorem Fm.enter {h₀ h : Heap} {L : Addr} {m : Str → Option Value} {bs : List (Str × Value)} {l : List (Str × AV)} (F : Fr h₀ L h m) (hm : ∀ x v, bs.lookup x = some v → m x = some v) (b : Binds bs l) : Fm h₀ L h l [] :=
  ⟨⟨m, F, fun x a e => let ⟨v, e1, e2⟩ := b.cover x a e; ⟨v, hm x v e1, e2⟩⟩, (fun _ he => nomatch he), .nil⟩
theorem Fm.onr {h₀ h : Heap} {L : Addr} {l : List (Str × AV)} {es : List Ent} (F : Fm h₀ L h l es) {e : Ent} (hm : e ∈ es) : e.on h := F.on hm
end Mine
namespace Mine
/-- trailing zeros struck -/
noncomputable def norm : List Int → List Int
  | [] => []
  | x :: r => if norm r = [] then (if x = 0 then [] else [x]) else x :: norm r
/-- the number of a row of limbs -/
noncomputable def val (W : Int) : List Int → Int
  | [] => 0
  | x :: r => x + W * val W r
noncomputable def Limbs (W : Int) (ns : List Int) : Prop := ∀ x ∈ ns, 0 ≤ x ∧ x < W
structure Num (W : Int) (v : Int) (ns : List Int) : Prop where
  limbs : Limbs W ns
  val : val W ns = v
  norm : norm ns = ns

theorem three {α : Type} {y : List α} (h : y.length = 3) : ∃ a b c, y = [a, b, c] := by
  cases y with
  | nil => cases h
  | cons a y =>
    cases y with
    | nil => cases h
    | cons b y =>
      cases y with
      | nil => cases h
      | cons c y => cases List.eq_nil_of_length_eq_zero (Nat.succ.inj (Nat.succ.inj (Nat.succ.inj h))); exact ⟨a, b, c, rfl⟩
theorem Limbs.nil {W : Int} : Limbs W [] := fun _ h => nomatch h
theorem Limbs.cons {W x : Int} {r : List Int} (h : 0 ≤ x) (h' : x < W) (k : Limbs W r) : Limbs W (x :: r) := fun y hy => by
  rcases List.mem_cons.mp hy with rfl | hy
  · exact ⟨h, h'⟩
  · exact k y hy
theorem Limbs.head {W x : Int} {r : List Int} (h : Limbs W (x :: r)) : 0 ≤ x ∧ x < W := h x (.head _)
theorem Limbs.tail {W x : Int} {r : List Int} (h : Limbs W (x :: r)) : Limbs W r := fun y hy => h y (.tail _ hy)
theorem Limbs.append {W : Int} {a b : List Int} (h : Limbs W a) (k : Limbs W b) : Limbs W (a ++ b) := fun y hy => by
  rcases List.mem_append.mp hy with q | q
  · exact h y q
  · exact k y q
theorem Limbs.take {W : Int} {a : List Int} (h : Limbs W a) (n : Nat) : Limbs W (a.take n) := fun y hy => h y (List.mem_of_mem_take hy)
theorem Limbs.drop {W : Int} {a : List Int} (h : Limbs W a) (n : Nat) : Limbs W (a.drop n) := fun y hy => h y (List.mem_of_mem_drop hy)
theorem Limbs.set {W x : Int} {a : List Int} (h : Limbs W a) (i : Nat) (h0 : 0 ≤ x) (h1 : x < W) : Limbs W (a.set i x) := fun y hy => by
  rcases List.mem_or_eq_of_mem_set hy with q | rfl
  · exact h y q
  · exact ⟨h0, h1⟩
theorem Limbs.getD {W : Int} {a : List Int} (h : Limbs W a) (hW : 0 < W) (i : Nat) : 0 ≤ a.getD i 0 ∧ a.getD i 0 < W := by
  by_cases c : i < a.length
  · have : a.getD i 0 = a[i] := by simp [List.getD, c]
    rw [this]; exact h _ (List.getElem_mem c)
  · have : a.getD i 0 = 0 := by simp [List.getD, Nat.le_of_not_lt c]
    rw [this]; (first | lia | omega)
theorem Limbs.zeros {W : Int} (hW : 0 < W) (n : Nat) : Limbs W (List.replicate n 0) := fun y hy => by
  rw [List.mem_replicate] at hy; rw [hy.2]; (first | lia | omega)
theorem norm_nil_iff : ∀ {ns : List Int}, norm ns = [] ↔ ∀ j, ns.getD j 0 = 0
  | [] => by simp [norm]
  | x :: r => by
    have ih := @norm_nil_iff r
    unfold norm
    constructor
    · intro h j
      by_cases c : norm r = []
      · rw [if_pos c] at h
        by_cases d : x = 0
        · cases j with
          | zero => simpa using d
          | succ j => simpa using ih.mp c j
        · rw [if_neg d] at h; cases h
      · rw [if_neg c] at h; cases h
    · intro h
      have c : norm r = [] := ih.mpr fun j => by simpa using h (j + 1)
      have d : x = 0 := by simpa using h 0
      rw [if_pos c, if_pos d]
theorem norm_take : ∀ (ns : List Int) (e : Nat), e ≤ ns.length → (∀ j, e ≤ j → j < ns.length → ns.getD j 0 = 0) → (0 < e → ns.getD (e - 1) 0 ≠ 0) → ns.take e = norm ns
  | [], e, _, _, _ => by simp [norm]
  | x :: r, e, h, z, l => by
    cases e with
    | zero =>
      have : norm (x :: r) = [] := norm_nil_iff.mpr fun j => by
        by_cases c : j < (x :: r).length
        · exact z j (Nat.zero_le _) c
        · have q : (x :: r)[j]? = none := List.getElem?_eq_none (Nat.le_of_not_lt c)
          simp [List.getD, q]
      rw [this]; rfl
    | succ e =>
      have ih := norm_take r e (by simpa using h) (fun j h1 h2 => by simpa using z (j + 1) (by (first | lia | omega)) (by simpa using h2)) (fun h0 => by
        have := l (by (first | lia | omega))
        obtain ⟨f, rfl⟩ : ∃ f, e = f + 1 := ⟨e - 1, by (first | lia | omega)⟩
        simpa using this)
      unfold norm
      rw [List.take_succ_cons, ih]
      by_cases c : norm r = []
      · rw [if_pos c, c]
        have he : e = 0 := by
          apply Classical.byContradiction; intro q
          have := l (by (first | lia | omega))
          obtain ⟨f, rfl⟩ : ∃ f, e = f + 1 := ⟨e - 1, by (first | lia | omega)⟩
          exact this (by simpa using norm_nil_iff.mp c f)
        subst he
        have := l (by (first | lia | omega))
        rw [if_neg (by simpa using this)]
      · rw [if_neg c]
theorem norm_len : ∀ ns : List Int, (norm ns).length ≤ ns.length
  | [] => Nat.le_refl _
  | x :: r => by
    have := norm_len r
    unfold norm
    split
    · split <;> simp
    · simpa using this
theorem norm_prefix : ∀ ns : List Int, ∃ k, norm ns = ns.take k
  | [] => ⟨0, rfl⟩
  | x :: r => by
    obtain ⟨k, hk⟩ := norm_prefix r
    unfold norm
    split
    · split
      · exact ⟨0, rfl⟩
      · exact ⟨1, rfl⟩
    · exact ⟨k + 1, by simp [hk]⟩
theorem norm_norm : ∀ ns : List Int, norm (norm ns) = norm ns
  | [] => rfl
  | x :: r => by
    have ih := norm_norm r
    by_cases c : norm r = []
    · by_cases d : x = 0
      · have : norm (x :: r) = [] := by unfold norm; rw [if_pos c, if_pos d]
        rw [this]; rfl
      · have : norm (x :: r) = [x] := by unfold norm; rw [if_pos c, if_neg d]
        rw [this]; simp [norm, d]
    · have : norm (x :: r) = x :: norm r := by rw [norm]; rw [if_neg c]
      rw [this]
      show norm (x :: norm r) = _
      rw [norm, ih, if_neg c]
theorem val_norm (W : Int) : ∀ ns : List Int, val W (norm ns) = val W ns
  | [] => rfl
  | x :: r => by
    have ih := val_norm W r
    by_cases c : norm r = []
    · rw [c] at ih
      have ih' : val W r = 0 := ih.symm
      by_cases d : x = 0
      · have : norm (x :: r) = [] := by unfold norm; rw [if_pos c, if_pos d]
        rw [this]; simp [val, ih', d]
      · have : norm (x :: r) = [x] := by unfold norm; rw [if_pos c, if_neg d]
        rw [this]; simp [val, ih']
    · have : norm (x :: r) = x :: norm r := by rw [norm]; rw [if_neg c]
      rw [this]; simp [val, ih]
theorem Limbs.norm {W : Int} {ns : List Int} (h : Limbs W ns) : Limbs W (norm ns) := by
  obtain ⟨k, hk⟩ := norm_prefix ns
  rw [hk]; exact h.take k
theorem Num.of {W : Int} {ns : List Int} (h : Limbs W ns) : Num W (Mine.val W ns) (Mine.norm ns) := ⟨h.norm, val_norm W ns, norm_norm ns⟩
theorem val_nonneg {W : Int} (hW : 0 < W) : ∀ {ns : List Int}, Limbs W ns → 0 ≤ val W ns
  | [], _ => Int.le_refl _
  | x :: r, h => by
    have := val_nonneg hW h.tail
    have := Int.mul_nonneg (Int.le_of_lt hW) this
    have := h.head
    show 0 ≤ x + W * val W r
    (first | lia | omega)
theorem val_lt {W : Int} (hW : 0 < W) : ∀ {ns : List Int}, Limbs W ns → val W ns < W ^ ns.length
  | [], _ => by simp [val]
  | x :: r, h => by
    have h1 := val_lt hW h.tail
    have h2 := h.head
    show x + W * val W r < W ^ (r.length + 1)
    have h3 : W * (val W r + 1) ≤ W * W ^ r.length := Int.mul_le_mul_of_nonneg_left (by (first | lia | omega)) (Int.le_of_lt hW)
    rw [Int.mul_add, Int.mul_one] at h3
    rw [Int.pow_succ, Int.mul_comm (W ^ r.length)]
    (first | lia | omega)
theorem norm_zero {W : Int} (hW : 0 < W) : ∀ {b : List Int}, Limbs W b → 0 = val W b → norm b = []
  | [], _, _ => rfl
  | x :: r, hb, h => by
    have h' : 0 = x + W * val W r := h
    have h1 := hb.head
    have h2 := val_nonneg hW hb.tail
    have h3 : 0 ≤ W * val W r := Int.mul_nonneg (Int.le_of_lt hW) h2
    have hx : x = 0 := by (first | lia | omega)
    have hv : W * val W r = 0 := by (first | lia | omega)
    have hr : val W r = 0 := by
      rcases Int.mul_eq_zero.mp hv with q | q
      · (first | lia | omega)
      · exact q
    unfold norm
    rw [if_pos (norm_zero hW hb.tail hr.symm), if_pos hx]
/-- the same number: the same row, but for zeros behind -/
theorem norm_ext {W : Int} (hW : 0 < W) : ∀ {a b : List Int}, Limbs W a → Limbs W b → val W a = val W b → norm a = norm b
  | [], b, _, hb, h => (norm_zero hW hb h).symm
  | x :: r, [], ha, _, h => norm_zero hW ha h.symm
  | x :: r, y :: t, ha, hb, h => by
    have h' : x + W * val W r = y + W * val W t := h
    have h1 := ha.head
    have h2 := hb.head
    have e1 : (x + W * val W r) % W = x := by rw [Int.add_mul_emod_self_left]; exact Int.emod_eq_of_lt h1.1 h1.2
    have e2 : (y + W * val W t) % W = y := by rw [Int.add_mul_emod_self_left]; exact Int.emod_eq_of_lt h2.1 h2.2
    have hxy : x = y := by rw [← e1, ← e2, h']
    subst hxy
    have hv : val W r = val W t := by
      have : W * val W r = W * val W t := by (first | lia | omega)
      exact Int.eq_of_mul_eq_mul_left (by (first | lia | omega)) this
    rw [norm, norm, norm_ext hW ha.tail hb.tail hv]
theorem Num.ext {W v : Int} (hW : 0 < W) {a b : List Int} (x : Num W v a) (y : Num W v b) : a = b := by
  rw [← x.norm, ← y.norm]; exact norm_ext hW x.limbs y.limbs (x.val.trans y.val.symm)
theorem val_append (W : Int) : ∀ a b : List Int, val W (a ++ b) = val W a + W ^ a.length * val W b
  | [], b => by simp [val]
  | x :: r, b => by
    show x + W * val W (r ++ b) = x + W * val W r + W ^ (r.length + 1) * val W b
    rw [val_append W r b, Int.mul_add, Int.pow_succ, Int.mul_comm (W ^ r.length) W, Int.mul_assoc]; (first | lia | omega)
theorem val_snoc (W : Int) (a : List Int) (x : Int) : val W (a ++ [x]) = val W a + W ^ a.length * x := by
  rw [val_append]; simp [val]
theorem val_zeros (W : Int) : ∀ n : Nat, val W (List.replicate n 0) = 0
  | 0 => rfl
  | n + 1 => by show 0 + W * val W (List.replicate n 0) = 0; rw [val_zeros W n]; simp
theorem val_set (W : Int) : ∀ (a : List Int) (i : Nat) (x : Int), i < a.length → val W (a.set i x) = val W a + W ^ i * (x - a.getD i 0)
  | [], i, x, h => by simp at h
  | y :: r, 0, x, _ => by
    show x + W * val W r = y + W * val W r + W ^ 0 * (x - y)
    simp; (first | lia | omega)
  | y :: r, i + 1, x, h => by
    show y + W * val W (r.set i x) = y + W * val W r + W ^ (i + 1) * (x - r.getD i 0)
    rw [val_set W r i x (by simpa using h), Int.mul_add, Int.pow_succ, Int.mul_comm (W ^ i) W, Int.mul_assoc]; (first | lia | omega)
theorem val_take_drop (W : Int) (a : List Int) (n : Nat) (h : n ≤ a.length) : val W a = val W (a.take n) + W ^ n * val W (a.drop n) := by
  conv => lhs; rw [← List.take_append_drop n a]
  rw [val_append, List.length_take, Nat.min_eq_left h]
theorem pow_pos' {W : Int} (hW : 0 < W) (n : Nat) : 0 < W ^ n := Int.pow_pos hW
theorem pow_mono' {W : Int} (hW : 0 < W) {m n : Nat} (h : m ≤ n) : W ^ m ≤ W ^ n := by
  obtain ⟨d, rfl⟩ := Nat.exists_eq_add_of_le h
  rw [Int.pow_add]
  have h1 := pow_pos' hW m
  have h2 := pow_pos' hW d
  have := Int.mul_le_mul_of_nonneg_left (show (1 : Int) ≤ W ^ d by (first | lia | omega)) (Int.le_of_lt h1)
  (first | lia | omega)
theorem val_take {W : Int} (hW : 0 < W) {a : List Int} (h : Limbs W a) (n : Nat) : val W (a.take n) = val W a % W ^ n := by
  by_cases c : n ≤ a.length
  · have h1 := val_lt hW (h.take n)
    have h2 := val_nonneg hW (h.take n)
    rw [List.length_take, Nat.min_eq_left c] at h1
    rw [val_take_drop W a n c, Int.add_mul_emod_self_left]
    exact (Int.emod_eq_of_lt h2 h1).symm
  · have hl : a.length ≤ n := by (first | lia | omega)
    rw [List.take_of_length_le hl]
    have h1 := val_lt hW h
    have h2 := val_nonneg hW h
    have h3 : W ^ a.length ≤ W ^ n := pow_mono' (by (first | lia | omega)) hl
    exact (Int.emod_eq_of_lt h2 (by (first | lia | omega))).symm
theorem val_drop {W : Int} (hW : 0 < W) {a : List Int} (h : Limbs W a) (n : Nat) : val W (a.drop n) = val W a / W ^ n := by
  by_cases c : n ≤ a.length
  · have h1 := val_lt hW (h.take n)
    have h2 := val_nonneg hW (h.take n)
    rw [List.length_take, Nat.min_eq_left c] at h1
    rw [val_take_drop W a n c, Int.add_mul_ediv_left _ _ (by have := pow_pos' hW n; (first | lia | omega)), Int.ediv_eq_zero_of_lt h2 h1]; (first | lia | omega)
  · have hl : a.length ≤ n := by (first | lia | omega)
    rw [List.drop_of_length_le hl]
    have h1 := val_lt hW h
    have h2 := val_nonneg hW h
    have h3 : W ^ a.length ≤ W ^ n := pow_mono' (by (first | lia | omega)) hl
    exact (Int.ediv_eq_zero_of_lt h2 (by (first | lia | omega))).symm
theorem Num.lt {W v : Int} (hW : 0 < W) {a : List Int} (x : Num W v a) : v < W ^ a.length := x.val ▸ val_lt hW x.limbs
theorem Num.nonneg {W v : Int} (hW : 0 < W) {a : List Int} (x : Num W v a) : 0 ≤ v := x.val ▸ val_nonneg hW x.limbs
/-- a canonical row is not longer than its number asks -/
theorem norm_last : ∀ {a : List Int}, norm a = a → a ≠ [] → a.getD (a.length - 1) 0 ≠ 0
  | [], _, h => absurd rfl h
  | x :: r, h, _ => by
    by_cases c : r = []
    · subst c
      intro q
      have q' : x = 0 := by simpa using q
      subst q'
      simp [norm] at h
    · have hr : norm r = r := by
        unfold norm at h
        by_cases d : norm r = []
        · rw [if_pos d] at h
          split at h
          · cases h
          · exact absurd (List.cons.inj h).2.symm c
        · rw [if_neg d] at h; exact (List.cons.inj h).2
      have := norm_last hr c
      have hl : r.length ≠ 0 := fun q => c (List.length_eq_zero_iff.mp q)
      obtain ⟨m, hm⟩ : ∃ m, r.length = m + 1 := ⟨r.length - 1, by (first | lia | omega)⟩
      simp only [List.length_cons, hm, Nat.add_sub_cancel] at this ⊢
      simpa using this
theorem val_ge {W : Int} (hW : 0 < W) {a : List Int} (h : Limbs W a) (i : Nat) (hi : a.getD i 0 ≠ 0) : W ^ i ≤ val W a := by
  have c : i < a.length := by
    apply Classical.byContradiction; intro c
    exact hi (by simp [List.getD, Nat.le_of_not_lt c])
  have h1 := val_nonneg hW (h.take i)
  have h3 := val_nonneg hW (h.drop (i + 1))
  have h4 := h.getD hW i
  rw [val_take_drop W a i (by (first | lia | omega))]
  have e : a.drop i = a.getD i 0 :: a.drop (i + 1) := by
    rw [List.drop_eq_getElem_cons c]; simp [List.getD, c]
  rw [e]
  show W ^ i ≤ _ + W ^ i * (a.getD i 0 + W * val W (a.drop (i + 1)))
  have h5 : 0 ≤ W * val W (a.drop (i + 1)) := Int.mul_nonneg (by (first | lia | omega)) h3
  have h6 : W ^ i * 1 ≤ W ^ i * (a.getD i 0 + W * val W (a.drop (i + 1))) := Int.mul_le_mul_of_nonneg_left (by (first | lia | omega)) (Int.le_of_lt (pow_pos' hW i))
  (first | lia | omega)
theorem Num.len {W v : Int} (hW : 1 < W) {a : List Int} (x : Num W v a) {n : Nat} (h : v < W ^ n) : a.length ≤ n := by
  by_cases c : a = []
  · subst c; exact Nat.zero_le _
  · apply Classical.byContradiction; intro q
    have h1 := val_ge (by (first | lia | omega)) x.limbs _ (norm_last x.norm c)
    have h2 : W ^ n ≤ W ^ (a.length - 1) := pow_mono' (by (first | lia | omega)) (by (first | lia | omega))
    have := x.val
    (first | lia | omega)
end Mine
namespace Mine
theorem take_succ_val (W : Int) (a : List Int) (i : Nat) : val W (a.take (i + 1)) = val W (a.take i) + W ^ i * a.getD i 0 := by
  by_cases c : i < a.length
  · rw [List.take_succ_eq_append_getElem c, val_snoc, List.length_take, Nat.min_eq_left (by (first | lia | omega))]
    simp [List.getD, c]
  · have h : a.getD i 0 = 0 := by simp [List.getD, Nat.le_of_not_lt c]
    rw [h, List.take_of_length_le (by (first | lia | omega)), List.take_of_length_le (by (first | lia | omega))]; simp
/-- a carry is handed on -/
theorem carry_step {W : Int} (hW : 1 < W) {f : List Int} {c V x : Int} {i : Nat} (hl : f.length = i) (hf : Limbs W f) (h : val W f + W ^ i * c = V) :
    Limbs W (f ++ [(c + x) % W]) ∧ (f ++ [(c + x) % W]).length = i + 1 ∧ val W (f ++ [(c + x) % W]) + W ^ (i + 1) * ((c + x) / W) = V + W ^ i * x := by
  have h0 := Int.emod_nonneg (c + x) (show W ≠ 0 by (first | lia | omega))
  have h1 := Int.emod_lt_of_pos (c + x) (show 0 < W by (first | lia | omega))
  refine ⟨hf.append (.cons h0 h1 .nil), by simp [hl], ?_⟩
  have e : (c + x) % W + W * ((c + x) / W) = c + x := Int.emod_add_mul_ediv _ _
  have e2 : W ^ (i + 1) * ((c + x) / W) = W ^ i * (W * ((c + x) / W)) := by rw [Int.pow_succ, Int.mul_assoc]
  rw [val_snoc, hl, e2]
  have e3 : W ^ i * ((c + x) % W) + W ^ i * (W * ((c + x) / W)) = W ^ i * c + W ^ i * x := by rw [← Int.mul_add, e, Int.mul_add]
  (first | lia | omega)
end Mine
namespace Mine
theorem emod_of {a P r : Int} (h0 : 0 ≤ r) (h1 : r < P) (h : P ∣ a - r) : a % P = r := by
  obtain ⟨k, hk⟩ := h
  have : a = r + P * k := by (first | lia | omega)
  rw [this, Int.add_mul_emod_self_left, Int.emod_eq_of_lt h0 h1]
theorem dvd_emod (a P : Int) : P ∣ a % P - a := by
  refine ⟨-(a / P), ?_⟩
  have := Int.emod_add_mul_ediv a P
  rw [Int.mul_neg]; (first | lia | omega)
theorem dvd_sub_emod (a P : Int) : P ∣ a - a % P := by
  refine ⟨a / P, ?_⟩
  have := Int.emod_add_mul_ediv a P
  (first | lia | omega)
theorem emod_eq_of_dvd {a b P : Int} (h : P ∣ a - b) : a % P = b % P := by
  obtain ⟨k, hk⟩ := h
  have : a = b + P * k := by (first | lia | omega)
  rw [this, Int.add_mul_emod_self_left]
theorem dvd_of_emod_eq {a b P : Int} (h : a % P = b % P) : P ∣ a - b := Int.dvd_of_emod_eq_zero (Int.emod_eq_emod_iff_emod_sub_eq_zero.mp h)
/-- one step of the rising inverse -/
theorem newton {W B X : Int} {s t : Nat} (hW : 1 < W) (ht1 : 1 ≤ t) (ht : t ≤ 2 * s) (h : (B * X) % W ^ s = 1) :
    (B * ((X * ((((-((B % W ^ t * X) % W ^ t)) % W ^ t) + 2) % W ^ t)) % W ^ t)) % W ^ t = 1 := by
  generalize hP : W ^ t = P
  have hP1 : 1 < P := by
    have : W ^ 1 ≤ W ^ t := pow_mono' (by (first | lia | omega)) ht1
    rw [Int.pow_succ, Int.pow_zero, Int.one_mul] at this; (first | lia | omega)
  have d1 : W ^ s ∣ B * X - 1 := by
    have := dvd_sub_emod (B * X) (W ^ s); rw [h] at this; exact this
  have d2 : P ∣ (B * X - 1) * (B * X - 1) := by
    obtain ⟨k, hk⟩ := d1
    have e : W ^ (2 * s) = W ^ t * W ^ (2 * s - t) := by rw [← Int.pow_add]; congr 1; (first | lia | omega)
    refine ⟨W ^ (2 * s - t) * (k * k), ?_⟩
    have e2 : W ^ (2 * s) = W ^ s * W ^ s := by rw [← Int.pow_add]; congr 1; (first | lia | omega)
    calc (B * X - 1) * (B * X - 1) = (W ^ s * W ^ s) * (k * k) := by rw [hk, Int.mul_assoc, Int.mul_assoc, Int.mul_left_comm k]
      _ = (W ^ t * W ^ (2 * s - t)) * (k * k) := by rw [← e2, e]
      _ = P * (W ^ (2 * s - t) * (k * k)) := by rw [hP, Int.mul_assoc]
  refine emod_of (by (first | lia | omega)) hP1 ?_
  -- everything mod P
  have m1 : (B * ((X * ((((-((B % P * X) % P)) % P) + 2) % P)) % P)) % P = (B * (X * (2 - B * X))) % P := by
    have a1 : (B % P * X) % P = (B * X) % P := by rw [Int.mul_emod, Int.emod_emod, ← Int.mul_emod]
    have a2 : (((-((B * X) % P)) % P) + 2) % P = (2 - B * X) % P := by
      refine emod_eq_of_dvd ?_
      obtain ⟨u, hu⟩ := dvd_emod (-((B * X) % P)) P
      obtain ⟨v, hv⟩ := dvd_emod (B * X) P
      exact ⟨u - v, by rw [Int.mul_sub]; (first | lia | omega)⟩
    rw [a1, a2, Int.mul_emod B, Int.emod_emod, ← Int.mul_emod]
    rw [Int.mul_emod B, Int.mul_emod X, Int.emod_emod, ← Int.mul_emod X, ← Int.mul_emod B]
  have m2 := dvd_of_emod_eq m1
  obtain ⟨u, hu⟩ := m2
  obtain ⟨v, hv⟩ := d2
  have e : B * (X * (2 - B * X)) = 1 - (B * X - 1) * (B * X - 1) := by
    rw [← Int.mul_assoc, Int.mul_sub, Int.mul_sub, Int.sub_mul, Int.mul_one, Int.one_mul]; (first | lia | omega)
  exact ⟨u - v, by rw [Int.mul_sub]; (first | lia | omega)⟩
theorem digit {W : Int} (hW : 1 < W) {a : List Int} (h : Limbs W a) (i : Nat) : a.getD i 0 = (val W a / W ^ i) % W := by
  have h1 := val_take (show 0 < W by (first | lia | omega)) h i
  have h2 := val_drop (show 0 < W by (first | lia | omega)) h i
  rw [← h2]
  have e : a.drop i = [] ∨ a.drop i = a.getD i 0 :: a.drop (i + 1) := by
    by_cases c : i < a.length
    · right; rw [List.drop_eq_getElem_cons c]; simp [List.getD, c]
    · left; exact List.drop_of_length_le (by (first | lia | omega))
  have g := h.getD (show 0 < W by (first | lia | omega)) i
  rcases e with e | e
  · have : a.length ≤ i := by simpa using e
    rw [e]; simp [val, List.getD, this]
  · rw [e]
    show _ = (a.getD i 0 + W * val W (a.drop (i + 1))) % W
    rw [Int.add_mul_emod_self_left, Int.emod_eq_of_lt g.1 g.2]
/-- one limb of the quotient -/
theorem limb_step {W B b0 inv V : Int} {i : Nat} (hW : 1 < W) (hB : B % W = b0 % W) (hinv : (b0 * inv) % W = 1) (hV : W ^ i ∣ V) :
    W ^ (i + 1) ∣ V - ((V / W ^ i) % W * inv % W) * B * W ^ i := by
  obtain ⟨r, hr⟩ := hV
  have hp := pow_pos' (show 0 < W by (first | lia | omega)) i
  have e : V / W ^ i = r := by rw [hr, Int.mul_ediv_cancel_left _ (by (first | lia | omega))]
  rw [e, hr]
  have key : W ∣ r - (r % W * inv % W) * B := by
    refine Int.dvd_of_emod_eq_zero ?_
    have : ((r % W * inv % W) * B) % W = r % W := by
      have h1 : ((r % W * inv % W) * B) % W = (r * (b0 * inv)) % W := by
        rw [Int.mul_emod, Int.emod_emod, hB, ← Int.mul_emod, Int.mul_assoc, Int.mul_emod, Int.emod_emod, ← Int.mul_emod, Int.mul_comm inv b0]
      rw [h1, Int.mul_emod, hinv, Int.mul_one, Int.emod_emod]
    exact Int.emod_eq_emod_iff_emod_sub_eq_zero.mp this.symm
  obtain ⟨k, hk⟩ := key
  refine ⟨k, ?_⟩
  have : W ^ i * r - (r % W * inv % W) * B * W ^ i = W ^ i * (r - (r % W * inv % W) * B) := by rw [Int.mul_sub, Int.mul_comm (W ^ i) (_ * B)]
  rw [this, hk, Int.pow_succ, Int.mul_assoc]
/-- the end of the division from the low end -/
theorem divrem_end {W A B F r borrowed : Int} {size N lb : Nat} (hW : 1 < W) (hA0 : 0 ≤ A) (hA : A < W ^ size) (hB0 : 0 ≤ B) (hB : B < W ^ lb) (hF0 : 0 ≤ F) (hF : F < W ^ N) (hs : N + lb ≤ size)
    (hr0 : 0 ≤ r) (hr : r < W ^ (size - N)) (hb : 0 ≤ borrowed) (h : W ^ N * r = A - F * B + borrowed * W ^ size) :
    (borrowed = 0 ∧ A = F * B + r * W ^ N) ∨ (borrowed = 1 ∧ 0 < r ∧ (-r) % W ^ (size - N) = W ^ (size - N) - r ∧ r - W ^ (size - N) < 0 ∧ A = F * B + (r - W ^ (size - N)) * W ^ N) := by
  have hp := pow_pos' (show 0 < W by (first | lia | omega)) size
  have e : W ^ size = W ^ N * W ^ (size - N) := by rw [← Int.pow_add]; congr 1; (first | lia | omega)
  have hpN := pow_pos' (show 0 < W by (first | lia | omega)) N
  have hFB0 : 0 ≤ F * B := Int.mul_nonneg hF0 hB0
  have hFB : F * B < W ^ size := by
    have h1 : F * B ≤ F * W ^ lb := Int.mul_le_mul_of_nonneg_left (by (first | lia | omega)) hF0
    have h2 : F * W ^ lb < W ^ N * W ^ lb := Int.mul_lt_mul_of_pos_right hF (pow_pos' (by (first | lia | omega)) lb)
    rw [← Int.pow_add] at h2
    have h3 : W ^ (N + lb) ≤ W ^ size := pow_mono' (by (first | lia | omega)) hs
    (first | lia | omega)
  have hr1 : W ^ N * r < W ^ size := by rw [e]; exact Int.mul_lt_mul_of_pos_left hr hpN
  have hr2 : 0 ≤ W ^ N * r := Int.mul_nonneg (by (first | lia | omega)) hr0
  have hb2 : borrowed < 2 := by
    apply Classical.byContradiction; intro c
    have : 2 * W ^ size ≤ borrowed * W ^ size := Int.mul_le_mul_of_nonneg_right (by (first | lia | omega)) (by (first | lia | omega))
    (first | lia | omega)
  have : borrowed = 0 ∨ borrowed = 1 := by (first | lia | omega)
  rcases this with rfl | rfl
  · left
    refine ⟨rfl, ?_⟩
    rw [Int.zero_mul, Int.add_zero] at h
    rw [Int.mul_comm r]; (first | lia | omega)
  · right
    rw [Int.one_mul] at h
    have hr3 : 0 < r := by
      apply Classical.byContradiction; intro c
      have : r = 0 := by (first | lia | omega)
      rw [this, Int.mul_zero] at h; (first | lia | omega)
    refine ⟨rfl, hr3, ?_, by (first | lia | omega), ?_⟩
    · refine emod_of (by (first | lia | omega)) (by (first | lia | omega)) ⟨-1, by (first | lia | omega)⟩
    · rw [Int.sub_mul, Int.mul_comm r, h, Int.mul_comm (W ^ (size - N)), ← e]; (first | lia | omega)
end Mine
namespace Mine
theorem list_val_ext {W : Int} (hW : 0 < W) : ∀ {a b : List Int}, Limbs W a → Limbs W b → a.length = b.length → val W a = val W b → a = b
  | [], [], _, _, _, _ => rfl
  | [], _ :: _, _, _, h, _ => by cases h
  | _ :: _, [], _, _, h, _ => by cases h
  | x :: r, y :: t, ha, hb, hl, hv => by
    have h' : x + W * val W r = y + W * val W t := hv
    have h1 := ha.head
    have h2 := hb.head
    have e1 : (x + W * val W r) % W = x := by rw [Int.add_mul_emod_self_left]; exact Int.emod_eq_of_lt h1.1 h1.2
    have e2 : (y + W * val W t) % W = y := by rw [Int.add_mul_emod_self_left]; exact Int.emod_eq_of_lt h2.1 h2.2
    have hxy : x = y := by rw [← e1, ← e2, h']
    subst hxy
    have hv' : val W r = val W t := Int.eq_of_mul_eq_mul_left (show W ≠ 0 by (first | lia | omega)) (by (first | lia | omega))
    rw [list_val_ext hW ha.tail hb.tail (by simpa using hl) hv']
theorem odd_cancel {n : Int} (hn : n % 2 = 1) : ∀ (k : Nat) (x : Int), n ∣ 2 ^ k * x → n ∣ x
  | 0, x, h => by simpa using h
  | k + 1, x, h => by
    have h2 : n ∣ 2 * x := by
      refine odd_cancel hn k (2 * x) ?_
      rw [← Int.mul_assoc, ← Int.pow_succ]; exact h
    obtain ⟨c, hc⟩ := h2
    obtain ⟨t, ht⟩ : ∃ t, n = 2 * t + 1 := ⟨n / 2, by (first | lia | omega)⟩
    refine ⟨x - t * c, ?_⟩
    have : x = n * x - t * (2 * x) := by
      rw [← Int.mul_assoc, Int.mul_comm t 2, ← Int.sub_mul, ht]
      have : (2 * t + 1 - 2 * t) = 1 := by (first | lia | omega)
      rw [this, Int.one_mul]
    rw [Int.mul_sub, ← Int.mul_assoc, Int.mul_comm n t, Int.mul_assoc, ← hc]; exact this
theorem odd_cancel2 {B : Int} (hB : B % 2 = 1) : ∀ (k : Nat) (x : Int), 2 ^ k ∣ x * B → 2 ^ k ∣ x
  | 0, x, _ => ⟨x, by simp⟩
  | k + 1, x, h => by
    have hx : x % 2 = 0 := by
      obtain ⟨c, hc⟩ := h
      have h0 : (x * B) % 2 = 0 := by rw [hc, Int.pow_succ, Int.mul_assoc, Int.mul_left_comm]; exact Int.mul_emod_right 2 _
      rw [Int.mul_emod, hB, Int.mul_one, Int.emod_emod] at h0; exact h0
    obtain ⟨y, hy⟩ : ∃ y, x = 2 * y := ⟨x / 2, by (first | lia | omega)⟩
    obtain ⟨c, hc⟩ := h
    have h2 : y * B = 2 ^ k * c := by
      have : 2 * (y * B) = 2 * (2 ^ k * c) := by rw [← Int.mul_assoc, ← hy, hc, Int.pow_succ, Int.mul_comm (2 ^ k) 2, Int.mul_assoc]
      (first | lia | omega)
    obtain ⟨d, hd⟩ := odd_cancel2 hB k y ⟨c, h2⟩
    exact ⟨d, by rw [hy, hd, Int.pow_succ, Int.mul_comm (2 ^ k) 2, Int.mul_assoc]⟩
/-- what one row of limbs tells -/
structure RowOk (W A B : Int) (s : Nat) (P : List Int) (l : Int) : Prop where
  limbs : Limbs W P
  len : P.length = s
  eq : A = val W P * B + l * W ^ s
structure Setup (W A B g m : Int) (o many p : Nat) : Prop where
  W1 : 1 < W
  two : W = 2 ^ p
  A0 : 0 ≤ A
  AW : A < W ^ many
  B0 : 0 < B
  odd : B % 2 = 1
  Bg : B = g * m
  gA : g ∣ A
  g0 : 0 < g
  gmax : ∀ d, d ∣ A → d ∣ B → d ∣ g
  o1 : 1 ≤ o
  ord : m ∣ W ^ o - 1
  least : ∀ j, 1 ≤ j → j < o → ¬ m ∣ W ^ j - 1
section
variable {W A B g m : Int} {o many p : Nat}
theorem Setup.pw (S : Setup W A B g m o many p) (n : Nat) : W ^ n = 2 ^ (p * n) := by
  have := Nat.pow_mul 2 p n
  have h2 : ((2 ^ (p * n) : Nat) : Int) = (((2 ^ p) ^ n : Nat) : Int) := by rw [this]
  rw [S.two]; simpa using h2.symm
theorem Setup.godd (S : Setup W A B g m o many p) : g % 2 = 1 := by
  have h := S.odd
  rw [S.Bg, Int.mul_emod] at h
  rcases Int.emod_two_eq g with q | q
  · rw [q] at h; simp at h
  · exact q
theorem RowOk.left (S : Setup W A B g m o many p) {s : Nat} {P : List Int} {l : Int} (R : RowOk W A B s P l) (hs : many ≤ s) : -B < l ∧ l ≤ 0 := by
  have hp := pow_pos' (show 0 < W by have := S.W1; (first | lia | omega)) s
  have h1 := val_nonneg (show 0 < W by have := S.W1; (first | lia | omega)) R.limbs
  have h2 := val_lt (show 0 < W by have := S.W1; (first | lia | omega)) R.limbs
  rw [R.len] at h2
  have h3 : W ^ many ≤ W ^ s := pow_mono' (by have := S.W1; (first | lia | omega)) hs
  have h4 := Int.mul_nonneg h1 (Int.le_of_lt S.B0)
  have e := R.eq
  have hA := S.AW
  have hA0 := S.A0
  have hB := S.B0
  constructor
  · apply Classical.byContradiction; intro c
    have h5 : l * W ^ s ≤ -B * W ^ s := Int.mul_le_mul_of_nonneg_right (by (first | lia | omega)) (by (first | lia | omega))
    have h6 : val W P * B < W ^ s * B := Int.mul_lt_mul_of_pos_right h2 hB
    rw [Int.neg_mul, Int.mul_comm B] at h5
    (first | lia | omega)
  · apply Classical.byContradiction; intro c
    have h5 : 1 * W ^ s ≤ l * W ^ s := Int.mul_le_mul_of_nonneg_right (by (first | lia | omega)) (by (first | lia | omega))
    (first | lia | omega)
theorem RowOk.gl (S : Setup W A B g m o many p) {s : Nat} {P : List Int} {l : Int} (R : RowOk W A B s P l) : g ∣ l := by
  refine odd_cancel S.godd (p * s) l ?_
  rw [← S.pw]
  obtain ⟨a, ha⟩ := S.gA
  refine ⟨a - val W P * m, ?_⟩
  have e := R.eq
  have : val W P * B = g * (val W P * m) := by rw [S.Bg, Int.mul_left_comm]
  rw [Int.mul_sub, ← ha, ← this, Int.mul_comm]; (first | lia | omega)
theorem RowOk.same (S : Setup W A B g m o many p) {s : Nat} {P P' : List Int} {l l' : Int} (R : RowOk W A B s P l) (R' : RowOk W A B (s + o) P' l') (hs : many ≤ s) : l' = l := by
  have b1 := R.left S hs
  have b2 := R'.left S (show many ≤ s + o by (first | lia | omega))
  have d1 : B ∣ l' * W ^ o - l := by
    refine odd_cancel S.odd (p * s) _ ?_
    rw [← S.pw]
    refine ⟨val W P - val W P', ?_⟩
    have e1 := R.eq
    have e2 := R'.eq
    rw [Int.pow_add] at e2
    have h1 : W ^ s * (l' * W ^ o) = l' * (W ^ s * W ^ o) := Int.mul_left_comm _ _ _
    have h2 : W ^ s * l = l * W ^ s := Int.mul_comm _ _
    rw [Int.mul_sub, Int.mul_sub, h1, h2, Int.mul_comm B (val W P), Int.mul_comm B (val W P')]; (first | lia | omega)
  have d2 : B ∣ l' * (W ^ o - 1) := by
    obtain ⟨u, hu⟩ := R'.gl S
    obtain ⟨v, hv⟩ := S.ord
    exact ⟨u * v, by rw [hu, hv, S.Bg, Int.mul_assoc, Int.mul_assoc, Int.mul_left_comm u]⟩
  have d3 : B ∣ l' - l := by
    obtain ⟨u, hu⟩ := d1
    obtain ⟨v, hv⟩ := d2
    rw [Int.mul_sub, Int.mul_one] at hv
    exact ⟨u - v, by rw [Int.mul_sub]; (first | lia | omega)⟩
  obtain ⟨k, hk⟩ := d3
  have hB := S.B0
  have : k = 0 := by
    apply Classical.byContradiction; intro c
    by_cases c1 : 1 ≤ k
    · have := Int.mul_le_mul_of_nonneg_left c1 (Int.le_of_lt hB); (first | lia | omega)
    · have := Int.mul_le_mul_of_nonneg_left (show k ≤ -1 by (first | lia | omega)) (Int.le_of_lt hB); (first | lia | omega)
  rw [this] at hk; (first | lia | omega)
theorem RowOk.prefix (S : Setup W A B g m o many p) {s t : Nat} {P P' : List Int} {l l' : Int} (R : RowOk W A B s P l) (R' : RowOk W A B t P' l') (hs : s ≤ t) : P = P'.take s := by
  have hW0 : 0 < W := by have := S.W1; (first | lia | omega)
  refine list_val_ext hW0 R.limbs (R'.limbs.take s) (by rw [R.len, List.length_take, R'.len, Nat.min_eq_left hs]) ?_
  rw [val_take hW0 R'.limbs]
  have h1 := val_nonneg hW0 R.limbs
  have h2 := val_lt hW0 R.limbs
  rw [R.len] at h2
  refine (emod_of h1 h2 ?_).symm
  rw [S.pw]
  refine odd_cancel2 S.odd _ _ ?_
  rw [← S.pw]
  have e1 := R.eq
  have e2 := R'.eq
  obtain ⟨d, rfl⟩ := Nat.exists_eq_add_of_le hs
  refine ⟨l - l' * W ^ d, ?_⟩
  rw [Int.pow_add] at e2
  have h3 : W ^ s * (l' * W ^ d) = l' * (W ^ s * W ^ d) := Int.mul_left_comm _ _ _
  rw [Int.sub_mul, Int.mul_sub, h3, Int.mul_comm (W ^ s) l]; (first | lia | omega)
/-- one block of the round -/
theorem block_eq (S : Setup W A B g m o many p) {s : Nat} {P P' : List Int} {l : Int} (R : RowOk W A B s P l) (R' : RowOk W A B (s + o) P' l) : val W (P'.drop s) * B = -l * (W ^ o - 1) := by
  have hW0 : 0 < W := by have := S.W1; (first | lia | omega)
  have hp := R.prefix S R' (Nat.le_add_right _ _)
  have hv := val_take_drop W P' s (by rw [R'.len]; (first | lia | omega))
  rw [← hp] at hv
  have e1 := R.eq
  have e2 := R'.eq
  have hps := pow_pos' hW0 s
  rw [hv, Int.pow_add, Int.add_mul] at e2
  have key : W ^ s * (val W (P'.drop s) * B) = W ^ s * (-l * (W ^ o - 1)) := by
    have h1 : W ^ s * (-l * (W ^ o - 1)) = l * W ^ s - l * (W ^ s * W ^ o) := by
      rw [Int.neg_mul, Int.mul_neg, Int.mul_sub, Int.mul_one, Int.mul_sub, Int.mul_left_comm (W ^ s) l, Int.mul_comm (W ^ s) l]; (first | lia | omega)
    rw [h1, ← Int.mul_assoc]; (first | lia | omega)
  exact Int.eq_of_mul_eq_mul_left (by (first | lia | omega)) key
end
end Mine
namespace Mine
/-- division from above, digit by digit -/
noncomputable def dv (b base : Int) : Nat → Int → List Int
  | 0, _ => []
  | k + 1, r => (r * base / b) :: dv b base k (r * base % b)
theorem dv_len (b base : Int) : ∀ (k : Nat) (r : Int), (dv b base k r).length = k
  | 0, _ => rfl
  | k + 1, r => by simp [dv, dv_len b base k]
theorem dv_ok {b W : Int} (hW : 0 < W) (hb : 0 < b) : ∀ (k : Nat) (r : Int), 0 ≤ r → r < b → Limbs W (dv b W k r).reverse ∧ ∃ t, 0 ≤ t ∧ t < b ∧ b * val W (dv b W k r).reverse + t = r * W ^ k
  | 0, r, h0, h1 => ⟨.nil, r, h0, h1, by simp [dv, val]⟩
  | k + 1, r, h0, h1 => by
    have hd0 : 0 ≤ r * W / b := Int.ediv_nonneg (Int.mul_nonneg h0 (by (first | lia | omega))) (by (first | lia | omega))
    have hd1 : r * W / b < W := Int.ediv_lt_of_lt_mul hb (by rw [Int.mul_comm W]; exact Int.mul_lt_mul_of_pos_right h1 hW)
    obtain ⟨i1, t, t0, t1, t2⟩ := dv_ok hW hb k (r * W % b) (Int.emod_nonneg _ (by (first | lia | omega))) (Int.emod_lt_of_pos _ hb)
    have er : (dv b W (k + 1) r).reverse = (dv b W k (r * W % b)).reverse ++ [r * W / b] := by simp [dv]
    rw [er]
    refine ⟨i1.append (.cons hd0 hd1 .nil), t, t0, t1, ?_⟩
    rw [val_snoc, List.length_reverse, dv_len, Int.mul_add]
    have e : r * W % b + b * (r * W / b) = r * W := Int.emod_add_mul_ediv _ _
    have e2 : r * W ^ (k + 1) = (r * W % b) * W ^ k + b * (W ^ k * (r * W / b)) := by
      rw [Int.pow_succ, Int.mul_comm (W ^ k) W, ← Int.mul_assoc, Int.mul_left_comm b, ← e, Int.add_mul, Int.mul_comm (b * _) (W ^ k)]
      rw [e]
    (first | lia | omega)
section
variable {W A B g m l : Int} {o many p : Nat} {P0 P1 P2 : List Int}
theorem blocks (S : Setup W A B g m o many p) (R1 : RowOk W A B (many + o) P1 l) (R2 : RowOk W A B (many + 2 * o) P2 l) (R0 : RowOk W A B many P0 l) :
    P0 = P2.take many ∧ P1 = P2.take (many + o) ∧ (P2.drop many).take o = P2.drop (many + o) ∧ val W ((P2.drop many).take o) * B = -l * (W ^ o - 1) ∧ ((P2.drop many).take o).reverse = dv B W o (-l) := by
  have hW0 : 0 < W := by have := S.W1; (first | lia | omega)
  have R2' : RowOk W A B (many + o + o) P2 l := by have : many + o + o = many + 2 * o := by (first | lia | omega)
                                                   rw [this]; exact R2
  have q0 := R0.prefix S R2 (by (first | lia | omega))
  have q1 := R1.prefix S R2 (by (first | lia | omega))
  have b1 := block_eq S R0 R1
  have b2 := block_eq S R1 R2'
  have e1 : P1.drop many = (P2.drop many).take o := by rw [q1, List.drop_take]; congr 1; (first | lia | omega)
  rw [e1] at b1
  have hB := S.B0
  have l1 : Limbs W ((P2.drop many).take o) := (R2.limbs.drop _).take _
  have len1 : ((P2.drop many).take o).length = o := by rw [List.length_take, List.length_drop, R2.len]; (first | lia | omega)
  have hblk : (P2.drop many).take o = P2.drop (many + o) := by
    refine list_val_ext hW0 l1 (R2.limbs.drop _) (by rw [len1, List.length_drop, R2.len]; (first | lia | omega)) ?_
    exact Int.eq_of_mul_eq_mul_right (show B ≠ 0 by (first | lia | omega)) (b1.trans b2.symm)
  refine ⟨q0, q1, hblk, b1, ?_⟩
  have bl := R0.left S (Nat.le_refl _)
  obtain ⟨d1, t, t0, t1, t2⟩ := dv_ok hW0 hB o (-l) (by (first | lia | omega)) (by (first | lia | omega))
  have : (P2.drop many).take o = (dv B W o (-l)).reverse := by
    refine list_val_ext hW0 l1 d1 (by rw [len1, List.length_reverse, dv_len]) ?_
    -- both times B leave a rest below B
    rw [Int.mul_sub, Int.mul_one] at b1
    have e : B * (val W ((P2.drop many).take o) - val W (dv B W o (-l)).reverse) = t - (-l) := by
      rw [Int.mul_sub, Int.mul_comm B (val W ((P2.drop many).take o))]; (first | lia | omega)
    have : val W ((P2.drop many).take o) - val W (dv B W o (-l)).reverse = 0 := by
      generalize val W ((P2.drop many).take o) - val W (dv B W o (-l)).reverse = z at e
      apply Classical.byContradiction; intro c
      by_cases c1 : 1 ≤ z
      · have := Int.mul_le_mul_of_nonneg_left c1 (Int.le_of_lt hB); (first | lia | omega)
      · have := Int.mul_le_mul_of_nonneg_left (show z ≤ -1 by (first | lia | omega)) (Int.le_of_lt hB); (first | lia | omega)
    (first | lia | omega)
  rw [this, List.reverse_reverse]
theorem no_shift (S : Setup W A B g m o many p) (R0 : RowOk W A B many P0 l) (R1 : RowOk W A B (many + o) P1 l) (R2 : RowOk W A B (many + 2 * o) P2 l) {sh : Nat} (h1 : 1 ≤ sh) (h2 : sh < o) :
    (P2.drop many).take (2 * o - sh) ≠ P2.drop (many + sh) := by
  intro hc
  have hW0 : 0 < W := by have := S.W1; (first | lia | omega)
  obtain ⟨_, _, hblk, hD, _⟩ := blocks S R1 R2 R0
  have hT : P2.drop (many + sh) = (P2.drop many).drop sh := by rw [List.drop_drop]
  have hT2 : P2.drop (many + o) = (P2.drop many).drop o := by rw [List.drop_drop]
  rw [hT] at hc
  rw [hT2] at hblk
  have lT : (P2.drop many).length = 2 * o := by rw [List.length_drop, R2.len]; (first | lia | omega)
  have LT := R2.limbs.drop many
  generalize P2.drop many = T at *
  have hw : (T.drop sh).take o = T.take o := by rw [← hc, List.take_take, Nat.min_eq_left (by (first | lia | omega))]
  have vw : val W ((T.drop sh).take o) = (val W T / W ^ sh) % W ^ o := by rw [val_take hW0 (LT.drop sh), val_drop hW0 LT]
  have vT := val_take_drop W T o (by (first | lia | omega))
  rw [← hblk] at vT
  rw [hw] at vw
  have D0 := val_nonneg hW0 (LT.take o)
  have D1 := val_lt hW0 (LT.take o)
  have lt : (T.take o).length = o := by rw [List.length_take]; (first | lia | omega)
  rw [lt] at D1
  generalize val W (T.take o) = D at *
  have hps := pow_pos' hW0 sh
  have hpo := pow_pos' hW0 o
  have hpd := pow_pos' hW0 (o - sh)
  have eo : W ^ o = W ^ (o - sh) * W ^ sh := by rw [← Int.pow_add]; congr 1; (first | lia | omega)
  have u0 := Int.emod_nonneg D (show W ^ sh ≠ 0 by (first | lia | omega))
  have u1 := Int.emod_lt_of_pos D hps
  have uv : D % W ^ sh + W ^ sh * (D / W ^ sh) = D := Int.emod_add_mul_ediv _ _
  have v0 : 0 ≤ D / W ^ sh := Int.ediv_nonneg D0 (by (first | lia | omega))
  have v1 : D / W ^ sh < W ^ (o - sh) := Int.ediv_lt_of_lt_mul hps (by rw [← eo]; exact D1)
  generalize D % W ^ sh = u at *
  generalize D / W ^ sh = v at *
  have e1 : val W T / W ^ sh = v + W ^ (o - sh) * D := by
    have : val W T = u + W ^ sh * (v + W ^ (o - sh) * D) := by
      rw [vT, Int.mul_add, ← Int.mul_assoc, Int.mul_comm (W ^ sh) (W ^ (o - sh)), ← eo]; (first | lia | omega)
    rw [this, Int.add_mul_ediv_left _ _ (by (first | lia | omega)), Int.ediv_eq_zero_of_lt u0 u1]; (first | lia | omega)
  have hu2 : W ^ (o - sh) * u + W ^ (o - sh) ≤ W ^ o := by
    have : W ^ (o - sh) * (u + 1) ≤ W ^ (o - sh) * W ^ sh := Int.mul_le_mul_of_nonneg_left (by (first | lia | omega)) (by (first | lia | omega))
    rw [Int.mul_add, Int.mul_one, ← eo] at this; exact this
  have hu3 : 0 ≤ W ^ (o - sh) * u := Int.mul_nonneg (by (first | lia | omega)) u0
  have e2 : (v + W ^ (o - sh) * D) % W ^ o = v + W ^ (o - sh) * u := by
    refine emod_of (by (first | lia | omega)) (by (first | lia | omega)) ⟨v, ?_⟩
    have : W ^ (o - sh) * D = W ^ (o - sh) * u + W ^ o * v := by rw [← uv, Int.mul_add, ← Int.mul_assoc, ← eo]
    (first | lia | omega)
  rw [e1, e2] at vw
  -- D (W^sh - 1) = u (W^o - 1)
  have e3 : D * (W ^ sh - 1) = u * (W ^ o - 1) := by
    have : W ^ sh * D = W ^ sh * v + W ^ o * u := by
      conv => lhs; rw [vw]
      rw [Int.mul_add, ← Int.mul_assoc, Int.mul_comm (W ^ sh) (W ^ (o - sh)), ← eo]
    rw [Int.mul_sub, Int.mul_sub, Int.mul_comm D, Int.mul_comm u]; (first | lia | omega)
  have hpo1 : 0 < W ^ o - 1 := by
    have : W ^ 1 ≤ W ^ o := pow_mono' hW0 (by (first | lia | omega))
    rw [Int.pow_succ, Int.pow_zero, Int.one_mul] at this
    have := S.W1; (first | lia | omega)
  have e4 : -l * (W ^ sh - 1) = u * B := by
    have : (W ^ o - 1) * (-l * (W ^ sh - 1)) = (W ^ o - 1) * (u * B) := by
      rw [← Int.mul_assoc, Int.mul_comm (W ^ o - 1) (-l), ← hD, Int.mul_assoc, Int.mul_comm B, ← Int.mul_assoc, e3, ← Int.mul_assoc, Int.mul_comm u]
    exact Int.eq_of_mul_eq_mul_left (by (first | lia | omega)) this
  -- the greatest common divisor
  have hB := S.B0
  have k1 : B.natAbs ∣ l.natAbs * (W ^ sh - 1).natAbs := by
    rw [← Int.natAbs_mul]
    refine Int.natAbs_dvd_natAbs.mpr ⟨-u, ?_⟩
    rw [Int.mul_neg, Int.mul_comm B]
    have : l * (W ^ sh - 1) = -(-l * (W ^ sh - 1)) := by rw [Int.neg_mul, Int.neg_neg]
    rw [this, e4]
  have k2 : B.natAbs ∣ Nat.gcd l.natAbs B.natAbs * (W ^ sh - 1).natAbs := by
    rw [← Nat.gcd_mul_right]
    exact Nat.dvd_gcd k1 (Nat.dvd_mul_right _ _)
  have k3 : ((Nat.gcd l.natAbs B.natAbs : Nat) : Int) ∣ g := by
    refine S.gmax _ ?_ ?_
    · have d1 : ((Nat.gcd l.natAbs B.natAbs : Nat) : Int) ∣ l := Int.natAbs_dvd_natAbs.mp (by rw [Int.natAbs_natCast]; exact Nat.gcd_dvd_left _ _)
      have d2 : ((Nat.gcd l.natAbs B.natAbs : Nat) : Int) ∣ B := Int.natAbs_dvd_natAbs.mp (by rw [Int.natAbs_natCast]; exact Nat.gcd_dvd_right _ _)
      rw [R0.eq]
      exact Int.dvd_add (Int.dvd_trans d2 (Int.dvd_mul_left _ _)) (Int.dvd_trans d1 (Int.dvd_mul_right _ _))
    · exact Int.natAbs_dvd_natAbs.mp (by rw [Int.natAbs_natCast]; exact Nat.gcd_dvd_right _ _)
  have k4 : B ∣ g * (W ^ sh - 1) := by
    have : B ∣ ((Nat.gcd l.natAbs B.natAbs : Nat) : Int) * (W ^ sh - 1) := Int.natAbs_dvd_natAbs.mp (by rw [Int.natAbs_mul, Int.natAbs_natCast]; exact k2)
    exact Int.dvd_trans this (Int.mul_dvd_mul k3 (Int.dvd_refl _))
  refine S.least sh h1 h2 ?_
  obtain ⟨c, hcc⟩ := k4
  refine ⟨c, ?_⟩
  rw [S.Bg, Int.mul_assoc] at hcc
  exact Int.eq_of_mul_eq_mul_left (by have := S.g0; (first | lia | omega)) hcc
end
end Mine
namespace Mine
theorem two_ord : ∀ m : Fin 64, m.val % 2 = 1 → ((List.range 61).any fun e => decide (1 ≤ e) && (2 ^ e % m.val == 1 % m.val)) = true := by decide +kernel
theorem pow_one_mod {a m : Int} (h : m ∣ a - 1) : ∀ n : Nat, m ∣ a ^ n - 1
  | 0 => by simp
  | n + 1 => by
    obtain ⟨u, hu⟩ := pow_one_mod h n
    obtain ⟨v, hv⟩ := h
    refine ⟨u * a + v, ?_⟩
    have e1 : a ^ n = m * u + 1 := by (first | lia | omega)
    rw [Int.pow_succ, e1, Int.add_mul, Int.one_mul, Int.mul_add, ← Int.mul_assoc]; (first | lia | omega)
theorem has_order {W m : Int} {p : Nat} (hW : W = 2 ^ p) (m0 : 0 < m) (m1 : m < 64) (odd : m % 2 = 1) : ∃ o : Nat, 1 ≤ o ∧ o ≤ 64 ∧ W ^ o % m = 1 % m := by
  obtain ⟨k, rfl⟩ : ∃ k : Nat, m = k := ⟨m.toNat, by (first | lia | omega)⟩
  have h := two_ord ⟨k, by (first | lia | omega)⟩ (by show k % 2 = 1; (first | lia | omega))
  obtain ⟨e, he, hp⟩ := List.any_eq_true.mp h
  rw [Bool.and_eq_true, decide_eq_true_eq, beq_iff_eq] at hp
  have he' := List.mem_range.mp he
  have d1 : (k : Int) ∣ 2 ^ e - 1 := by
    have : ((2 ^ e % k : Nat) : Int) = ((1 % k : Nat) : Int) := by rw [hp.2]
    refine dvd_of_emod_eq ?_
    simpa using this
  refine ⟨e, hp.1, by (first | lia | omega), ?_⟩
  refine emod_eq_of_dvd ?_
  have e2 : W ^ e = (2 ^ e) ^ p := by
    have := Nat.pow_mul 2 p e
    have h2 := Nat.pow_mul 2 e p
    rw [Nat.mul_comm] at h2
    have h3 : (((2 ^ p) ^ e : Nat) : Int) = (((2 ^ e) ^ p : Nat) : Int) := by rw [← this, h2]
    rw [hW]; simpa using h3
  rw [e2]; exact pow_one_mod d1 p
theorem setup_of {W : Int} {p aN bN o : Nat} (hW1 : 1 < W) (hW : W = 2 ^ p) (ha : (aN : Int) < W ^ 3) (b0 : 0 < bN) (odd : bN % 2 = 1) (o1 : 1 ≤ o)
    (ho : W ^ o % ((bN : Int) / ((Nat.gcd bN aN : Nat) : Int)) = 1 % ((bN : Int) / ((Nat.gcd bN aN : Nat) : Int)))
    (hl : ∀ j, 1 ≤ j → j < o → W ^ j % ((bN : Int) / ((Nat.gcd bN aN : Nat) : Int)) ≠ 1 % ((bN : Int) / ((Nat.gcd bN aN : Nat) : Int))) :
    Setup W aN bN (Nat.gcd bN aN : Nat) ((bN : Int) / ((Nat.gcd bN aN : Nat) : Int)) o 3 p where
  W1 := hW1
  two := hW
  A0 := by (first | lia | omega)
  AW := ha
  B0 := by (first | lia | omega)
  odd := by (first | lia | omega)
  Bg := (Int.mul_ediv_cancel' (Int.natCast_dvd_natCast.mpr (Nat.gcd_dvd_left _ _))).symm
  gA := Int.natCast_dvd_natCast.mpr (Nat.gcd_dvd_right _ _)
  g0 := by have := Nat.gcd_pos_of_pos_left aN b0; (first | lia | omega)
  gmax := fun d h1 h2 => by
    refine Int.natAbs_dvd_natAbs.mp ?_
    have e1 := Int.natAbs_dvd_natAbs.mpr h1
    have e2 := Int.natAbs_dvd_natAbs.mpr h2
    rw [Int.natAbs_natCast] at e1 e2 ⊢
    exact Nat.dvd_gcd e2 e1
  o1 := o1
  ord := dvd_of_emod_eq ho
  least := fun j h1 h2 h3 => hl j h1 h2 (emod_eq_of_dvd h3)
theorem gcd_facts {aN bN : Nat} (b0 : 0 < bN) (b1 : bN < 64) (odd : bN % 2 = 1) : 0 < Nat.gcd bN aN ∧ Nat.gcd bN aN ≤ 64 ∧ 0 < (bN : Int) / ((Nat.gcd bN aN : Nat) : Int) ∧ (bN : Int) / ((Nat.gcd bN aN : Nat) : Int) < 64 ∧ ((bN : Int) / ((Nat.gcd bN aN : Nat) : Int)) % 2 = 1 := by
  have hd := Nat.gcd_dvd_left bN aN
  have hg := Nat.gcd_pos_of_pos_left aN b0
  have hle := Nat.le_of_dvd b0 hd
  obtain ⟨q, hq⟩ := hd
  have e : (bN : Int) / ((Nat.gcd bN aN : Nat) : Int) = ((bN / Nat.gcd bN aN : Nat) : Int) := by simp
  have eq : bN / Nat.gcd bN aN = q := Nat.div_eq_of_eq_mul_right hg hq
  rw [e, eq]
  generalize Nat.gcd bN aN = g at *
  have q0 : 0 < q := by
    apply Nat.pos_of_ne_zero; intro z; rw [z] at hq; (first | lia | omega)
  have q1 : q ≤ bN := by rw [hq]; exact Nat.le_mul_of_pos_left q hg
  have q2 : q % 2 = 1 := by
    rcases Nat.mod_two_eq_zero_or_one q with z | z
    · rw [hq, Nat.mul_mod, z] at odd; simp at odd
    · exact z
  refine ⟨hg, by (first | lia | omega), by (first | lia | omega), by (first | lia | omega), by (first | lia | omega)⟩
end Mine
namespace Mine
/-- modulo a power of two an odd number has one inverse -/
theorem inv_uniq {W B X Y : Int} {p n : Nat} (hW : W = 2 ^ p) (hB : B % 2 = 1) (x0 : 0 ≤ X) (x1 : X < W ^ n) (y0 : 0 ≤ Y) (y1 : Y < W ^ n) (hX : (B * X) % W ^ n = 1) (hY : (B * Y) % W ^ n = 1) : X = Y := by
  have e : W ^ n = 2 ^ (p * n) := by
    have := Nat.pow_mul 2 p n
    have h2 : ((2 ^ (p * n) : Nat) : Int) = (((2 ^ p) ^ n : Nat) : Int) := by rw [this]
    rw [hW]; simpa using h2.symm
  have d : W ^ n ∣ X - Y := by
    rw [e]
    refine odd_cancel2 hB _ _ ?_
    rw [← e, Int.mul_comm, Int.mul_sub]
    exact dvd_of_emod_eq (hX.trans hY.symm)
  have := emod_eq_of_dvd d
  rw [Int.emod_eq_of_lt x0 x1, Int.emod_eq_of_lt y0 y1] at this
  exact this
theorem mul_emod_right (a b P : Int) : (a * (b % P)) % P = (a * b) % P := by rw [Int.mul_emod, Int.emod_emod, ← Int.mul_emod]
/-- the inverse of a product -/
theorem inv_prod {b c X Y P : Int} (hP : 1 < P) (hX : (b * X) % P = 1) (hY : (c * Y) % P = 1) : ((b * c) * (X * Y % P)) % P = 1 := by
  rw [mul_emod_right]
  have e : b * c * (X * Y) = (b * X) * (c * Y) := by rw [Int.mul_assoc, Int.mul_left_comm c, ← Int.mul_assoc]
  rw [e, Int.mul_emod, hX, hY]
  exact Int.emod_eq_of_lt (by decide) hP
theorem inv_back {b X P : Int} (hX : (b * X) % P = 1) : (X * (b % P)) % P = 1 := by rw [mul_emod_right, Int.mul_comm]; exact hX
theorem inv_quot {b F l P : Int} (hP : 1 < P) (h : 1 = F * b + l * P) : (b * F) % P = 1 := by
  have : b * F = 1 + P * (-l) := by rw [Int.mul_comm b, Int.mul_neg, Int.mul_comm P]; (first | lia | omega)
  rw [this, Int.add_mul_emod_self_left]
  exact Int.emod_eq_of_lt (by decide) hP
theorem odd_of_inv {b X P : Int} (h2 : (2 : Int) ∣ P) (hX : (b * X) % P = 1) : X % 2 = 1 := by
  have h := Int.emod_emod_of_dvd (b * X) h2
  rw [hX, Int.mul_emod] at h
  rcases Int.emod_two_eq X with q | q
  · rw [q] at h; simp at h
  · exact q
end Mine
namespace Mine
open PySem PySem.W PySem.Calls PyProof.Rows
section
variable {prog : Program} {w : World} {A : Around} {s : Shared} {h h₀ : Heap} {k : Nat} {env : Env} {l : List (Str × AV)} {es : List Ent} {Qn : Shared → Prop} {Qr : Value → Shared → Prop}
theorem Fm.off {os : List (Addr × Obj)} {r : List Ent} {L : Addr} (F : Fm h₀ L h l (raws os ++ r)) : ∀ b ∈ os.map (·.1), b ≠ L ∧ h₀.get? b = none := fun b hb => by
  obtain ⟨p, hp, rfl⟩ := List.mem_map.mp hb
  exact (F.led (.raw p.1 p.2) (List.mem_append_left _ (List.mem_map.mpr ⟨p, hp, rfl⟩))).2
-- the iterator's own objects are let go
theorem Fm.unraw {os : List (Addr × Obj)} {r : List Ent} {L : Addr} {h₁ : Heap} (F : Fm h₀ L h l (raws os ++ r)) (hk : ∀ b o, b ∉ os.map (·.1) → h.get? b = some o → h₁.get? b = some o) : Fm h₀ L h₁ l r := by
  have off := F.off
  have nd := F.apart
  rw [List.map_append, raws_addr] at nd
  refine ⟨?_, fun e he => ?_, (List.nodup_append.mp nd).2.1⟩
  · obtain ⟨m, f, c⟩ := F.fr
    exact ⟨m, ⟨f.ns.at' fun o q => hk _ o (fun hm => (off _ hm).1 rfl) q, fun b o q => hk b o (fun hm => by rw [(off b hm).2] at q; cases q) (f.keep b o q), f.above⟩, c⟩
  · have := F.led e (List.mem_append_right _ he)
    exact ⟨this.1.moved fun o q => hk _ o (fun hm => (List.nodup_append.mp nd).2.2 _ hm _ (List.mem_map_of_mem he) rfl) q, this.2⟩
theorem for_coreT {σ : Type} {I : Addr} {fp wr : List Addr} {n : Nat} {Pt : Nat → Array Value → Prop} {Sx : Nat → Heap → Prop} {Mid : Nat → Addr → Heap → Prop} (W : WalksT prog w A I fp wr n Pt Sx Mid) (hh : A.handled = none)
    (hI : ∀ i h, Sx i h → ∀ b ∈ wr, ∃ o, h.get? b = some o) (J : Nat → σ → Prop) (Lo : σ → List (Str × AV)) (Le : σ → List Ent) {os : List (Addr × Obj)}
    (hfp : ∀ b ∈ fp, b ∈ wr ∨ ∃ o, h₀.get? b = some o) (hos : os.map (·.1) = wr) {x y : Str} {p q tp : Pos} {tk : Nat} {body : List Stmt} (av0 av1 : Nat → AV)
    (hP : ∀ i vals, i < n → Pt i vals → ∃ v0 v1, vals = #[v0, v1] ∧ (av0 i).is v0 ∧ (av1 i).is v1) (x₀ : σ)
    (hst : Sx 0 h) (F : Fm h₀ env.locals h (Lo x₀) (raws os ++ Le x₀)) (j : J 0 x₀)
    (turn : ∀ i z h k ps, i < n → J i z → Fm h₀ env.locals h ((y, av1 i) :: (x, av0 i) :: Lo z) (Le z ++ ps) →
      wpAny (model prog w) A (execs body env) (PF (Turn s h₀ env.locals (J (i + 1)) Lo (fun z => Le z ++ ps)) Qr) Nope (St s h k))
    (done : ∀ z h k, J n z → Fm h₀ env.locals h (Lo z) (Le z) → Qn (St s h k))
    (hk : env.scope.kind = .function := by rfl) (hx : env.kindOf x = some .local := by rfl) (hy : env.kindOf y = some .local := by rfl) :
    codeAny (model prog w) A (.forLoop (.Tuple [.Name x p, .Name y q] tk tp) (.ref I) body [] env) (LR Qn Qr) (St s h k) := by
  refine codeAny_forLoop_any (fun m s' => ∃ i z h k os, s' = St s h k ∧ m = n + 1 - i ∧ i ≤ n ∧ Sx i h ∧ J i z ∧ os.map (·.1) = wr ∧ Fm h₀ env.locals h (Lo z) (raws os ++ Le z)) ?_ (n + 1)
    ⟨0, x₀, h, k, os, rfl, rfl, Nat.zero_le _, hst, j, hos, F⟩
  rintro m s' ⟨i, z, h, k, os, rfl, rfl, hi, hst, j, hos, F⟩
  by_cases c : i < n
  · refine W.item i _ _ _ c hst fun T vals h₁ tk₁ hPt hTs hT hMid hk₁ => ?_
    refine W.go _ _ _ i T _ _ _ hMid fun h₂ hst₂ hk₂ => ?_
    have hk₁₂ : ∀ b o, b ∉ wr → h.get? b = some o → h₂.get? b = some o := fun b o hb e => hk₂ b o hb (hk₁ b o hb e)
    obtain ⟨os₁, e₁, F₁⟩ := F.written (h' := h₂) (fun b o hb => hk₁₂ b o (hos ▸ hb)) (fun b hb => hI _ _ hst₂ b (hos ▸ hb))
    have hT₂ : IsTup h₂ T vals := by
      obtain ⟨o, ho, r⟩ := hT
      exact ⟨o, hk₂ T o (W.apart _ _ _ hMid) ho, r⟩
    obtain ⟨v0, v1, rfl, ha0, ha1⟩ := hP i vals c hPt
    refine assign_Tuple_tuple (s := St s h₂ tk₁) hh hT₂ rfl rfl fun h₃ hx₃ => ?_
    have F₃ : Fm h₀ env.locals h₃ (Lo z) (raws os₁ ++ Le z) := F₁.grow fun b o e => hx₃ b o (Nat.ne_of_lt (Heap.lt_size e)) e
    refine assignInOrder_cons (PyProof.Rows.assign_Name (wpAny_mono (r_st (s := s) (h := h₃) (k := tk₁) F₃ ha0 (fun h₄ k₄ F₄ => ?_) hk hx) (fun _ _ q => q) fun _ _ e => e.elim))
    refine assignInOrder_cons (PyProof.Rows.assign_Name (wpAny_mono (r_st (s := s) (h := h₄) F₄ ha1 (fun h₅ k₅ F₅ => ?_) hk hy) (fun _ _ q => q) fun _ _ e => e.elim))
    refine assignInOrder_nil ?_
    refine wpAny_mono (turn i z h₅ k₅ _ c j (F₅.perm List.perm_append_comm)) (fun f s₃ zz => ?_) fun _ _ e => e.elim
    cases f with
    | next =>
      obtain ⟨y', h', k', rfl, j', F'⟩ := zz
      have F' : Fm h₀ env.locals h' (Lo y') (raws os₁ ++ Le y') := Fm.perm F' List.perm_append_comm
      refine ⟨n + 1 - (i + 1), by (first | lia | omega), i + 1, y', h', k', os₁, rfl, rfl, c, ?_, j', e₁.trans hos, F'⟩
      exact W.frame _ _ _ hst₂ (frame_at (r'' := []) (r' := []) (pins := []) F₁ F' (e₁.trans hos) fun b hb => (hfp b hb).imp_right .inl)
    | ret v => exact zz
    | brk => exact zz.elim
    | cont => exact zz.elim
  · have hin : i = n := by (first | lia | omega)
    subst hin
    refine W.done _ _ _ hst fun h₁ tk₁ hk₁ => wpAny_execs_nil ?_
    exact done z h₁ tk₁ j (F.unraw fun b o hb => hk₁ b o (hos ▸ hb))
theorem r_forEnum {σ : Type} (J : Nat → σ → Prop) (Lo : σ → List (Str × AV)) (Le : σ → List Ent) (x₀ : σ) {a : Addr} {ns : List Int} {x y : Str} {p q tp : Pos} {tk : Nat} {body : List Stmt} (R : Room A 0) (e : (Ent.il a ns).on h₀)
    (F : Fm h₀ env.locals h l es) (n : Names l (Lo x₀)) (u : (Le x₀).Sublist es) (j : J 0 x₀)
    (turn : ∀ i z h k ps, i < ns.length → J i z → Fm h₀ env.locals h ((y, .int (ns.getD i 0)) :: (x, .int (i : Nat)) :: Lo z) (Le z ++ ps) →
      wpAny (model prog w) A (execs body env) (PF (Turn s h₀ env.locals (J (i + 1)) Lo (fun y => Le y ++ ps)) Qr) Nope (St s h k))
    (done : ∀ x h k, J ns.length x → Fm h₀ env.locals h (Lo x) (Le x) → Qn (St s h k))
    (hk : env.scope.kind = .function := by rfl) (hx : env.kindOf x = some .local := by rfl) (hy : env.kindOf y = some .local := by rfl) :
    wpAny (model prog w) A (call (.type "enumerate") [.ref a]) (fun v s₁ => wpAny (model prog w) A (pyIter v) (fun it s₂ => codeAny (model prog w) A (.forLoop (.Tuple [.Name x p, .Name y q] tk tp) it body [] env) (LR Qn Qr) s₂) Nope s₁) Nope (St s h k) := by
  obtain ⟨vs, hb, hi⟩ := e
  obtain ⟨ob, hob, _⟩ := id hb
  have hls : h.IsList a vs.toArray := hb.at fun o e => F.keep a o e
  have hlt : a < h.objs.size := let ⟨_, q, _⟩ := hls; Heap.lt_size q
  refine call_enumerate_list (s := St s h k) hls fun h' hE hI hsz hkk => ?_
  refine wpAny_pyIter_enum hE ?_
  simp only [St.heap] at hE hI hsz hkk
  have hlen : vs.toArray.size = ns.length := by simp [hi.length]
  obtain ⟨oi, hoi, hir⟩ := id hI
  have F1 := (F.names n).ents u
  have nI : h.get? h.objs.size = none := get_size h
  have nE : h.get? (h.objs.size + 1) = none := by
    cases q : h.get? (h.objs.size + 1) with
    | none => rfl
    | some o => exact absurd (Heap.lt_size q) (Nat.not_lt.mpr (Nat.le_succ _))
  obtain ⟨oE, hoE⟩ : ∃ o, h'.get? (h.objs.size + 1) = some o := ⟨_, hE⟩
  have F2 : Fm h₀ env.locals h' (Lo x₀) (.raw h.objs.size oi :: Le x₀) := F1.add hkk nI hoi
  have F3 : Fm h₀ env.locals h' (Lo x₀) (raws [(h.objs.size + 1, oE), (h.objs.size, oi)] ++ Le x₀) := by
    refine ⟨F2.fr, fun e he => ?_, ?_⟩
    · rcases List.mem_cons.mp he with rfl | he
      · refine ⟨hoE, fun q => ?_, ?_⟩
        · exact Nat.ne_of_gt (Nat.lt_succ_of_lt F.ltL) q
        · cases q : h₀.get? (h.objs.size + 1) with
          | none => exact q
          | some o => have := F.keep _ _ q; rw [nE] at this; cases this
      · exact F2.led e he
    · refine List.nodup_cons.mpr ⟨fun q => ?_, F2.apart⟩
      rcases List.mem_cons.mp q with q | q
      · exact Nat.succ_ne_self _ q
      · obtain ⟨e', he, ea⟩ := List.mem_map.mp q
        obtain ⟨o, ho⟩ := (F1.on he).there
        rw [ea] at ho
        have q' : h.get? (h.objs.size + 1) = some o := ho
        rw [nE] at q'; cases q'
  refine for_coreT (s := s) (k := k) (hlen ▸ WalksT.enumerate (prog := prog) (w := w) R.handled (h.objs.size + 1) h.objs.size a (Nat.succ_ne_self _) (Nat.ne_of_lt (Nat.lt_succ_of_lt hlt)) (Nat.ne_of_lt hlt) vs.toArray) R.handled (fun i h' q b hb => ?_) J Lo Le (fun b hb => ?_) rfl
    (fun i => .int (i : Nat)) (fun i => .int (ns.getD i 0)) (fun i vals hi' hPt => ?_) x₀ ?_ F3 j turn done hk hx hy
  · obtain ⟨⟨old, q1⟩, ⟨o, q2, _⟩, _⟩ := q
    rcases List.mem_cons.mp hb with rfl | hb
    · exact ⟨_, q1⟩
    · rw [List.mem_singleton.mp hb]; exact ⟨o, q2⟩
  · rcases List.mem_cons.mp hb with rfl | hb
    · exact .inl (.head _)
    · rcases List.mem_cons.mp hb with rfl | hb
      · exact .inl (.tail _ (.head _))
      · rw [List.mem_singleton.mp hb]; exact .inr ⟨ob, hob⟩
  · obtain ⟨t, v1, hv, rfl⟩ := hPt
    obtain ⟨t2, hx2⟩ := getInts hi hi'
    have : v1 = .int (ns.getD i 0) t2 := by
      have hv' : vs[i]? = some v1 := by simpa using hv
      rw [hx2] at hv'; exact (Option.some.inj hv').symm
    exact ⟨_, _, rfl, ⟨_, rfl⟩, ⟨t2, this⟩⟩
  · exact ⟨⟨_, hE⟩, hI, hls.at fun o e => hkk _ o e⟩
end
end Mine
namespace Mine
open PySem PySem.W PySem.Calls PyProof.Rows
theorem AVs.nil' : AVs [] [] := trivial
theorem AVs.consI {i : Int} {t : Tok} {as : List AV} {vs : List Value} (h : AVs as vs) : AVs (.int i :: as) (.int i t :: vs) := ⟨⟨t, rfl⟩, h⟩
theorem AVs.consR {a : Addr} {as : List AV} {vs : List Value} (h : AVs as vs) : AVs (.ref a :: as) (.ref a :: vs) := ⟨rfl, h⟩
theorem AVs.consB {b : Bool} {as : List AV} {vs : List Value} (h : AVs as vs) : AVs (.bool b :: as) (.bool b :: vs) := ⟨rfl, h⟩
theorem allLoc {env : Env} {names : List Str} (h : (names.all fun x => decide (env.kindOf x = some .local)) = true) : ∀ x ∈ names, env.kindOf x = some .local := fun x hx => of_decide_eq_true (List.all_eq_true.mp h x hx)
noncomputable def namesE : List PySem.Expr → List Str
  | .Name x _ :: r => x :: namesE r
  | _ => []
noncomputable def putN : List Str → List AV → List (Str × AV) → List (Str × AV)
  | x :: r, a :: t, l => (x, a) :: putN r t l
  | _, _, l => l
noncomputable def putE : List PySem.Expr → List AV → List (Str × AV) → List (Str × AV)
  | .Name x _ :: r, a :: t, l => putE r t ((x, a) :: l)
  | _, _, l => l
section
variable {M : Model} {A : Around} {s : Shared} {h h₀ : Heap} {k : Nat} {env : Env} {l : List (Str × AV)} {es : List Ent} {Qn : Shared → Prop} {Qr : Value → Shared → Prop}
theorem wpAny_nope {α : Type} {m : Sem α} {Q : α → Shared → Prop} {E : Value → Shared → Prop} {s : Shared} (h : wpAny M A m Q Nope s) : wpAny M A m Q E s := wpAny_mono h (fun _ _ q => q) fun _ _ e => e.elim
/-- a statement is walked once; what follows begins from what holds behind it -/
theorem r_cut {σ : Type} (J : σ → Prop) (Lo : σ → List (Str × AV)) (Le : σ → List Ent) {st : Stmt} {rest : List Stmt}
    (h1 : wpAny M A (exec st env) (PF (Turn s h₀ env.locals J Lo Le) Qr) Nope (St s h k))
    (h2 : ∀ y h k, J y → Fm h₀ env.locals h (Lo y) (Le y) → wpAny M A (execs rest env) (PF Qn Qr) Nope (St s h k)) : wpAny M A (execs (st :: rest) env) (PF Qn Qr) Nope (St s h k) := by
  refine r_cons (wpAny_mono h1 (fun f s' q => ?_) fun _ _ e => e)
  cases f with
  | next => obtain ⟨y, h', k', rfl, j, F⟩ := q; exact h2 y h' k' j F
  | ret v => exact q
  | brk => exact q.elim
  | cont => exact q.elim
end
section
variable {prog : Program} {w : World} {A : Around} {s : Shared} {h h₀ : Heap} {k : Nat} {env : Env} {L : Addr} {l : List (Str × AV)} {es : List Ent} {Qn : Shared → Prop} {Qr : Value → Shared → Prop} {Q : Value → Shared → Prop}
theorem r_unpackN {names : List Str} {as : List AV} {t : Addr} {n : Nat} {Q : Unit → Shared → Prop} (R : Room A 0) (F : Fm h₀ env.locals h l es) (e : (Ent.tup t as).on h) (hn : n = as.length) (hl : names.length = as.length)
    (hloc : ∀ x ∈ names, env.kindOf x = some .local) (q : ∀ h' k', Fm h₀ env.locals h' (putN names as l) es → Q () (St s h' k')) (hk : env.scope.kind = .function := by rfl) :
    wpAny (model prog w) A (unpackItems (.ref t) n none) (fun items s₂ => wpAny (model prog w) A (assignInOrder (names.reverse.map fun n => bindName env n) items.reverse) Q Nope s₂) Nope (St s h k) := by
  obtain ⟨vs, ht, ha⟩ := e
  have hsz : n = vs.toArray.size := by simp [ha.len, hn]
  subst hsz
  refine unpackItems_tuple (s := St s h k) R.handled ht fun h' he => ?_
  have F' : Fm h₀ env.locals h' l es := F.grow fun b o e => he b o (Nat.ne_of_lt (Heap.lt_size e)) e
  have main : ∀ (xs : List Str) (bs : List AV) (ws : List Value) (Q : Unit → Shared → Prop) (rest : List (Value → Sem Unit)) (rv : List Value), xs.length = bs.length → AVs bs ws → (∀ x ∈ xs, env.kindOf x = some .local) →
      ∀ h k, Fm h₀ env.locals h l es → (∀ h' k', Fm h₀ env.locals h' (putN xs bs l) es → wpAny (model prog w) A (assignInOrder rest rv) Q Nope (St s h' k')) → wpAny (model prog w) A (assignInOrder (xs.reverse.map (fun n => bindName env n) ++ rest) (ws.reverse ++ rv)) Q Nope (St s h k) := by
    intro xs
    induction xs with
    | nil =>
      intro bs ws Q rest rv hl ha _ h k F q
      have : bs = [] := List.length_eq_zero_iff.mp hl.symm
      subst this
      cases ws with
      | nil => exact q h k F
      | cons _ _ => exact ha.elim
    | cons x r ih =>
      intro bs ws Q rest rv hl ha hloc h k F q
      cases bs with
      | nil => cases hl
      | cons b t =>
        cases ws with
        | nil => exact ha.elim
        | cons v u =>
          simp only [List.reverse_cons, List.map_append, List.map_cons, List.map_nil, List.append_assoc, List.singleton_append]
          refine ih t u Q _ _ (by simpa using hl) ha.2 (fun y hy => hloc y (.tail _ hy)) h k F fun h' k' F' => ?_
          refine assignInOrder_cons (PyProof.Rows.bindName_ (r_st F' ha.1 (fun h₂ k₂ F₂ => q h₂ k₂ F₂) hk (hloc x (.head _))))
  have z := main names as vs Q [] [] hl ha hloc h' k F' (fun h₂ k₂ F₂ => assignInOrder_nil (q h₂ k₂ F₂))
  rw [List.append_nil, List.append_nil] at z
  exact z
theorem r_asgS {elts : List PySem.Expr} {kk : Nat} {tpos : Pos} {value : PySem.Expr} {pos : Pos} (_F : Fm h₀ env.locals h l es)
    (hw : swappedStores [.Tuple elts kk tpos] value env = pure (some (namesE elts)))
    (q : wpAny (model prog w) A (eval value env) (fun v s₁ => ∃ t as h k l es, v = .ref t ∧ s₁ = St s h k ∧ Fm h₀ env.locals h l es ∧ (Ent.tup t as).on h ∧ (namesE elts).length = as.length ∧
      ∀ h' k', Fm h₀ env.locals h' (putN (namesE elts) as l) es → Qn (St s h' k')) Nope (St s h k)) (R : Room A 0) (hloc : ∀ x ∈ namesE elts, env.kindOf x = some .local)
    (hs : swapsWithSole [.Tuple elts kk tpos] value pos.line env = pure false := by rfl) (hk : env.scope.kind = .function := by rfl) :
    wpAny (model prog w) A (exec (.Assign [.Tuple elts kk tpos] value pos) env) (PF Qn Qr) Nope (St s h k) := by
  refine Assign_Tuple_swapped (wpAny_mono q (fun v s₁ z => ?_) fun _ _ e => e) hs hw
  obtain ⟨t, as, h, k, l, es, rfl, rfl, F, e, hl, z⟩ := z
  exact r_unpackN R F e hl hl hloc (fun h' k' F' => z h' k' F') hk
noncomputable def npsE : List PySem.Expr → List (Str × Pos)
  | .Name x p :: r => (x, p) :: npsE r
  | _ => []
theorem names_nps : ∀ nps : List (Str × Pos), namesE (nps.map fun z => PySem.Expr.Name z.1 z.2) = nps.map (·.1)
  | [] => rfl
  | _ :: r => congrArg (List.cons _) (names_nps r)
theorem each_nps : ∀ nps : List (Str × Pos), (assignEach (nps.map fun z => PySem.Expr.Name z.1 z.2) env).length = nps.length ∧ (assignEach (nps.map fun z => PySem.Expr.Name z.1 z.2) env).findIdx? (·.1) = none
  | [] => ⟨rfl, rfl⟩
  | z :: r => by
    obtain ⟨i1, i2⟩ := each_nps r
    have e1 : assignEach ((z :: r).map fun z => PySem.Expr.Name z.1 z.2) env = (false, assign (.Name z.1 z.2) env) :: assignEach (r.map fun z => PySem.Expr.Name z.1 z.2) env := rfl
    rw [e1]
    refine ⟨by simp [i1], ?_⟩
    rw [List.findIdx?_cons]; simp [i2]
theorem put_nps {Q : Unit → Shared → Prop} (hk : env.scope.kind = .function) : ∀ (nps : List (Str × Pos)) (bs : List AV) (ws : List Value) (l : List (Str × AV)) (h : Heap) (k : Nat), nps.length = bs.length → AVs bs ws → (∀ z ∈ nps, env.kindOf z.1 = some .local) →
    Fm h₀ env.locals h l es → (∀ h' k', Fm h₀ env.locals h' (putE (nps.map fun z => PySem.Expr.Name z.1 z.2) bs l) es → Q () (St s h' k')) → wpAny (model prog w) A (assignInOrder ((assignEach (nps.map fun z => PySem.Expr.Name z.1 z.2) env).map (·.2)) ws) Q Nope (St s h k)
  | [], bs, ws, l, h, k, hl, ha, _, F, q => by
    cases List.eq_nil_of_length_eq_zero hl.symm
    cases ha.inv0
    exact assignInOrder_nil (q h k F)
  | z :: r, bs, ws, l, h, k, hl, ha, hloc, F, q => by
    cases bs with
    | nil => cases hl
    | cons b bt =>
      obtain ⟨v, u, rfl, h1, h2⟩ := ha.inv
      exact assignInOrder_cons (PyProof.Rows.assign_Name (r_st F h1 (fun h₂ k₂ F₂ => put_nps hk r bt u _ h₂ k₂ (Nat.succ.inj hl) h2 (fun z hz => hloc z (.tail _ hz)) F₂ q) hk (hloc z (.head _))))
theorem r_asgP {elts : List PySem.Expr} {kk : Nat} {tpos : Pos} {value : PySem.Expr} {pos : Pos} (_F : Fm h₀ env.locals h l es)
    (hn : elts = (npsE elts).map fun z => PySem.Expr.Name z.1 z.2)
    (q : wpAny (model prog w) A (eval value env) (fun v s₁ => ∃ t as h k l es, v = .ref t ∧ s₁ = St s h k ∧ Fm h₀ env.locals h l es ∧ (Ent.tup t as).on h ∧ (namesE elts).length = as.length ∧
      ∀ h' k', Fm h₀ env.locals h' (putE elts as l) es → Qn (St s h' k')) Nope (St s h k)) (R : Room A 0) (hloc : ∀ x ∈ namesE elts, env.kindOf x = some .local)
    (hw : swappedStores [.Tuple elts kk tpos] value env = pure none := by rfl)
    (hs : swapsWithSole [.Tuple elts kk tpos] value pos.line env = pure false := by rfl) (hk : env.scope.kind = .function := by rfl) :
    wpAny (model prog w) A (exec (.Assign [.Tuple elts kk tpos] value pos) env) (PF Qn Qr) Nope (St s h k) := by
  refine Assign_Tuple (wpAny_mono q (fun v s₁ z => ?_) fun _ _ e => e) hs hw
  obtain ⟨t, as, h, k, l, es, rfl, rfl, F, ⟨vs, ht, ha⟩, hl, z⟩ := z
  generalize npsE elts = nps at hn
  subst hn
  rw [names_nps] at hl hloc
  obtain ⟨i1, i2⟩ := each_nps (env := env) nps
  refine assign_Tuple_tuple (s := St s h k) R.handled ht (by rw [i1]; simpa [ha.len] using hl) i2 fun h' he => ?_
  exact put_nps hk nps as vs l h' k (by simpa using hl) ha (fun z hz => hloc _ (List.mem_map_of_mem hz)) (F.grow fun b o e => he b o (Nat.ne_of_lt (Heap.lt_size e)) e) z
-- rows that grow, rows that are written
theorem app_ex {D : Addr} {ns : List Int} {P : Addr → Prop} (e : (Ent.gl D ns).on h) (q : P D) : ∃ D' its, Value.ref D = .ref D' ∧ PlainL h D' its ∧ P D' := by
  obtain ⟨vs, p, _⟩ := e; exact ⟨D, _, rfl, p, q⟩
theorem app_exA {D : Addr} {as : List AV} {P : Addr → Prop} (e : (Ent.ga D as).on h) (q : P D) : ∃ D' its, Value.ref D = .ref D' ∧ PlainL h D' its ∧ P D' := by
  obtain ⟨vs, p, _⟩ := e; exact ⟨D, _, rfl, p, q⟩
theorem r_app {a : Addr} {ns : List Int} {i : Int} {t : Tok} {es' : List Ent} (F : Fm h₀ L h l es) (u : Upd (.gl a ns) (.gl a (ns ++ [i])) es es') (hn : ns.length ≤ 1000000) (q : ∀ h', Fm h₀ L h' l es' → Q .none (St s h' k)) :
    wpAny (model prog w) A (call (.builtin "list.append") [.ref a, .int i t]) Q Nope (St s h k) :=
  r_append F u.mem rfl hn fun h' hk e => q h' (F.upd u rfl hk e)
theorem r_appR {a c : Addr} {as : List AV} {es' : List Ent} (F : Fm h₀ L h l es) (u : Upd (.ga a as) (.ga a (as ++ [.ref c])) es es') (hn : as.length ≤ 1000000) (q : ∀ h', Fm h₀ L h' l es' → Q .none (St s h' k)) :
    wpAny (model prog w) A (call (.builtin "list.append") [.ref a, .ref c]) Q Nope (St s h k) :=
  r_appendA (x := .ref c) F u.mem rfl hn fun h' hk e => q h' (F.upd u rfl hk e)
theorem r_setU {a : Addr} {ns : List Int} {i x : Int} {t u : Tok} {es' : List Ent} {Q : Unit → Shared → Prop} (F : Fm h₀ L h l es) (up : Upd (.il a ns) (.il a (ns.set i.toNat x)) es es') (h0 : 0 ≤ i) (h1 : i < ns.length) (hn : ns.length ≤ 1000000)
    (q : ∀ h', Fm h₀ L h' l es' → Q () (St s h' k)) : wpAny (model prog w) A (setItem (.ref a) (.int i u) (.int x t)) Q Nope (St s h k) :=
  r_set (F.on up.mem) h0 h1 hn fun h' hk e => q h' (F.upd up rfl hk e)
theorem r_setUA {a : Addr} {as : List AV} {i x : Int} {t u : Tok} {es' : List Ent} {Q : Unit → Shared → Prop} (F : Fm h₀ L h l es) (up : Upd (.al a as) (.al a (as.set i.toNat (.int x))) es es') (h0 : 0 ≤ i) (h1 : i < as.length) (hn : as.length ≤ 1000000)
    (q : ∀ h', Fm h₀ L h' l es' → Q () (St s h' k)) : wpAny (model prog w) A (setItem (.ref a) (.int i u) (.int x t)) Q Nope (St s h k) :=
  r_setA (F.on up.mem) (x := .int x) ⟨t, rfl⟩ h0 h1 hn fun h' hk e => q h' (F.upd up rfl hk e)
theorem r_asgI {o i value : PySem.Expr} {pos' pos : Pos} {s : Shared}
    (q : wpAny (model prog w) A (eval value env) (fun v s₁ => wpAny (model prog w) A (eval o env) (fun ov s₂ => wpAny (model prog w) A (eval i env) (fun iv s₃ => wpAny (model prog w) A (setItem ov iv v) (fun _ s₄ => Qn s₄) Nope s₃) Nope s₂) Nope s₁) Nope s)
    (hs : swapsWith value (some (.Subscript o i pos')) pos.line env = pure false := by rfl) : wpAny (model prog w) A (exec (.Assign [.Subscript o i pos'] value pos) env) (PF Qn Qr) Nope s := wpAny_Assign_Subscript q hs
theorem r_shlW {b W : Int} {t u : Tok} (hW : W = 2 ^ b.toNat) (h0 : 0 ≤ b) (h1 : b ≤ 1000000) (q : ∀ t' k', Q (.int W t') (St s h k')) : wpAny (model prog w) A (binaryOp .LShift (.int 1 t) (.int b u)) Q Nope (St s h k) :=
  r_shl h0 h1 (by decide) (by rw [Int.one_mul, ← hW]; exact q)
theorem r_powW {b W : Int} {t u : Tok} (hW : W = 2 ^ b.toNat) (h0 : 0 ≤ b) (h1 : b ≤ 1000000) (q : ∀ t' k', Q (.int W t') (St s h k')) : wpAny (model prog w) A (binaryOp .Pow (.int 2 t) (.int b u)) Q Nope (St s h k) :=
  r_pow h0 h1 (by decide) (by rw [← hW]; exact q)
theorem r_andW {a b W : Int} {t u : Tok} (hW : W = 2 ^ b.toNat) (q : ∀ t' k', Q (.int (a % W) t') (St s h k')) : wpAny (model prog w) A (binaryOp .BitAnd (.int a t) (.int (W - 1) u)) Q Nope (St s h k) :=
  r_and (by rw [hW, kbt_mask, ← hW]; exact q)
theorem r_ishrW {a b W : Int} {t u : Tok} (hW : W = 2 ^ b.toNat) (h0 : 0 ≤ b) (q : ∀ t' k', Q (.int (a / W) t') (St s h k')) : wpAny (model prog w) A (inplaceOp .RShift (.int a t) (.int b u)) Q Nope (St s h k) :=
  r_ishr h0 (by rw [← hW, Int.fdiv_eq_ediv_of_nonneg _ (by rw [hW]; exact Int.le_of_lt (Int.pow_pos (by decide)))]; exact q)
theorem r_modP {a b : Int} {t u : Tok} (hb : 0 < b) (q : ∀ t' k', Q (.int (a % b) t') (St s h k')) : wpAny (model prog w) A (binaryOp .Mod (.int a t) (.int b u)) Q Nope (St s h k) :=
  r_mod (by (first | lia | omega)) (by rw [Int.fmod_eq_emod_of_nonneg _ (by (first | lia | omega))]; exact q)
theorem r_divP {a b : Int} {t u : Tok} (hb : 0 < b) (hb' : b < 1073741824) (q : ∀ t' k', Q (.int (a / b) t') (St s h k')) : wpAny (model prog w) A (binaryOp .FloorDiv (.int a t) (.int b u)) Q Nope (St s h k) :=
  r_div (by (first | lia | omega)) (PyProof.noPylong_small (by (first | lia | omega))) (by rw [Int.fdiv_eq_ediv_of_nonneg _ (by (first | lia | omega))]; exact q)
end
/-- what a call has made -/
structure Made (h h' : Heap) (es : List Ent) : Prop where
  grow : Grow h h'
  led : ∀ e ∈ es, e.on h' ∧ h.get? e.addr = none
  apart : (es.map Ent.addr).Nodup
theorem Fm.made {h h' : Heap} {L : Addr} {l : List (Str × AV)} {es es' : List Ent} (F : Fm h L h' l es) (u : es'.Sublist es) : Made h h' es' :=
  ⟨F.keep, fun e he => ⟨F.on (u.subset he), F.fresh (u.subset he)⟩, F.apart.sublist (u.map _)⟩
theorem Fm.adds {h₀ h h' : Heap} {L : Addr} {l : List (Str × AV)} {es es' : List Ent} (F : Fm h₀ L h l es) (m : Made h h' es') : Fm h₀ L h' l (es' ++ es) := by
  have F' := F.grow m.grow
  refine ⟨F'.fr, fun e he => ?_, ?_⟩
  · rcases List.mem_append.mp he with he | he
    · obtain ⟨x1, x2⟩ := m.led e he
      refine ⟨x1, fun q => ?_, ?_⟩
      · obtain ⟨m', f, _⟩ := F.fr
        obtain ⟨oL, _, _, hL, _⟩ := f.ns
        rw [q, hL] at x2; cases x2
      · cases q : h₀.get? e.addr with
        | none => rfl
        | some o => have := F.keep _ _ q; rw [x2] at this; cases this
    · exact F'.led e he
  · rw [List.map_append]
    refine List.nodup_append.mpr ⟨m.apart, F.apart, fun a ha b hb q => ?_⟩
    obtain ⟨e, he, rfl⟩ := List.mem_map.mp ha
    obtain ⟨e', he', rfl⟩ := List.mem_map.mp hb
    obtain ⟨o, ho⟩ := (F.on he').there
    have := (m.led e he).2
    rw [q, ho] at this; cases this
end Mine
namespace Mine
open PySem PySem.W PySem.Calls PyProof.Rows PyProof.Rows.LCg
section
variable {prog : Program} {w : World} {A : Around} {s : Shared} {h h₀ h' : Heap} {k : Nat} {env : Env} {L C : Addr} {l lc : List (Str × AV)} {es ps : List Ent} {Qn : Shared → Prop} {Qr : Value → Shared → Prop} {Q : Value → Shared → Prop}
/-- the frame of a comprehension in the place of the frame about it, and back -/
theorem Fm.swap {oC : Obj} {m' : Str → Option Value} (F : Fm h₀ L h l (.raw C oC :: es)) (n : NsObj oC m') (c : Cover m' lc) (ab : h₀.objs.size ≤ C) :
    ∃ oL m, NsObj oL m ∧ Cover m l ∧ Fm h₀ C h lc (.raw L oL :: es) := by
  obtain ⟨m, f, c'⟩ := F.fr
  obtain ⟨oL, hoL, nL⟩ := ns_obj f.ns
  have hC := F.led (.raw C oC) (.head _)
  have hC1 : h.get? C = some oC := hC.1
  refine ⟨oL, m, nL, c', ⟨⟨m', ⟨n.ns hC1, f.keep, ab⟩, c⟩, fun e he => ?_, ?_⟩⟩
  · rcases List.mem_cons.mp he with rfl | he
    · exact ⟨hoL, Ne.symm hC.2.1, Heap.get?_none_of_le f.above⟩
    · have := F.led e (.tail _ he)
      refine ⟨this.1, fun q => ?_, this.2.2⟩
      have z : e.addr ∈ es.map Ent.addr := List.mem_map_of_mem he
      rw [q] at z
      exact (List.nodup_cons.mp F.apart).1 z
  · refine List.nodup_cons.mpr ⟨fun q => ?_, (List.nodup_cons.mp F.apart).2⟩
    obtain ⟨e, he, ea⟩ := List.mem_map.mp q
    exact (F.led e (.tail _ he)).2.1 ea
/-- an object of the ledger is let go -/
theorem Fm.drop1 {e : Ent} (F : Fm h₀ L h l (e :: es)) (hs : Heap.SameBut e.addr h h') : Fm h₀ L h' l es := by
  have he := F.led e (.head _)
  refine ⟨?_, fun e' he' => ?_, (List.nodup_cons.mp F.apart).2⟩
  · obtain ⟨m, f, c⟩ := F.fr
    exact ⟨m, ⟨f.ns.sameBut hs (Ne.symm he.2.1), fun b o q => (hs.2 b (fun z => by rw [z, he.2.2] at q; cases q)).trans (f.keep b o q), f.above⟩, c⟩
  · have := F.led e' (.tail _ he')
    refine ⟨this.1.moved fun o q => (hs.2 _ (fun z => ?_)).trans q, this.2⟩
    exact (List.nodup_cons.mp F.apart).1 (z ▸ List.mem_map_of_mem he')

/-- a turn's element, and its place in the made list -/
theorem comp_tail {σ : Type} {Jn : σ → Prop} {Le : σ → List Ent} {outs : σ → List AV} {y : σ} {D C : Addr} {oC : Obj} {mC : Str → Option Value} {h₂ h₃ : Heap} {rs : List Ent} {elt : PySem.Expr} {cenv : Env} {T : Shared → Prop} {E : Value → Shared → Prop}
    (F : Fm h₀ env.locals h₂ l (.raw C oC :: .ga D (outs y) :: (rs ++ (Le y ++ ps)))) (hn : h₃.Ns C mC) (hs : ∀ b o, b ≠ C → h₂.get? b = some o → h₃.get? b = some o) (hcov : Cover mC lc) (hab : h₀.objs.size ≤ C) (hsz : (outs y).length ≤ 1000000)
    (turn : ∀ qs, (∀ e ∈ ps, e ∈ qs) → Fm h₀ C h₃ lc (Le y ++ qs) → wpAny (model prog w) A (eval elt cenv) (fun v s' => ∃ y' h' k' a, s' = St s h' k' ∧ a.is v ∧ Jn y' ∧ outs y' = outs y ++ [a] ∧ Fm h₀ C h' lc (Le y' ++ qs)) Nope (St s h₃ k))
    (fin : ∀ y' h₆ k₄ oC₅ m₅, NsObj oC₅ m₅ → Jn y' → (outs y').length = (outs y).length + 1 → Fm h₀ env.locals h₆ l (.raw C oC₅ :: .ga D (outs y') :: (rs ++ (Le y' ++ ps))) → T (St s h₆ k₄)) :
    wpAny (model prog w) A (eval elt cenv) (fun v s₄ => wpAny (model prog w) A (call (.builtin "list.append") [.ref D, v]) (fun _ s₆ => T s₆) E s₄) E (St s h₃ k) := by
  obtain ⟨oC₃, heC₃, nC₃⟩ := ns_obj hn
  have F₃ : Fm h₀ env.locals h₃ l (.raw C oC₃ :: .ga D (outs y) :: (rs ++ (Le y ++ ps))) := F.head (e' := .raw C oC₃) rfl hs heC₃
  obtain ⟨oL, mL, nL, cL, FI⟩ := F₃.swap nC₃ hcov hab
  have pm : ∀ z : σ, List.Perm (Le z ++ (.raw env.locals oL :: .ga D (outs y) :: (rs ++ ps))) (.raw env.locals oL :: .ga D (outs y) :: (rs ++ (Le z ++ ps))) := fun z =>
    (List.perm_append_comm_assoc (Le z) [.raw env.locals oL, .ga D (outs y)] (rs ++ ps)).trans (List.Perm.append_left [.raw env.locals oL, .ga D (outs y)] (List.perm_append_comm_assoc (Le z) rs ps))
  refine wpAny_nope (wpAny_mono (turn _ (fun e he => .tail _ (.tail _ (List.mem_append_right _ he))) (FI.perm (pm y))) (fun v₄ s₄ z => ?_) fun _ _ e => e)
  obtain ⟨y', h₄, k₄, a, rfl, ha, j', ho, FI₄⟩ := z
  obtain ⟨oC₅, m₅, nC₅, _, F₅⟩ := (FI₄.perm (pm y').symm).swap nL cL (let ⟨_, f, _⟩ := F.fr; f.above)
  refine wpAny_nope (r_appendA F₅ (.tail _ (.head _)) ha hsz fun h₆ hk₆ e₆ => ?_)
  exact fin y' h₆ k₄ oC₅ m₅ nC₅ j' (by rw [ho, List.length_append]; rfl) (F₅.upd (e := .ga D (outs y)) (e' := .ga D (outs y')) (.tail .head) rfl hk₆ (ho ▸ e₆))
/-- the turns of a comprehension, the source already an iterator -/
theorem comp_core {σ : Type} {I : Addr} {fp wr : List Addr} {n : Nat} {P : Nat → Value → Prop} {Sx : Nat → Heap → Prop} (W : Walks prog w A I fp wr n P Sx) (hsz : n ≤ 1000000)
    (hI : ∀ i h, Sx i h → ∀ b ∈ wr, ∃ o, h.get? b = some o) (J : Nat → σ → Prop) (Le : σ → List Ent) (outs : σ → List AV) {os : List (Addr × Obj)} {pins : List Ent}
    (hfp : ∀ b ∈ fp, b ∈ wr ∨ (∃ o, h₀.get? b = some o) ∨ ∃ o, Ent.raw b o ∈ pins) (hos : os.map (·.1) = wr) {x : Str} {px : Pos} {elt iter : PySem.Expr} {scope : Scope} {cl : List (Str × Addr)} {pos : Pos} (av : Nat → AV)
    (hP : ∀ i v, i < n → P i v → (av i).is v) (y₀ : σ) (hst : Sx 0 h) (F : Fm h₀ env.locals h l (raws os ++ (pins ++ (Le y₀ ++ ps)))) (j : J 0 y₀) (jo : outs y₀ = [])
    (hcell : ∀ y ∈ scope.names, y.2 ≠ .cell) (hkind : scope.kind = .function) (hx : scope.names.lookup x = some .local)
    (turn : ∀ i y h k C qs, i < n → J i y → (∀ e ∈ ps, e ∈ qs) → Fm h₀ C h [(x, av i)] (Le y ++ qs) → wpAny (model prog w) A (eval elt (compEnvC scope cl C env)) (fun v s' => ∃ y' h' k' a, s' = St s h' k' ∧ a.is v ∧ J (i + 1) y' ∧ outs y' = outs y ++ [a] ∧ Fm h₀ C h' [(x, av i)] (Le y' ++ qs)) Nope (St s h k))
    {RR : Value → Addr → Result → Shared → Prop}
    (hRR : ∀ D C y h k m' oC, J n y → h.Ns C m' → Fm h₀ env.locals h l (.raw C oC :: .ga D (outs y) :: (Le y ++ ps)) → RR (.ref D) C (.ok .next) (St s h k)) :
    wpAny (model prog w) A (newList []) (fun acc s₃ => wpAny (model prog w) A (newFunctionEnv scope env.globals cl [] env.qual none .none (some env)) (fun cenv s₄ =>
      codeAny (model prog w) A (.compStart (.ListComp elt [⟨.Name x px, iter, [], 0⟩] scope pos) 0 (.ref I) acc { cenv with scope := relabel scope env }) (RR acc cenv.locals) s₄) Nope s₃) Nope (St s h k) := by
  refine r_newGa F (fun D hD FD => ?_)
  have habove : h₀.objs.size ≤ hD.objs.size := by
    obtain ⟨m, f, _⟩ := FD.fr
    exact Nat.le_trans f.above (Nat.le_of_lt f.ns.lt)
  refine wpAny_newFunctionEnv (s := St s hD k) hcell (by intro y hy; simp at hy) (fun h₁ hns₁ hsb₁ => ?_) hkind
  simp only [St.heap] at hns₁ hsb₁
  obtain ⟨oC, hoC, nC⟩ := ns_obj hns₁
  have old : ∀ b o, hD.get? b = some o → h₁.get? b = some o := fun b o e => hsb₁.extBut b o (Nat.ne_of_lt (Heap.lt_size e)) (Heap.get?_push_of_some _ e)
  have FC : Fm h₀ env.locals h₁ l (.raw hD.objs.size oC :: .ga D (outs y₀) :: (raws os ++ (pins ++ (Le y₀ ++ ps)))) := by
    rw [jo]; exact FD.add old (get_size hD) hoC
  have hst₁ : Sx 0 h₁ := W.frame _ _ _ hst (frame_at (r'' := []) (r' := [.raw hD.objs.size oC, .ga D (outs y₀)]) F FC hos hfp)
  obtain ⟨C, hCC⟩ : ∃ C, hD.objs.size = C := ⟨_, rfl⟩
  rw [hCC] at FC
  have loop : ∀ k, codeAny (model prog w) A (.compLoop (.ListComp elt [⟨.Name x px, iter, [], 0⟩] scope pos) 0 (.ref I) (.ref D) (compEnvC scope cl C env)) (RR (.ref D) C) (St s h₁ k) := by
    intro k
    refine codeAny_compLoop_tests
      (fun c s' => ∃ h' k' i y os oC m', s' = St s h' k' ∧ i ≤ n ∧ c = n + 1 - i ∧ (outs y).length = i ∧ Sx i h' ∧ J i y ∧ os.map (·.1) = wr ∧ NsObj oC m' ∧ Fm h₀ env.locals h' l (.raw C oC :: .ga D (outs y) :: (raws os ++ (pins ++ (Le y ++ ps))))) ?_ (n + 1)
      ⟨h₁, k, 0, y₀, os, oC, _, rfl, Nat.zero_le _, rfl, by rw [jo]; rfl, hst₁, j, hos, nC, FC⟩
    rintro c s' ⟨h, k, i, y, os, oC, m', rfl, hi, rfl, hlen, hst, j, hos, nC, F⟩
    have Fr1 : Fm h₀ env.locals h l (raws os ++ (.raw C oC :: .ga D (outs y) :: (pins ++ (Le y ++ ps)))) := F.perm (by
      refine (List.perm_append_comm_assoc (raws os) [.raw C oC, .ga D (outs y)] (pins ++ (Le y ++ ps))).trans ?_
      exact List.Perm.refl _)
    by_cases hlt : i < n
    · refine W.item i _ _ _ hlt hst fun v h₂ k₂ hPv hst₂ hk₂ => ?_
      obtain ⟨os₁, e₁, F₁⟩ := Fr1.written (h' := h₂) (fun b o hb => hk₂ b o (hos ▸ hb)) (fun b hb => hI _ _ hst₂ b (hos ▸ hb))
      have hC₂ : h₂.get? C = some oC := F₁.on (List.mem_append_right _ (.head _))
      refine wpAny_assign_Name (wpAny_storeName_local (lookup_relabel_local hx) (nC.ns hC₂) (fun h₃ hn₃ hs₃ => ?_) (by simp [compEnvC, relabel, hkind]))
      refine wpAny_tests_nil ?_
      simp only [if_true]
      have F₁' : Fm h₀ env.locals h₂ l (.raw C oC :: .ga D (outs y) :: ((raws os₁ ++ pins) ++ (Le y ++ ps))) := F₁.perm (by
        rw [List.append_assoc]
        exact (List.perm_append_comm_assoc (raws os₁) [.raw C oC, .ga D (outs y)] (pins ++ (Le y ++ ps))).symm)
      refine comp_tail F₁' hn₃ (fun b o hb e => hs₃.extBut b o hb e) (Cover.cons (l := []) (fun z a e => nomatch e) (hP i v hlt hPv)) (hCC ▸ habove) (by (first | lia | omega)) (fun qs hq FI => turn i y h₃ _ C qs hlt j (fun e he => hq e he) FI) ?_
      intro y' h₆ k₄ oC₅ m₅ nC₅ j' hl' F₆
      rw [List.append_assoc] at F₆
      refine ⟨n + 1 - (i + 1), by (first | lia | omega), h₆, k₄, i + 1, y', os₁, oC₅, m₅, rfl, hlt, rfl, by rw [hl', hlen], ?_, j', e₁.trans hos, nC₅, F₆⟩
      rw [List.append_assoc] at F₁'
      exact W.frame _ _ _ hst₂ (frame_at (r'' := [.raw C oC, .ga D (outs y)]) (r' := [.raw C oC₅, .ga D (outs y')]) F₁' F₆ (e₁.trans hos) hfp)
    · have hin : i = n := by (first | lia | omega)
      subst hin
      refine W.done _ _ _ hst fun h₂ k₂ hk₂ => ?_
      have F₂ := Fr1.unraw (h₁ := h₂) fun b o hb => hk₂ b o (hos ▸ hb)
      have hC₂ : h₂.get? C = some oC := F₂.on (.head _)
      refine hRR D C y h₂ k₂ m' oC j (nC.ns hC₂) (F₂.ents ?_)
      refine List.Sublist.cons_cons _ (List.Sublist.cons_cons _ ?_)
      exact List.sublist_append_right _ _
  subst hCC
  exact codeAny_compStart_list (loop _) (W.self 0 _ _ _ hst₁ (loop _))
end
end Mine
namespace Mine
open PySem PySem.W PySem.Calls PyProof.Rows PyProof.Rows.LCg
section
variable {prog : Program} {w : World} {A : Around} {s : Shared} {h h₀ h' : Heap} {k : Nat} {env : Env} {L C : Addr} {l lc : List (Str × AV)} {es ps : List Ent} {Qn : Shared → Prop} {Qr : Value → Shared → Prop} {Q : Value → Shared → Prop}
/-- a comprehension whose source is an iterator now -/
noncomputable def CBlk (prog : Program) (w : World) (A : Around) (elt : PySem.Expr) (target iter : PySem.Expr) (scope : Scope) (cl : List (Str × Addr)) (pos : Pos) (env : Env) (use : Option (Value → Sem Unit)) (Q : Value → Shared → Prop) (it : Value) (s : Shared) : Prop :=
  wpAny (model prog w) A (newList []) (fun acc s₃ => wpAny (model prog w) A (newFunctionEnv scope env.globals cl [] env.qual none .none (some env)) (fun cenv s₄ =>
    codeAny (model prog w) A (.compStart (.ListComp elt [⟨target, iter, [], 0⟩] scope pos) 0 it acc { cenv with scope := relabel scope env }) (compPost (model prog w) A Nope use Q acc cenv.locals) s₄) Nope s₃) Nope s
theorem r_lcE {elt target iter : PySem.Expr} {scope : Scope} {cl : List (Str × Addr)} {pos : Pos} {s : Shared} (hclos : closureFor scope env = pure cl)
    (q : wpAny (model prog w) A (eval iter env) (fun xv s₁ => wpAny (model prog w) A (pyIter xv) (fun it s₂ => CBlk prog w A elt target iter scope cl pos env none Q it s₂) Nope s₁) Nope s)
    (hkind : scope.kind = .function := by rfl) (hnames : (scope.names.all fun x => decide (x.2 = .local → scope.names.lookup x.1 = some .local)) = true := by rfl) (hs : ∀ x, foldedSetIterable iter env x = pure x := by intro _; rfl) :
    wpAny (model prog w) A (eval (.ListComp elt [⟨target, iter, [], 0⟩] scope pos) env) Q Nope s := by
  rw [eval_ListComp]
  exact wpAny_comprehension_free (use := none) rfl hs hclos hkind (fun x hx => of_decide_eq_true (List.all_eq_true.mp hnames x hx)) q
theorem r_lcA {elt target iter : PySem.Expr} {scope : Scope} {cl : List (Str × Addr)} {pos spos py : Pos} {y : Str} {s : Shared} (hclos : closureFor scope env = pure cl)
    (q : wpAny (model prog w) A (eval iter env) (fun xv s₁ => wpAny (model prog w) A (pyIter xv) (fun it s₂ => CBlk prog w A elt target iter scope cl pos env (some (assign (.Name y py) env)) (fun _ s => Qn s) it s₂) Nope s₁) Nope s)
    (hsw : swapsWith (.ListComp elt [⟨target, iter, [], 0⟩] scope pos) (some (.Name y py)) spos.line env = pure true := by rfl)
    (hkind : scope.kind = .function := by rfl) (hnames : (scope.names.all fun x => decide (x.2 = .local → scope.names.lookup x.1 = some .local)) = true := by rfl) (hs : ∀ x, foldedSetIterable iter env x = pure x := by intro _; rfl) :
    wpAny (model prog w) A (exec (.Assign [.Name y py] (.ListComp elt [⟨target, iter, [], 0⟩] scope pos) spos) env) (PF Qn Qr) Nope s := by
  rw [exec_Assign_Name_used _ _ _ _ hsw]
  refine wpAny_bind (wpAny_standAt (wpAny_bind ?_))
  show wpAny _ A (do let _ ← comprehension (.ListComp elt [⟨target, iter, [], 0⟩] scope pos) scope env _ (newList []) false (eval iter env) (some (assign (.Name y py) env))) _ _ s
  refine wpAny_bind (wpAny_mono (wpAny_comprehension_free (use := some (assign (.Name y py) env)) (Q := fun _ s' => Qn s') rfl hs hclos hkind (fun x hx => of_decide_eq_true (List.all_eq_true.mp hnames x hx)) q)
    (fun _ s' hq => wpAny_pure (wpAny_pure hq)) fun _ _ e => e)
theorem post_none {D : Addr} {oC : Obj} {m' : Str → Option Value} (n : h.Ns C m') (F : Fm h₀ L h l (.raw C oC :: es)) (q : ∀ h', Fm h₀ L h' l es → Q (.ref D) (St s h' k)) :
    compPost (model prog w) A Nope none Q (.ref D) C (.ok .next) (St s h k) := ⟨m', n, fun h' hs => q h' (F.drop1 hs)⟩
theorem post_use {D : Addr} {oC : Obj} {m' : Str → Option Value} {y : Str} {py : Pos} (n : h.Ns C m') (F : Fm h₀ env.locals h l (.raw C oC :: es)) (q : ∀ h' k', Fm h₀ env.locals h' ((y, .ref D) :: l) es → Qn (St s h' k'))
    (hk : env.scope.kind = .function := by rfl) (hl : env.kindOf y = some .local := by rfl) :
    compPost (model prog w) A Nope (some (assign (.Name y py) env)) (fun _ s => Qn s) (.ref D) C (.ok .next) (St s h k) := by
  show wpAny _ A (assign (.Name y py) env (.ref D)) _ Nope _
  obtain ⟨oC', hC', nC'⟩ := ns_obj n
  have e : oC' = oC := by have : h.get? C = some oC := F.on (.head _); rw [hC'] at this; exact Option.some.inj this
  subst e
  exact PyProof.Rows.assign_Name (r_stR F (fun h₂ k₂ F₂ => ⟨m', nC'.ns (F₂.on (.head _)), fun h' hs => q h' k₂ (F₂.drop1 hs)⟩) hk hl)
theorem r_cRange {σ : Type} (J : Nat → σ → Prop) (Le : σ → List Ent) (outs : σ → List AV) (y₀ : σ) (ps : List Ent) {use : Option (Value → Sem Unit)} {a : Addr} {lo hi : Int} {elt iter : PySem.Expr} {scope : Scope} {cl : List (Str × Addr)} {pos px : Pos} {x : Str} (R : Room A 0) (e : (Ent.rng a lo hi).on h)
    (h1 : -1000000 ≤ lo) (h2 : lo ≤ 1000000) (h3 : -1000000 ≤ hi) (h4 : hi ≤ 1000000) (h5 : hi - lo ≤ 1000000)
    (F : Fm h₀ env.locals h l es) (u : (Le y₀ ++ ps).Sublist es) (j : J 0 y₀) (jo : outs y₀ = [])
    (turn : ∀ i y h k C qs, i < (hi - lo).toNat → J i y → (∀ e ∈ ps, e ∈ qs) → Fm h₀ C h [(x, .int (lo + i))] (Le y ++ qs) → wpAny (model prog w) A (eval elt (compEnvC scope cl C env)) (fun v s' => ∃ y' h' k' a, s' = St s h' k' ∧ a.is v ∧ J (i + 1) y' ∧ outs y' = outs y ++ [a] ∧ Fm h₀ C h' [(x, .int (lo + i))] (Le y' ++ qs)) Nope (St s h k))
    (done : ∀ D C y h k m' oC, J (hi - lo).toNat y → h.Ns C m' → Fm h₀ env.locals h l (.raw C oC :: .ga D (outs y) :: (Le y ++ ps)) → compPost (model prog w) A Nope use Q (.ref D) C (.ok .next) (St s h k))
    (hcell : (scope.names.all fun y => decide (y.2 ≠ .cell)) = true := by rfl) (hkind : scope.kind = .function := by rfl) (hx : scope.names.lookup x = some .local := by rfl) :
    wpAny (model prog w) A (pyIter (.ref a)) (fun it s₂ => CBlk prog w A elt (.Name x px) iter scope cl pos env use Q it s₂) Nope (St s h k) := by
  obtain ⟨t, v, z, hr⟩ := e
  refine wpAny_pyIter_range (s := St s h k) hr (small_one (by (first | lia | omega)) (by (first | lia | omega)) (by (first | lia | omega)) (by (first | lia | omega))) ?_
  have hsz : Builtin.Range.rangeSize lo hi 1 = ((hi - lo).toNat : Int) := by rw [rangeSize_one]; split <;> (first | lia | omega)
  rw [hsz]
  have FF := (F.ents u).push (o := { cls := .type "range_iterator", data := .fields #[rawInt lo, rawInt ((hi - lo).toNat : Int), rawInt 1] }) (e := .raw h.objs.size _) rfl (Heap.get?_push_size _ rfl)
  refine comp_core (s := s) (os := [(h.objs.size, _)]) (pins := []) (Walks.range (prog := prog) (w := w) R.handled h.objs.size lo 1 (hi - lo).toNat) (by (first | lia | omega)) (fun i h' q b hb => by rw [List.mem_singleton.mp hb]; exact ⟨_, q⟩) J Le outs (fun b hb => .inl hb) rfl (fun i => .int (lo + i)) (fun i v _ hv => ?_) y₀ ?_ FF j jo
    (fun y hy => of_decide_eq_true (List.all_eq_true.mp hcell y hy)) hkind hx turn done
  · obtain ⟨t', rfl⟩ := hv
    exact ⟨t', by rw [Int.mul_one]⟩
  · show IsRangeIter _ _ (lo + ((0 : Nat) : Int) * 1) (((hi - lo).toNat : Int) - ((0 : Nat) : Int)) 1
    rw [show lo + ((0 : Nat) : Int) * 1 = lo by simp, show (((hi - lo).toNat : Int) - ((0 : Nat) : Int)) = ((hi - lo).toNat : Int) by simp]
    exact Heap.get?_push_size _ rfl
theorem Fm.gaInts {D : Addr} {ns : List Int} (F : Fm h₀ L h l (.ga D (ns.map .int) :: es)) : Fm h₀ L h l (.il D ns :: es) :=
  F.head rfl (fun _ _ _ e => e) (let ⟨vs, p, i⟩ := F.on (.head _); ⟨vs, p.isList, i.toInts⟩)
theorem Fm.gaAl {D : Addr} {as : List AV} (F : Fm h₀ L h l (.ga D as :: es)) : Fm h₀ L h l (.al D as :: es) :=
  F.head rfl (fun _ _ _ e => e) (F.on (.head _)).ga
theorem r_sum {a : Addr} {ns : List Int} (R : Room A 0) (F : Fm h₀ L h l es) (e : (Ent.il a ns).on h) (q : ∀ t h' k', Fm h₀ L h' l es → Q (.int ns.sum t) (St s h' k')) : wpAny (model prog w) A (call (.builtin "sum") [.ref a]) Q Nope (St s h k) := by
  obtain ⟨vs, hl, hi⟩ := e
  obtain ⟨m, f, c⟩ := F.fr
  obtain ⟨xs, hx⟩ := hi.allInts.items
  have hl' : h.IsList a (intItems xs) := hx ▸ hl
  refine sum_intListG (s := St s h k) R.handled hl' fun h' tk t' hk => ?_
  have e1 : ns = xs.toList.map (·.1) := by
    rw [← nums_intItems, ← hx]
    exact (show numsOf vs.toArray.toList = ns from hi.numsOf).symm
  have e2 : preSum (numAt xs) xs.size = ns.sum := by
    rw [preSum_eq, List.take_of_length_le (by simp), e1]
  rw [e2]
  exact q _ _ _ (F.grow hk)
theorem r_cIl {σ : Type} (J : Nat → σ → Prop) (Le : σ → List Ent) (outs : σ → List AV) (y₀ : σ) (ps : List Ent) {use : Option (Value → Sem Unit)} {a : Addr} {ns : List Int} {elt iter : PySem.Expr} {scope : Scope} {cl : List (Str × Addr)} {pos px : Pos} {x : Str} (R : Room A 0)
    (F : Fm h₀ env.locals h l (.il a ns :: es)) (hn : ns.length ≤ 1000000) (u : (Le y₀ ++ ps).Sublist es) (j : J 0 y₀) (jo : outs y₀ = [])
    (turn : ∀ i y h k C qs, i < ns.length → J i y → (∀ e ∈ ps, e ∈ qs) → Fm h₀ C h [(x, .int (ns.getD i 0))] (Le y ++ qs) → wpAny (model prog w) A (eval elt (compEnvC scope cl C env)) (fun v s' => ∃ y' h' k' a, s' = St s h' k' ∧ a.is v ∧ J (i + 1) y' ∧ outs y' = outs y ++ [a] ∧ Fm h₀ C h' [(x, .int (ns.getD i 0))] (Le y' ++ qs)) Nope (St s h k))
    (done : ∀ D C y h k m' oC, J ns.length y → h.Ns C m' → Fm h₀ env.locals h l (.raw C oC :: .ga D (outs y) :: (Le y ++ ps)) → compPost (model prog w) A Nope use Q (.ref D) C (.ok .next) (St s h k))
    (hcell : (scope.names.all fun y => decide (y.2 ≠ .cell)) = true := by rfl) (hkind : scope.kind = .function := by rfl) (hx : scope.names.lookup x = some .local := by rfl) :
    wpAny (model prog w) A (pyIter (.ref a)) (fun it s₂ => CBlk prog w A elt (.Name x px) iter scope cl pos env use Q it s₂) Nope (St s h k) := by
  obtain ⟨vs, hls, hi⟩ := F.on (.head _)
  obtain ⟨ob, hob, hobr⟩ := id hls
  have hlt : a < h.objs.size := Heap.lt_size hob
  have Fr0 : Fm h₀ env.locals h l (.raw a ob :: es) := F.head (e' := .raw a ob) rfl (fun _ _ _ e => e) hob
  refine wpAny_pyIter_list (s := St s h k) hls ?_
  have FF := (Fr0.ents (List.Sublist.cons_cons _ u)).push (o := { cls := .type "list_iterator", data := .fields #[.ref a, .int 0 0] }) (e := .raw h.objs.size _) rfl (Heap.get?_push_size _ rfl)
  have hlen : vs.toArray.size = ns.length := by simp [hi.length]
  refine comp_core (s := s) (os := [(h.objs.size, _)]) (pins := [.raw a ob]) (hlen ▸ Walks.list (prog := prog) (w := w) R.handled h.objs.size a (Nat.ne_of_lt hlt) vs.toArray) hn (fun i h' q b hb => ?_) J Le outs (fun b hb => ?_) rfl (fun i => .int (ns.getD i 0)) (fun i v hi' hP => ?_) y₀ ?_ FF j jo
    (fun y hy => of_decide_eq_true (List.all_eq_true.mp hcell y hy)) hkind hx turn done
  · rw [List.mem_singleton.mp hb]
    obtain ⟨⟨o, ho, _⟩, _⟩ := q
    exact ⟨o, ho⟩
  · rcases List.mem_cons.mp hb with rfl | hb
    · exact .inl (.head _)
    · rw [List.mem_singleton.mp hb]; exact .inr (.inr ⟨ob, .head _⟩)
  · obtain ⟨t, hx'⟩ := getInts hi hi'
    have hP' : vs[i]? = some v := by simpa using hP
    rw [hx'] at hP'
    exact ⟨t, (Option.some.inj hP').symm⟩
  · exact ⟨⟨_, Heap.get?_push_size _ rfl, rfl, rfl⟩, hls.push _⟩
theorem r_cTup {σ : Type} (J : Nat → σ → Prop) (Le : σ → List Ent) (outs : σ → List AV) (y₀ : σ) (ps : List Ent) {use : Option (Value → Sem Unit)} {a : Addr} {ns : List Int} {elt iter : PySem.Expr} {scope : Scope} {cl : List (Str × Addr)} {pos px : Pos} {x : Str} (R : Room A 0)
    (F : Fm h₀ env.locals h l (.tup a (ns.map .int) :: es)) (hn : ns.length ≤ 1000000) (u : (Le y₀ ++ ps).Sublist es) (j : J 0 y₀) (jo : outs y₀ = [])
    (turn : ∀ i y h k C qs, i < ns.length → J i y → (∀ e ∈ ps, e ∈ qs) → Fm h₀ C h [(x, .int (ns.getD i 0))] (Le y ++ qs) → wpAny (model prog w) A (eval elt (compEnvC scope cl C env)) (fun v s' => ∃ y' h' k' a, s' = St s h' k' ∧ a.is v ∧ J (i + 1) y' ∧ outs y' = outs y ++ [a] ∧ Fm h₀ C h' [(x, .int (ns.getD i 0))] (Le y' ++ qs)) Nope (St s h k))
    (done : ∀ D C y h k m' oC, J ns.length y → h.Ns C m' → Fm h₀ env.locals h l (.raw C oC :: .ga D (outs y) :: (Le y ++ ps)) → compPost (model prog w) A Nope use Q (.ref D) C (.ok .next) (St s h k))
    (hcell : (scope.names.all fun y => decide (y.2 ≠ .cell)) = true := by rfl) (hkind : scope.kind = .function := by rfl) (hx : scope.names.lookup x = some .local := by rfl) :
    wpAny (model prog w) A (pyIter (.ref a)) (fun it s₂ => CBlk prog w A elt (.Name x px) iter scope cl pos env use Q it s₂) Nope (St s h k) := by
  obtain ⟨vs, hls, hav⟩ := F.on (.head _)
  have hi := hav.toInts
  obtain ⟨ob, hob, hobr⟩ := id hls
  have hlt : a < h.objs.size := Heap.lt_size hob
  have Fr0 : Fm h₀ env.locals h l (.raw a ob :: es) := F.head (e' := .raw a ob) rfl (fun _ _ _ e => e) hob
  have hls' : h.IsTuple a vs.toArray := ⟨ob, hob, hobr⟩
  refine wpAny_pyIter_tuple (s := St s h k) hls' ?_
  have FF := (Fr0.ents (List.Sublist.cons_cons _ u)).push (o := { cls := .type "tuple_iterator", data := .fields #[.ref a, .int 0 0] }) (e := .raw h.objs.size _) rfl (Heap.get?_push_size _ rfl)
  have hlen : vs.toArray.size = ns.length := by simp [hi.length]
  refine comp_core (s := s) (os := [(h.objs.size, _)]) (pins := [.raw a ob]) (hlen ▸ Walks.tuple (prog := prog) (w := w) R.handled h.objs.size a (Nat.ne_of_lt hlt) vs.toArray) hn (fun i h' q b hb => ?_) J Le outs (fun b hb => ?_) rfl (fun i => .int (ns.getD i 0)) (fun i v hi' hP => ?_) y₀ ?_ FF j jo
    (fun y hy => of_decide_eq_true (List.all_eq_true.mp hcell y hy)) hkind hx turn done
  · rw [List.mem_singleton.mp hb]
    obtain ⟨⟨o, ho, _⟩, _⟩ := q
    exact ⟨o, ho⟩
  · rcases List.mem_cons.mp hb with rfl | hb
    · exact .inl (.head _)
    · rw [List.mem_singleton.mp hb]; exact .inr (.inr ⟨ob, .head _⟩)
  · obtain ⟨t, hx'⟩ := getInts hi hi'
    have hP' : vs[i]? = some v := by simpa using hP
    rw [hx'] at hP'
    exact ⟨t, (Option.some.inj hP').symm⟩
  · exact ⟨⟨_, Heap.get?_push_size _ rfl, rfl, rfl⟩, ⟨ob, Heap.get?_push_of_some _ hob, hobr⟩⟩
end
-- cells
section
variable {prog : Program} {w : World} {A : Around} {s : Shared} {h hb h₀ : Heap} {k : Nat} {L : Addr} {l : List (Str × AV)} {es : List Ent} {Q : Value → Shared → Prop} {env : Env}
theorem r_nmC {c : Addr} {a : AV} {x : Str} {pos : Pos} {M : Model} (F : Fm h₀ L h l es) (hc : env.cells.lookup x = some c) (hm : .cell c a ∈ es) (q : AVq a fun v => Q v (St s h k))
    (hk : env.scope.kind = .function := by rfl) (hl : env.kindOf x = some .cell := by rfl) (hd : (x == ("__debug__" : Str)) = false := by decide) : wpAny M A (eval (.Name x pos) env) Q Nope (St s h k) := by
  obtain ⟨v, hv, hav⟩ := F.on hm
  exact wpAny_Name (wpAny_loadName_cell hk hl hc hv (q.app hav)) hd
theorem r_stCell {c : Addr} {a : AV} {v : Value} {x : Str} {M : Model} {e : Ent} {es' : List Ent} {Q : Unit → Shared → Prop} {cm : Option Value} (F : Fm h₀ L h l es) (hc : env.cells.lookup x = some c) (he : e.addr = c) (hcell : h.IsCell c cm) (hav : a.is v) (u : Upd e (.cell c a) es es')
    (q : ∀ h', Fm h₀ L h' l es' → Q () (St s h' k)) (hk : env.scope.kind = .function := by rfl) (hl : env.kindOf x = some .cell := by rfl) : wpAny M A (storeName env x v) Q Nope (St s h k) := by
  refine wpAny_storeName_cell hk hl hc hcell fun h' hv hs => q h' (F.upd u he.symm (fun b o hb e' => (hs.2 b (fun z => hb (z.trans he.symm))).trans e') ⟨v, hv, hav⟩)
theorem r_stH {c : Addr} {a : AV} {v : Value} {x : Str} {M : Model} {es' : List Ent} {Q : Unit → Shared → Prop} (F : Fm h₀ L h l es) (hc : env.cells.lookup x = some c) (hav : a.is v) (u : Upd (.hole c) (.cell c a) es es')
    (q : ∀ h', Fm h₀ L h' l es' → Q () (St s h' k)) (hk : env.scope.kind = .function := by rfl) (hl : env.kindOf x = some .cell := by rfl) : wpAny M A (storeName env x v) Q Nope (St s h k) :=
  r_stCell F hc rfl (F.on u.mem) hav u q hk hl
theorem r_stHI {c : Addr} {i : Int} {t : Tok} {x : Str} {M : Model} {es' : List Ent} {Q : Unit → Shared → Prop} (F : Fm h₀ L h l es) (hc : env.cells.lookup x = some c) (u : Upd (.hole c) (.cell c (.int i)) es es')
    (q : ∀ h', Fm h₀ L h' l es' → Q () (St s h' k)) (hk : env.scope.kind = .function := by rfl) (hl : env.kindOf x = some .cell := by rfl) : wpAny M A (storeName env x (.int i t)) Q Nope (St s h k) := r_stH (a := .int i) F hc ⟨t, rfl⟩ u q hk hl
theorem r_stHR {c b : Addr} {x : Str} {M : Model} {es' : List Ent} {Q : Unit → Shared → Prop} (F : Fm h₀ L h l es) (hc : env.cells.lookup x = some c) (u : Upd (.hole c) (.cell c (.ref b)) es es')
    (q : ∀ h', Fm h₀ L h' l es' → Q () (St s h' k)) (hk : env.scope.kind = .function := by rfl) (hl : env.kindOf x = some .cell := by rfl) : wpAny M A (storeName env x (.ref b)) Q Nope (St s h k) := r_stH (a := .ref b) F hc rfl u q hk hl
/-- what the cells of a new frame hold -/
noncomputable def CellEnts (bs : List (Str × Value)) : List (Str × Addr) → List Ent → Prop
  | [], [] => True
  | (n, c) :: r, e :: t => ((∃ a v, e = .cell c a ∧ bs.lookup n = some v ∧ a.is v) ∨ (e = .hole c ∧ bs.lookup n = none)) ∧ CellEnts bs r t
  | _, _ => False
theorem ce_nil {bs : List (Str × Value)} : CellEnts bs [] [] := trivial
theorem ce_hole {bs : List (Str × Value)} {n : Str} {c : Addr} {r : List (Str × Addr)} {t : List Ent} (h : bs.lookup n = none) (k : CellEnts bs r t) : CellEnts bs ((n, c) :: r) (.hole c :: t) := ⟨.inr ⟨rfl, h⟩, k⟩
theorem ce_ref {bs : List (Str × Value)} {n : Str} {c a : Addr} {r : List (Str × Addr)} {t : List Ent} (h : bs.lookup n = some (.ref a)) (k : CellEnts bs r t) : CellEnts bs ((n, c) :: r) (.cell c (.ref a) :: t) := ⟨.inl ⟨_, _, rfl, h, rfl⟩, k⟩
theorem ce_int {bs : List (Str × Value)} {n : Str} {c : Addr} {i : Int} {u : Tok} {r : List (Str × Addr)} {t : List Ent} (h : bs.lookup n = some (.int i u)) (k : CellEnts bs r t) : CellEnts bs ((n, c) :: r) (.cell c (.int i) :: t) := ⟨.inl ⟨_, _, rfl, h, u, rfl⟩, k⟩
theorem bd_nil : Binds [] [] := trivial
theorem bd_ref {n : Str} {a : Addr} {r : List (Str × Value)} {t : List (Str × AV)} (k : Binds r t) : Binds ((n, .ref a) :: r) ((n, .ref a) :: t) := ⟨rfl, rfl, k⟩
theorem bd_int {n : Str} {i : Int} {u : Tok} {r : List (Str × Value)} {t : List (Str × AV)} (k : Binds r t) : Binds ((n, .int i u) :: r) ((n, .int i) :: t) := ⟨rfl, ⟨u, rfl⟩, k⟩
theorem lookup_snoc {x n : Str} {v : Value} : ∀ (l : List (Str × Value)), (l ++ [(n, v)]).lookup x = (l.lookup x).orElse fun _ => if x == n then some v else none
  | [] => by
    show List.lookup x [(n, v)] = _
    rw [List.lookup_cons]
    cases x == n <;> rfl
  | (z, u) :: t => by
    show ((z, u) :: (t ++ [(n, v)])).lookup x = _
    rw [List.lookup_cons, List.lookup_cons]
    cases x == z with
    | true => rfl
    | false => exact lookup_snoc t
theorem bindL_lookup {kindOf : Str → Option NameKind} {x : Str} : ∀ (bs : List (Str × Value)) (m : Str → Option Value) {v : Value}, bs.reverse.lookup x = some v → kindOf x = some .local → bindL kindOf bs m x = some v := by
  have key : ∀ (bs : List (Str × Value)) (m : Str → Option Value), kindOf x = some .local → bindL kindOf bs m x = (bs.reverse.lookup x).orElse fun _ => m x := by
    intro bs
    induction bs with
    | nil => intro m _; rfl
    | cons b r ih =>
      intro m hk
      obtain ⟨n, v⟩ := b
      show bindL kindOf r _ x = _
      rw [ih _ hk, List.reverse_cons]
      rw [lookup_snoc]
      cases r.reverse.lookup x with
      | some z => rfl
      | none =>
        by_cases c : x = n
        · subst c; simp [hk]
        · have c' : (x == n) = false := by simpa using c
          simp only [c', Option.orElse]
          split <;> simp [c]
  intro bs m v e hk
  rw [key bs m hk, e]; rfl
theorem bindC_lookup {kindOf : Str → Option NameKind} {x : Str} (bs : List (Str × Value)) (hk : kindOf x ≠ some .local) : bindC kindOf bs (fun _ => none) x = bs.reverse.lookup x := by
  have key : ∀ (bs : List (Str × Value)) (m : Str → Option Value), bindC kindOf bs m x = (bs.reverse.lookup x).orElse fun _ => m x := by
    intro bs
    induction bs with
    | nil => intro m; rfl
    | cons b r ih =>
      intro m
      obtain ⟨n, v⟩ := b
      show bindC kindOf r _ x = _
      rw [ih _, List.reverse_cons]
      rw [lookup_snoc]
      cases r.reverse.lookup x with
      | some z => rfl
      | none =>
        by_cases c : x = n
        · subst c; simp [hk]
        · have c' : (x == n) = false := by simpa using c
          simp only [c', Option.orElse]
          split <;> simp [c]
  rw [key]; cases bs.reverse.lookup x <;> rfl
theorem r_enterC {f : Addr} {vals : List Value} {binds : List (Str × Value)} {name qual : Str} {params : Arguments} {body : List Stmt} {scope : Scope} {dV kV doc pm cdv ct oc : Value} {an od : Option Addr} {osl : Array (Option Value)} {n : Nat} (ents : Addr → List Ent) {ln : List (Str × AV)}
    (G : Gd w h) (R : Room A (n + 1))
    (ho : (hd.heap_39 w.params).lookup f = some ⟨oc, od, .func (fnOf name qual params body scope dV kV doc pm an cdv ct), osl⟩) (hcd : codeIn (hd.heap_39 w.params) cdv qual = true)
    (hbind : BindsTo (St s h k) (fnOf name qual params body scope dV kV doc pm an cdv ct) ⟨vals, []⟩ binds)
    (hkind : (binds.all fun y => scope.names.lookup y.1 == some .local || scope.names.lookup y.1 == some .cell) = true)
    (hnd : ((cellsFrom 0 scope.names []).map (·.1)).Nodup)
    (hents : ∀ L, CellEnts binds.reverse (cellsFrom (L + 1) scope.names []) (ents L)) (hcl : ∀ L, ((cellsFrom (L + 1) scope.names []).all fun x => decide (scope.names.lookup x.1 = some .cell)) = true)
    (hln : Binds (binds.reverse.filter fun b => scope.names.lookup b.1 == some .local) ln) (nms : List Str) (hnm : binds.reverse.map (·.1) = nms) (hnd2 : nms.Nodup)
    (q : ∀ L h₁ k₁, Fm h L h₁ ln (ents L) → Grow h h₁ → h.objs.size ≤ L → Room (A.deeper (envOfC qual scope L f cdv)) n →
      wpAny (model prog w) (A.deeper (envOfC qual scope L f cdv)) (execs body (envOfC qual scope L f cdv)) (PF (Q .none) Q) Nope (St s h₁ k₁))
    (hco : scope.isCoroutine = false := by rfl) (hgen : scope.isGenerator = false := by rfl) (hk : scope.kind = .function := by rfl) :
    wpAny (model prog w) A (call (.ref f) vals) Q Nope (St s h k) := by
  obtain ⟨loose, mg, mb, T⟩ := G.T
  refine wpAny_call (codeAny_call_function (s := St s h k) (fd := fnOf name qual params body scope dV kV doc pm an cdv ct) (body := body) R.limit (G.X _ _ ho) rfl hco hgen rfl (codeRec_of G.X hcd) (hbind _ _ _ _ ?_))
  refine wpAny_newFunctionEnv_cells (s := St s h k) hk (kindsX hkind _) fun env' he s' x => ?_
  subst he
  refine ⟨T.nolimit.keeps x.toInCall.keep, codeAny_func ?_⟩
  obtain ⟨h₁, tk, rfl, _⟩ := x.done
  have hk₁ : Grow h h₁ := x.toInCall.keep
  have hFr : Fr h h.objs.size h₁ (bindL (envOfC qual scope h.objs.size f cdv).kindOf binds fun _ => none) := ⟨x.toInCall.ns, hk₁, Nat.le_refl _⟩
  have F : Fm h h.objs.size h₁ ln (ents h.objs.size) := by
    refine ⟨⟨_, hFr, fun y a e => ?_⟩, ?_, ?_⟩
    · obtain ⟨v, e1, e2⟩ := hln.cover y a e
      have fl : ∀ (l : List (Str × Value)), (l.map (·.1)).Nodup → (l.filter fun b => scope.names.lookup b.1 == some .local).lookup y = some v → l.lookup y = some v ∧ scope.names.lookup y = some .local := by
        intro l
        induction l with
        | nil => intro _ e; cases e
        | cons b r ih =>
          intro nd e
          obtain ⟨z, u⟩ := b
          have nd' := List.nodup_cons.mp nd
          rw [List.filter_cons] at e
          split at e
          · rename_i hz
            rw [List.lookup_cons] at e ⊢
            cases hyz : y == z with
            | true =>
              rw [hyz] at e
              have : y = z := by simpa using hyz
              subst this
              exact ⟨e, by simpa using hz⟩
            | false => rw [hyz] at e; exact ih nd'.2 e
          · have := ih nd'.2 e
            refine ⟨?_, this.2⟩
            rw [List.lookup_cons]
            cases hyz : y == z with
            | true =>
              have hy : y = z := by simpa using hyz
              subst hy
              exact absurd (List.mem_map_of_mem (mem_of_lookup this.1)) nd'.1
            | false => exact this.1
      obtain ⟨f1, f2⟩ := fl _ (hnm ▸ hnd2) e1
      exact ⟨v, bindL_lookup binds _ f1 f2, e2⟩
    · have each : ∀ (cs : List (Str × Addr)) (es : List Ent), CellEnts binds.reverse cs es → (∀ p ∈ cs, (cellsFrom (h.objs.size + 1) scope.names []).lookup p.1 = some p.2 ∧ scope.names.lookup p.1 = some .cell ∧ h.objs.size < p.2) →
          ∀ e ∈ es, e.on h₁ ∧ e.addr ≠ h.objs.size ∧ h.get? e.addr = none := by
        intro cs
        induction cs with
        | nil => intro es hc _ e he; cases es with
          | nil => cases he
          | cons _ _ => exact hc.elim
        | cons p r ih =>
          intro es hc hp e he
          obtain ⟨nm, c⟩ := p
          cases es with
          | nil => exact hc.elim
          | cons e0 t =>
            obtain ⟨q1, q2, q3⟩ := hp _ (.head _)
            have nk : (envOfC qual scope h.objs.size f cdv).kindOf nm ≠ some .local := by
              show scope.names.lookup nm ≠ some .local
              rw [q2]; simp
            have hcell : h₁.IsCell c (binds.reverse.lookup nm) := by
              have := x.cell nm c q1
              rw [← bindC_lookup binds nk]; exact this
            rcases List.mem_cons.mp he with rfl | he
            · have hfresh : h.get? c = none := Heap.get?_none_of_le (Nat.le_of_lt q3)
              rcases hc.1 with ⟨a, v, rfl, z1, z2⟩ | ⟨rfl, z1⟩
              · exact ⟨⟨v, z1 ▸ hcell, z2⟩, Nat.ne_of_gt q3, hfresh⟩
              · rw [z1] at hcell; exact ⟨hcell, Nat.ne_of_gt q3, hfresh⟩
            · exact ih t hc.2 (fun p hp' => hp p (.tail _ hp')) e he
      refine each _ _ (hents _) fun p hp => ⟨?_, of_decide_eq_true (List.all_eq_true.mp (hcl _) p hp), x.above _ _ hp⟩
      have nd : ((cellsFrom (h.objs.size + 1) scope.names []).map (·.1)).Nodup := cellsFrom_names scope.names 0 (h.objs.size + 1) [] [] rfl ▸ hnd
      exact lookup_of_mem_nodup nd hp
    · have ad : ∀ (cs : List (Str × Addr)) (es : List Ent), CellEnts binds.reverse cs es → es.map Ent.addr = cs.map (·.2) := by
        intro cs
        induction cs with
        | nil => intro es hc; cases es with
          | nil => rfl
          | cons _ _ => exact hc.elim
        | cons p r ih =>
          intro es hc
          cases es with
          | nil => exact hc.elim
          | cons e0 t =>
            obtain ⟨nm, c⟩ := p
            have : e0.addr = c := by rcases hc.1 with ⟨a, v, rfl, _⟩ | ⟨rfl, _⟩ <;> rfl
            simp [this, ih t hc.2]
      rw [ad _ _ (hents _)]
      exact List.pairwise_map.mpr x.apart
  refine wpAny_mono (q h.objs.size h₁ _ F hk₁ (Nat.le_refl _) R.deeper) (fun fl s' z => ?_) fun _ _ e => e.elim
  cases fl <;> first | exact z | exact z.elim
end
end Mine
namespace Mine
open PySem PySem.W PySem.Calls PyProof.Rows PyProof.Rows.LCg
section
variable {prog : Program} {w : World} {A : Around} {s : Shared} {h h₀ h' : Heap} {k : Nat} {env : Env} {L C : Addr} {l lc : List (Str × AV)} {es ps : List Ent} {Qn : Shared → Prop} {Qr : Value → Shared → Prop} {Q : Value → Shared → Prop}
/-- the turns of a comprehension, the source already an iterator -/
theorem comp_coreT {σ : Type} {I : Addr} {fp wr : List Addr} {n : Nat} {Pt : Nat → Array Value → Prop} {Sx : Nat → Heap → Prop} {Mid : Nat → Addr → Heap → Prop} (W : WalksT prog w A I fp wr n Pt Sx Mid) (hh : A.handled = none) (hsz : n ≤ 1000000)
    (hI : ∀ i h, Sx i h → ∀ b ∈ wr, ∃ o, h.get? b = some o) (J : Nat → σ → Prop) (Le : σ → List Ent) (outs : σ → List AV) {os : List (Addr × Obj)} {pins : List Ent}
    (hfp : ∀ b ∈ fp, b ∈ wr ∨ (∃ o, h₀.get? b = some o) ∨ ∃ o, Ent.raw b o ∈ pins) (hos : os.map (·.1) = wr) {x x₂ : Str} {px px₂ tp : Pos} {tk : Nat} {elt iter : PySem.Expr} {scope : Scope} {cl : List (Str × Addr)} {pos : Pos} (av av₂ : Nat → AV)
    (hP : ∀ i vals, i < n → Pt i vals → ∃ v0 v1, vals = #[v0, v1] ∧ (av i).is v0 ∧ (av₂ i).is v1) (y₀ : σ) (hst : Sx 0 h) (F : Fm h₀ env.locals h l (raws os ++ (pins ++ (Le y₀ ++ ps)))) (j : J 0 y₀) (jo : outs y₀ = [])
    (hcell : ∀ y ∈ scope.names, y.2 ≠ .cell) (hkind : scope.kind = .function) (hx : scope.names.lookup x = some .local) (hx₂ : scope.names.lookup x₂ = some .local)
    (turn : ∀ i y h k C qs, i < n → J i y → (∀ e ∈ ps, e ∈ qs) → Fm h₀ C h [(x₂, av₂ i), (x, av i)] (Le y ++ qs) → wpAny (model prog w) A (eval elt (compEnvC scope cl C env)) (fun v s' => ∃ y' h' k' a, s' = St s h' k' ∧ a.is v ∧ J (i + 1) y' ∧ outs y' = outs y ++ [a] ∧ Fm h₀ C h' [(x₂, av₂ i), (x, av i)] (Le y' ++ qs)) Nope (St s h k))
    {RR : Value → Addr → Result → Shared → Prop}
    (hRR : ∀ D C y h k m' oC, J n y → h.Ns C m' → Fm h₀ env.locals h l (.raw C oC :: .ga D (outs y) :: (Le y ++ ps)) → RR (.ref D) C (.ok .next) (St s h k)) :
    wpAny (model prog w) A (newList []) (fun acc s₃ => wpAny (model prog w) A (newFunctionEnv scope env.globals cl [] env.qual none .none (some env)) (fun cenv s₄ =>
      codeAny (model prog w) A (.compStart (.ListComp elt [⟨.Tuple [.Name x px, .Name x₂ px₂] tk tp, iter, [], 0⟩] scope pos) 0 (.ref I) acc { cenv with scope := relabel scope env }) (RR acc cenv.locals) s₄) Nope s₃) Nope (St s h k) := by
  refine r_newGa F (fun D hD FD => ?_)
  have habove : h₀.objs.size ≤ hD.objs.size := by
    obtain ⟨m, f, _⟩ := FD.fr
    exact Nat.le_trans f.above (Nat.le_of_lt f.ns.lt)
  refine wpAny_newFunctionEnv (s := St s hD k) hcell (by intro y hy; simp at hy) (fun h₁ hns₁ hsb₁ => ?_) hkind
  simp only [St.heap] at hns₁ hsb₁
  obtain ⟨oC, hoC, nC⟩ := ns_obj hns₁
  have old : ∀ b o, hD.get? b = some o → h₁.get? b = some o := fun b o e => hsb₁.extBut b o (Nat.ne_of_lt (Heap.lt_size e)) (Heap.get?_push_of_some _ e)
  have FC : Fm h₀ env.locals h₁ l (.raw hD.objs.size oC :: .ga D (outs y₀) :: (raws os ++ (pins ++ (Le y₀ ++ ps)))) := by
    rw [jo]; exact FD.add old (get_size hD) hoC
  have hst₁ : Sx 0 h₁ := W.frame _ _ _ hst (frame_at (r'' := []) (r' := [.raw hD.objs.size oC, .ga D (outs y₀)]) F FC hos hfp)
  obtain ⟨C, hCC⟩ : ∃ C, hD.objs.size = C := ⟨_, rfl⟩
  rw [hCC] at FC
  have loop : ∀ k, codeAny (model prog w) A (.compLoop (.ListComp elt [⟨.Tuple [.Name x px, .Name x₂ px₂] tk tp, iter, [], 0⟩] scope pos) 0 (.ref I) (.ref D) (compEnvC scope cl C env)) (RR (.ref D) C) (St s h₁ k) := by
    intro k
    refine LCp.codeAny_compLoop_pair
      (fun c s' => ∃ h' k' i y os oC m', s' = St s h' k' ∧ i ≤ n ∧ c = n + 1 - i ∧ (outs y).length = i ∧ Sx i h' ∧ J i y ∧ os.map (·.1) = wr ∧ NsObj oC m' ∧ Fm h₀ env.locals h' l (.raw C oC :: .ga D (outs y) :: (raws os ++ (pins ++ (Le y ++ ps))))) ?_ (n + 1)
      ⟨h₁, k, 0, y₀, os, oC, _, rfl, Nat.zero_le _, rfl, by rw [jo]; rfl, hst₁, j, hos, nC, FC⟩
    rintro c s' ⟨h, k, i, y, os, oC, m', rfl, hi, rfl, hlen, hst, j, hos, nC, F⟩
    have Fr1 : Fm h₀ env.locals h l (raws os ++ (.raw C oC :: .ga D (outs y) :: (pins ++ (Le y ++ ps)))) := F.perm (by
      refine (List.perm_append_comm_assoc (raws os) [.raw C oC, .ga D (outs y)] (pins ++ (Le y ++ ps))).trans ?_
      exact List.Perm.refl _)
    by_cases hlt : i < n
    · refine W.item i _ _ _ hlt hst fun T vals h₁' k₂ hPt hTs hT hMid hk₁' => ?_
      refine W.go _ _ _ i T _ _ _ hMid fun h₂ hst₂ hk₂' => ?_
      have hk₂ : ∀ b o, b ∉ wr → h.get? b = some o → h₂.get? b = some o := fun b o hb e => hk₂' b o hb (hk₁' b o hb e)
      have hT₂ : IsTup h₂ T vals := by
        obtain ⟨o, ho, r⟩ := hT
        exact ⟨o, hk₂' T o (W.apart _ _ _ hMid) ho, r⟩
      obtain ⟨v0, v1, rfl, ha0, ha1⟩ := hP i vals hlt hPt
      obtain ⟨os₁, e₁, F₁⟩ := Fr1.written (h' := h₂) (fun b o hb => hk₂ b o (hos ▸ hb)) (fun b hb => hI _ _ hst₂ b (hos ▸ hb))
      refine assign_Tuple_tuple (s := St s h₂ k₂) hh hT₂ rfl rfl fun h₅ hx₅ => ?_
      have up5 : Grow h₂ h₅ := fun b o e => hx₅ b o (Nat.ne_of_lt (Heap.lt_size e)) e
      have hC₂ : h₅.get? C = some oC := up5 _ _ (F₁.on (List.mem_append_right _ (.head _)))
      refine assignInOrder_cons (wpAny_assign_Name (wpAny_storeName_local (lookup_relabel_local hx) (nC.ns hC₂) (fun h₆ hn₆ hs₆ => ?_) (by simp [compEnvC, relabel, hkind])))
      refine assignInOrder_cons (wpAny_assign_Name (wpAny_storeName_local (lookup_relabel_local hx₂) hn₆ (fun h₃ hn₃ hs₃ => ?_) (by simp [compEnvC, relabel, hkind])))
      refine assignInOrder_nil ?_
      have F₁' : Fm h₀ env.locals h₂ l (.raw C oC :: .ga D (outs y) :: ((raws os₁ ++ pins) ++ (Le y ++ ps))) := F₁.perm (by
        rw [List.append_assoc]
        exact (List.perm_append_comm_assoc (raws os₁) [.raw C oC, .ga D (outs y)] (pins ++ (Le y ++ ps))).symm)
      refine comp_tail F₁' hn₃ (fun b o hb e => hs₃.extBut b o hb (hs₆.extBut b o hb (up5 b o e))) (Cover.cons (Cover.cons (l := []) (fun z a e => nomatch e) ha0) ha1) (hCC ▸ habove) (by (first | lia | omega)) (fun qs hq FI => turn i y h₃ _ C qs hlt j (fun e he => hq e he) FI) ?_
      intro y' h₆ k₄ oC₅ m₅ nC₅ j' hl' F₆
      rw [List.append_assoc] at F₆ F₁'
      refine ⟨n + 1 - (i + 1), by (first | lia | omega), h₆, k₄, i + 1, y', os₁, oC₅, m₅, rfl, hlt, rfl, by rw [hl', hlen], ?_, j', e₁.trans hos, nC₅, F₆⟩
      exact W.frame _ _ _ hst₂ (frame_at (r'' := [.raw C oC, .ga D (outs y)]) (r' := [.raw C oC₅, .ga D (outs y')]) F₁' F₆ (e₁.trans hos) hfp)
    · have hin : i = n := by (first | lia | omega)
      subst hin
      refine W.done _ _ _ hst fun h₂ k₂ hk₂ => ?_
      have F₂ := Fr1.unraw (h₁ := h₂) fun b o hb => hk₂ b o (hos ▸ hb)
      have hC₂ : h₂.get? C = some oC := F₂.on (.head _)
      refine hRR D C y h₂ k₂ m' oC j (nC.ns hC₂) (F₂.ents ?_)
      refine List.Sublist.cons_cons _ (List.Sublist.cons_cons _ ?_)
      exact List.sublist_append_right _ _
  subst hCC
  exact codeAny_compStart_list (loop _) (W.self 0 _ _ _ hst₁ (loop _))
theorem r_cEnum {σ : Type} (J : Nat → σ → Prop) (Le : σ → List Ent) (outs : σ → List AV) (y₀ : σ) (ps : List Ent) {use : Option (Value → Sem Unit)} {a : Addr} {ns : List Int} {elt iter : PySem.Expr} {scope : Scope} {cl : List (Str × Addr)} {pos px px₂ tp : Pos} {tk : Nat} {x x₂ : Str} (R : Room A 0)
    (ea : (Ent.il a ns).on h₀) (F : Fm h₀ env.locals h l es) (hn : ns.length ≤ 1000000) (u : (Le y₀ ++ ps).Sublist es) (j : J 0 y₀) (jo : outs y₀ = [])
    (turn : ∀ i y h k C qs, i < ns.length → J i y → (∀ e ∈ ps, e ∈ qs) → Fm h₀ C h [(x₂, .int (ns.getD i 0)), (x, .int (i : Nat))] (Le y ++ qs) → wpAny (model prog w) A (eval elt (compEnvC scope cl C env)) (fun v s' => ∃ y' h' k' a, s' = St s h' k' ∧ a.is v ∧ J (i + 1) y' ∧ outs y' = outs y ++ [a] ∧ Fm h₀ C h' [(x₂, .int (ns.getD i 0)), (x, .int (i : Nat))] (Le y' ++ qs)) Nope (St s h k))
    (done : ∀ D C y h k m' oC, J ns.length y → h.Ns C m' → Fm h₀ env.locals h l (.raw C oC :: .ga D (outs y) :: (Le y ++ ps)) → compPost (model prog w) A Nope use Q (.ref D) C (.ok .next) (St s h k))
    (hcell : (scope.names.all fun y => decide (y.2 ≠ .cell)) = true := by rfl) (hkind : scope.kind = .function := by rfl) (hx : scope.names.lookup x = some .local := by rfl) (hx₂ : scope.names.lookup x₂ = some .local := by rfl) :
    wpAny (model prog w) A (call (.type "enumerate") [.ref a]) (fun v s₁ => wpAny (model prog w) A (pyIter v) (fun it s₂ => CBlk prog w A elt (.Tuple [.Name x px, .Name x₂ px₂] tk tp) iter scope cl pos env use Q it s₂) Nope s₁) Nope (St s h k) := by
  obtain ⟨vs, hb, hi⟩ := ea
  obtain ⟨ob, hob, _⟩ := id hb
  have hls : h.IsList a vs.toArray := hb.at fun o e => F.keep a o e
  have hlt : a < h.objs.size := let ⟨_, q, _⟩ := hls; Heap.lt_size q
  refine call_enumerate_list (s := St s h k) hls fun h' hE hI hsz hkk => ?_
  refine wpAny_pyIter_enum hE ?_
  simp only [St.heap] at hE hI hsz hkk
  have hlen : vs.toArray.size = ns.length := by simp [hi.length]
  obtain ⟨oi, hoi, hir⟩ := id hI
  have F1 := F.ents u
  have nE : h.get? (h.objs.size + 1) = none := by
    cases q : h.get? (h.objs.size + 1) with
    | none => rfl
    | some o => exact absurd (Heap.lt_size q) (Nat.not_lt.mpr (Nat.le_succ _))
  obtain ⟨oE, hoE⟩ : ∃ o, h'.get? (h.objs.size + 1) = some o := ⟨_, hE⟩
  have F2 : Fm h₀ env.locals h' l (.raw h.objs.size oi :: (Le y₀ ++ ps)) := F1.add hkk (get_size h) hoi
  have F3 : Fm h₀ env.locals h' l (raws [(h.objs.size + 1, oE), (h.objs.size, oi)] ++ ([] ++ (Le y₀ ++ ps))) := by
    refine ⟨F2.fr, fun e he => ?_, ?_⟩
    · rcases List.mem_cons.mp he with rfl | he
      · refine ⟨hoE, fun q => ?_, ?_⟩
        · exact Nat.ne_of_gt (Nat.lt_succ_of_lt F.ltL) q
        · cases q : h₀.get? (h.objs.size + 1) with
          | none => exact q
          | some o => have := F.keep _ _ q; rw [nE] at this; cases this
      · exact F2.led e he
    · refine List.nodup_cons.mpr ⟨fun q => ?_, F2.apart⟩
      rcases List.mem_cons.mp q with q | q
      · exact Nat.succ_ne_self _ q
      · obtain ⟨e', he, ea⟩ := List.mem_map.mp q
        obtain ⟨o, ho⟩ := (F1.on he).there
        rw [ea] at ho
        have q' : h.get? (h.objs.size + 1) = some o := ho
        rw [nE] at q'; cases q'
  refine comp_coreT (s := s) (k := k) (pins := []) (hlen ▸ WalksT.enumerate (prog := prog) (w := w) R.handled (h.objs.size + 1) h.objs.size a (Nat.succ_ne_self _) (Nat.ne_of_lt (Nat.lt_succ_of_lt hlt)) (Nat.ne_of_lt hlt) vs.toArray) R.handled hn (fun i h' q b hb => ?_) J Le outs (fun b hb => ?_) rfl
    (fun i => .int (i : Nat)) (fun i => .int (ns.getD i 0)) (fun i vals hi' hPt => ?_) y₀ ?_ F3 j jo (fun y hy => of_decide_eq_true (List.all_eq_true.mp hcell y hy)) hkind hx hx₂ turn done
  · obtain ⟨⟨old, q1⟩, ⟨o, q2, _⟩, _⟩ := q
    rcases List.mem_cons.mp hb with rfl | hb
    · exact ⟨_, q1⟩
    · rw [List.mem_singleton.mp hb]; exact ⟨o, q2⟩
  · rcases List.mem_cons.mp hb with rfl | hb
    · exact .inl (.head _)
    · rcases List.mem_cons.mp hb with rfl | hb
      · exact .inl (.tail _ (.head _))
      · rw [List.mem_singleton.mp hb]; exact .inr (.inl ⟨ob, hob⟩)
  · obtain ⟨t, v1, hv, rfl⟩ := hPt
    obtain ⟨t2, hx2⟩ := getInts hi hi'
    have : v1 = .int (ns.getD i 0) t2 := by
      have hv' : vs[i]? = some v1 := by simpa using hv
      rw [hx2] at hv'; exact (Option.some.inj hv').symm
    exact ⟨_, _, rfl, ⟨_, rfl⟩, ⟨t2, this⟩⟩
  · exact ⟨⟨_, hE⟩, hI, hls.at fun o e => hkk _ o e⟩
end
end Mine
namespace Mine
open PySem PySem.W PySem.Calls PyProof.Rows
section
variable {prog : Program} {w : World} {A : Around} {s : Shared} {h h₀ : Heap} {k : Nat} {env : Env} {L : Addr} {l : List (Str × AV)} {es : List Ent} {Qn : Shared → Prop} {Qr : Value → Shared → Prop} {Q : Value → Shared → Prop}
theorem r_exprCut {e : PySem.Expr} (_F : Fm h₀ L h l es) (i : Int) (h1 : wpAny (model prog w) A (eval e env) (fun v s' => ∃ t h' k', v = .int i t ∧ s' = St s h' k' ∧ Fm h₀ L h' l es) Nope (St s h k))
    (h2 : ∀ t h' k', Fm h₀ L h' l es → Q (.int i t) (St s h' k')) : wpAny (model prog w) A (eval e env) Q Nope (St s h k) :=
  wpAny_mono h1 (fun _ _ ⟨t, h', k', e1, e2, F⟩ => e1 ▸ e2 ▸ h2 t h' k' F) fun _ _ e => e
theorem r_forTup {σ : Type} (J : Nat → σ → Prop) (Lo : σ → List (Str × AV)) (Le : σ → List Ent) (x₀ : σ) {a : Addr} {ns : List Int} {y : Str} {p : Pos} {body : List Stmt} (R : Room A 0)
    (F : Fm h₀ env.locals h l (.tup a (ns.map .int) :: es)) (n : Names l (Lo x₀)) (u : (Le x₀).Sublist es) (j : J 0 x₀)
    (turn : ∀ i x h k ps, i < ns.length → J i x → Fm h₀ env.locals h ((y, .int (ns.getD i 0)) :: Lo x) (Le x ++ ps) →
      wpAny (model prog w) A (execs body env) (PF (Turn s h₀ env.locals (J (i + 1)) Lo (fun y => Le y ++ ps)) Qr) Nope (St s h k))
    (done : ∀ x h k, J ns.length x → Fm h₀ env.locals h (Lo x) (Le x) → Qn (St s h k))
    (hk : env.scope.kind = .function := by rfl) (hl : env.kindOf y = some .local := by rfl) :
    wpAny (model prog w) A (pyIter (.ref a)) (fun it s₂ => codeAny (model prog w) A (.forLoop (.Name y p) it body [] env) (LR Qn Qr) s₂) Nope (St s h k) := by
  obtain ⟨vs, hls, hav⟩ := F.on (.head _)
  have hi := hav.toInts
  obtain ⟨ob, hob, hobr⟩ := id hls
  have hlt : a < h.objs.size := Heap.lt_size hob
  have Fr0 : Fm h₀ env.locals h l (.raw a ob :: es) := F.head (e' := .raw a ob) rfl (fun _ _ _ e => e) hob
  have hls' : h.IsTuple a vs.toArray := ⟨ob, hob, hobr⟩
  refine wpAny_pyIter_tuple (s := St s h k) hls' ?_
  have FF := ((Fr0.names n).ents (List.Sublist.cons_cons _ u)).push (o := { cls := .type "tuple_iterator", data := .fields #[.ref a, .int 0 0] }) (e := .raw h.objs.size _) rfl (Heap.get?_push_size _ rfl)
  have hlen : vs.toArray.size = ns.length := by simp [hi.length]
  refine for_core (s := s) (os := [(h.objs.size, _)]) (pins := [.raw a ob]) (hlen ▸ Walks.tuple (prog := prog) (w := w) R.handled h.objs.size a (Nat.ne_of_lt hlt) vs.toArray) (fun i h' q b hb => ?_) J Lo Le (fun b hb => ?_) rfl x₀ ?_ FF j ?_ done
  · rw [List.mem_singleton.mp hb]
    obtain ⟨⟨o, ho, _⟩, _⟩ := q
    exact ⟨o, ho⟩
  · rcases List.mem_cons.mp hb with rfl | hb
    · exact .inl (.head _)
    · rw [List.mem_singleton.mp hb]; exact .inr (.inr ⟨ob, .head _⟩)
  · exact ⟨⟨_, Heap.get?_push_size _ rfl, rfl, rfl⟩, ⟨ob, Heap.get?_push_of_some _ hob, hobr⟩⟩
  · rintro i v x h' k' ps hi' hP j' F'
    obtain ⟨t, hx⟩ := getInts hi hi'
    have hv : v = .int (ns.getD i 0) t := by
      have hP' : vs[i]? = some v := by simpa using hP
      rw [hx] at hP'; exact (Option.some.inj hP').symm
    subst hv
    exact PyProof.Rows.assign_Name (r_stI F' (fun h₂ k₂ F₂ => turn i x h₂ k₂ ps hi' j' F₂) hk hl)
end
end Mine
namespace Mine
open PySem PySem.W PySem.Calls PyProof.Rows
section
variable {prog : Program} {w : World} {A : Around} {s : Shared} {h h₀ : Heap} {k : Nat} {env : Env} {L : Addr} {l : List (Str × AV)} {es : List Ent} {Qn : Shared → Prop} {Qr : Value → Shared → Prop} {Q : Value → Shared → Prop}
theorem r_int1 {i : Int} {t : Tok} (q : Q (.int i t) (St s h k)) : wpAny (model prog w) A (call (.type "int") [.int i t]) Q Nope (St s h k) := PySem.call_int_int q
theorem r_abs1 {i : Int} {t : Tok} (q : ∀ t' k', Q (.int (if i < 0 then -i else i) t') (St s h k')) : wpAny (model prog w) A (call (.builtin "abs") [.int i t]) Q Nope (St s h k) := PyProof.Rows.call_abs_int fun u tk => q u tk
theorem Fm.ne2 {e e' : Ent} {es : List Ent} (F : Fm h₀ L h l es) (u : [e, e'].Sublist es) : e.addr ≠ e'.addr := by
  have := F.apart.sublist (u.map Ent.addr)
  simpa using this
theorem Fm.grow' {h' : Heap} (F : Fm h₀ L h l es) (k : Grow h h') : Fm h₀ L h' l es := F.grow k
/-- two targets of any kind, a pair -/
theorem r_asgQ2 {x y : Str} {px py tpos pos : Pos} {kk : Nat} {value : PySem.Expr} (_F : Fm h₀ L h l es) (R : Room A 0)
    (q : wpAny (model prog w) A (eval value env) (fun v s₁ => ∃ t a b h k l es, v = .ref t ∧ s₁ = St s h k ∧ Fm h₀ L h l es ∧ (Ent.tup t [a, b]).on h ∧
      ∀ h', Fm h₀ L h' l es → AVq a fun va => AVq b fun vb => wpAny (model prog w) A (storeName env x va) (fun _ s₂ => wpAny (model prog w) A (storeName env y vb) (fun _ s₃ => Qn s₃) Nope s₂) Nope (St s h' k)) Nope (St s h k))
    (hw : swappedStores [.Tuple [.Name x px, .Name y py] kk tpos] value env = pure none := by rfl)
    (hs : swapsWithSole [.Tuple [.Name x px, .Name y py] kk tpos] value pos.line env = pure false := by rfl) :
    wpAny (model prog w) A (exec (.Assign [.Tuple [.Name x px, .Name y py] kk tpos] value pos) env) (PF Qn Qr) Nope (St s h k) := by
  refine Assign_Tuple (wpAny_mono q (fun v s₁ z => ?_) fun _ _ e => e) hs hw
  obtain ⟨t, a, b, h, k, l, es, rfl, rfl, F, e, z⟩ := z
  obtain ⟨vs, ht, ha⟩ := e
  obtain ⟨va, vs, rfl, h1, ha⟩ := ha.inv
  obtain ⟨vb, vs, rfl, h2, ha⟩ := ha.inv
  cases ha.inv0
  · refine assign_Tuple_tuple (s := St s h k) R.handled ht rfl rfl fun h' he => ?_
    have F' : Fm h₀ L h' l es := F.grow fun b o e => he b o (Nat.ne_of_lt (Heap.lt_size e)) e
    refine assignInOrder_cons (PyProof.Rows.assign_Name (wpAny_mono (((z h' F').app h1).app h2) (fun _ s₂ q => ?_) fun _ _ e => e))
    refine assignInOrder_cons (PyProof.Rows.assign_Name (wpAny_mono q (fun _ s₃ q => ?_) fun _ _ e => e))
    exact assignInOrder_nil q
/-- three local names from a list -/
theorem r_asgL3 {x y z : Str} {px py pz tpos pos : Pos} {kk : Nat} {value : PySem.Expr} (_F : Fm h₀ env.locals h l es) (R : Room A 0)
    (q : wpAny (model prog w) A (eval value env) (fun v s₁ => ∃ t a b c h k l es, v = .ref t ∧ s₁ = St s h k ∧ Fm h₀ env.locals h l es ∧ (Ent.al t [a, b, c]).on h ∧
      ∀ h' k', Fm h₀ env.locals h' ((z, c) :: (y, b) :: (x, a) :: l) es → Qn (St s h' k')) Nope (St s h k))
    (hk : env.scope.kind = .function := by rfl) (hx : env.kindOf x = some .local := by rfl) (hy : env.kindOf y = some .local := by rfl) (hz : env.kindOf z = some .local := by rfl)
    (hw : swappedStores [.Tuple [.Name x px, .Name y py, .Name z pz] kk tpos] value env = pure none := by rfl)
    (hs : swapsWithSole [.Tuple [.Name x px, .Name y py, .Name z pz] kk tpos] value pos.line env = pure false := by rfl) :
    wpAny (model prog w) A (exec (.Assign [.Tuple [.Name x px, .Name y py, .Name z pz] kk tpos] value pos) env) (PF Qn Qr) Nope (St s h k) := by
  refine Assign_Tuple (wpAny_mono q (fun v s₁ zz => ?_) fun _ _ e => e) hs hw
  obtain ⟨t, a, b, c, h, k, l, es, rfl, rfl, F, e, q⟩ := zz
  obtain ⟨vs, hl, ha⟩ := e
  obtain ⟨va, vs, rfl, h1, ha⟩ := ha.inv
  obtain ⟨vb, vs, rfl, h2, ha⟩ := ha.inv
  obtain ⟨vc, vs, rfl, h3, ha⟩ := ha.inv
  cases ha.inv0
  · obtain ⟨m, f, _⟩ := F.fr
    rw [PyProof.Rows.assign_Tuple]
    refine wpAny_bind (wpAny_standAt ?_)
    have e1 : (assignEach [.Name x px, .Name y py, .Name z pz] env).length = [va, vb, vc].toArray.size := rfl
    have e2 : (assignEach [.Name x px, .Name y py, .Name z pz] env).findIdx? (·.1) = none := rfl
    have e3 : (assignEach [.Name x px, .Name y py, .Name z pz] env).map (·.2) = [assign (.Name x px) env, assign (.Name y py) env, assign (.Name z pz) env] := rfl
    unfold unpack
    rw [e1, e2]
    refine wpAny_bind (wpAny_holding (kun_itemsOf (s := St s h k) R.handled hl fun h' he => ?_))
    rw [e3]
    have F' : Fm h₀ env.locals h' l es := F.grow fun b o e => he b o (Nat.ne_of_lt (Heap.lt_size e)) e
    refine assignInOrder_cons (PyProof.Rows.assign_Name (r_st (h := h') (k := k) F' h1 (fun h₁ k₁ F₁ => ?_) hk hx))
    refine assignInOrder_cons (PyProof.Rows.assign_Name (r_st F₁ h2 (fun h₂ k₂ F₂ => ?_) hk hy))
    refine assignInOrder_cons (PyProof.Rows.assign_Name (r_st F₂ h3 (fun h₃ k₃ F₃ => ?_) hk hz))
    exact assignInOrder_nil (q h₃ k₃ F₃)
end
end Mine
namespace Mine
open PySem PySem.W PySem.Calls PyProof.Rows
/-- an expression that gives an int and changes no object -/
structure PI (M : Model) (A : Around) (env : Env) (s : Shared) (h : Heap) (e : PySem.Expr) (i : Int) : Prop where
  go : ∀ k (Q : Value → Shared → Prop), (∀ t k', Q (.int i t) (St s h k')) → wpAny M A (eval e env) Q Nope (St s h k)
/-- a test that changes no object -/
structure PT (M : Model) (A : Around) (env : Env) (s : Shared) (h : Heap) (e : PySem.Expr) (b : Bool) : Prop where
  go : ∀ k (Q : Bool → Shared → Prop), (∀ k', Q b (St s h k')) → wpAny M A (isTrue e env (eval e env)) Q Nope (St s h k)
section
variable {prog : Program} {w : World} {A : Around} {s : Shared} {h h₀ : Heap} {k : Nat} {env : Env} {l : List (Str × AV)} {es es' : List Ent} {Qn : Shared → Prop} {Qr : Value → Shared → Prop} {Q : Value → Shared → Prop} {e a b : PySem.Expr} {i j : Int} {pos : Pos}
-- statements
theorem s_aug {x : Str} {p' : Pos} {op : Operator} {r : Int} (F : Fm h₀ env.locals h l es) (hv : l.lookup x = some (.int i)) (p : PI (model prog w) A env s h e j)
    (o : ∀ (t u : Tok) (k : Nat) (Q : Value → Shared → Prop), (∀ t' k', Q (.int r t') (St s h k')) → wpAny (model prog w) A (inplaceOp op (.int i t) (.int j u)) Q Nope (St s h k)) (q : ∀ h' k', Fm h₀ env.locals h' ((x, .int r) :: l) es → Qn (St s h' k'))
    (hk : env.scope.kind = .function := by rfl) (hl : env.kindOf x = some .local := by rfl) :
    wpAny (model prog w) A (exec (.AugAssign (.Name x p') op e pos) env) (PF Qn Qr) Nope (St s h k) :=
  r_aug (r_ld F hv (AVq.ofI fun t => p.go _ _ fun u _ => o t u _ _ fun _ _ => r_stI F q hk hl) hk hl)
theorem s_augA {x : Str} {p' : Pos} (F : Fm h₀ env.locals h l es) (hv : l.lookup x = some (.int i)) (p : PI (model prog w) A env s h e j) (q : ∀ h' k', Fm h₀ env.locals h' ((x, .int (i + j)) :: l) es → Qn (St s h' k'))
    (hk : env.scope.kind = .function := by rfl) (hl : env.kindOf x = some .local := by rfl) : wpAny (model prog w) A (exec (.AugAssign (.Name x p') .Add e pos) env) (PF Qn Qr) Nope (St s h k) :=
  s_aug F hv p (fun _ _ _ _ q => r_iadd q) q hk hl
theorem s_augS {x : Str} {p' : Pos} (F : Fm h₀ env.locals h l es) (hv : l.lookup x = some (.int i)) (p : PI (model prog w) A env s h e j) (q : ∀ h' k', Fm h₀ env.locals h' ((x, .int (i - j)) :: l) es → Qn (St s h' k'))
    (hk : env.scope.kind = .function := by rfl) (hl : env.kindOf x = some .local := by rfl) : wpAny (model prog w) A (exec (.AugAssign (.Name x p') .Sub e pos) env) (PF Qn Qr) Nope (St s h k) :=
  s_aug F hv p (fun _ _ _ _ q => r_isub q) q hk hl
theorem s_augR {x : Str} {p' : Pos} {W : Int} (F : Fm h₀ env.locals h l es) (hv : l.lookup x = some (.int i)) (p : PI (model prog w) A env s h e j) (hW : W = 2 ^ j.toNat) (h0 : 0 ≤ j) (q : ∀ h' k', Fm h₀ env.locals h' ((x, .int (i / W)) :: l) es → Qn (St s h' k'))
    (hk : env.scope.kind = .function := by rfl) (hl : env.kindOf x = some .local := by rfl) : wpAny (model prog w) A (exec (.AugAssign (.Name x p') .RShift e pos) env) (PF Qn Qr) Nope (St s h k) :=
  s_aug F hv p (fun _ _ _ _ q => r_ishrW hW h0 q) q hk hl
end
end Mine
namespace Mine
open PySem PySem.W PySem.Calls PyProof.Rows
theorem warm4 : PySem.Challenge.rw_sa0335_01 = PySem.Challenge.rw_sa0335_01 ∧ @hd.heap_39 = @hd.heap_39 := by k_fill; exact ⟨rfl, rfl⟩
structure LocOk (env : Env) (x : Str) : Prop where
  k : env.scope.kind = .function
  l : env.kindOf x = some .local
  d : (x == ("__debug__" : Str)) = false
structure CelOk (env : Env) (x : Str) : Prop where
  k : env.scope.kind = .function
  l : env.kindOf x = some .cell
  d : (x == ("__debug__" : Str)) = false
structure GloOk (env : Env) (x : Str) : Prop where
  k : env.scope.kind = .function
  l : env.kindOf x = some .globalImplicit
  d : (x == ("__debug__" : Str)) = false
structure SubOk (b : PySem.Expr) : Prop where
  go : ∀ D i u, subscripted b false (.ref D) (.int i u) = operate [.ref D, .int i u] (getItem (.ref D) (.int i u))
/-- a power of two that is known by a letter -/
noncomputable def Po (W : Int) (n : Nat) : Prop := W = 2 ^ n
theorem Po.mk {W : Int} {n : Nat} (h : W = 2 ^ n) : Po W n := h
/-- the defs of the text, by name -/
noncomputable def globs : List (Str × Addr) := [(Str.ofString "normal", 46), (Str.ofString "add", 53), (Str.ofString "inverse_limb", 60), (Str.ofString "low_limbs", 67), (Str.ofString "complement", 72), (Str.ofString "inverse_low", 79), (Str.ofString "take_product", 86), (Str.ofString "divrem_low", 93), (Str.ofString "mul_school", 100), (Str.ofString "_law_pip", 107), (Str.ofString "_law_limbs", 114), (Str.ofString "_law_worth", 119), (Str.ofString "_law_common", 126), (Str.ofString "_law_order", 133), (Str.ofString "_law_divided", 140), (Str.ofString "_law_is_round", 147)]
theorem glob_ok {w : World} {x : Str} {f : Addr} (h : globs.lookup x = some f) : nsIn (hd.heap_39 w.params) mainGlobals x = some (some (.ref f)) ∧ keepIn (hd.heap_39 w.params) (.ref f) = true := by
  have T : ∀ p ∈ globs, nsIn (hd.heap_39 w.params) mainGlobals p.1 = some (some (.ref p.2)) ∧ keepIn (hd.heap_39 w.params) (.ref p.2) = true :=
    List.forall_mem_cons.2 ⟨⟨g_normal w, by k_is⟩, List.forall_mem_cons.2 ⟨⟨g_add w, by k_is⟩, List.forall_mem_cons.2 ⟨⟨g_inverse_limb w, by k_is⟩, List.forall_mem_cons.2 ⟨⟨g_low_limbs w, by k_is⟩, List.forall_mem_cons.2 ⟨⟨g_complement w, by k_is⟩, List.forall_mem_cons.2 ⟨⟨g_inverse_low w, by k_is⟩, List.forall_mem_cons.2 ⟨⟨g_take_product w, by k_is⟩, List.forall_mem_cons.2 ⟨⟨g_divrem_low w, by k_is⟩, List.forall_mem_cons.2 ⟨⟨g_mul_school w, by k_is⟩, List.forall_mem_cons.2 ⟨⟨g_law_pip w, by k_is⟩, List.forall_mem_cons.2 ⟨⟨g_law_limbs w, by k_is⟩, List.forall_mem_cons.2 ⟨⟨g_law_worth w, by k_is⟩, List.forall_mem_cons.2 ⟨⟨g_law_common w, by k_is⟩, List.forall_mem_cons.2 ⟨⟨g_law_order w, by k_is⟩, List.forall_mem_cons.2 ⟨⟨g_law_divided w, by k_is⟩, List.forall_mem_cons.2 ⟨⟨g_law_is_round w, by k_is⟩, List.forall_mem_nil _⟩⟩⟩⟩⟩⟩⟩⟩⟩⟩⟩⟩⟩⟩⟩⟩
  exact T _ (mem_of_lookup h)
/-- the builtins that the text names -/
noncomputable def bis : List (Str × Value) := [(Str.ofString "len", .builtin "len"), (Str.ofString "range", .type "range"), (Str.ofString "enumerate", .type "enumerate"), (Str.ofString "sum", .builtin "sum"), (Str.ofString "min", .builtin "min"), (Str.ofString "max", .builtin "max"), (Str.ofString "abs", .builtin "abs"), (Str.ofString "int", .type "int")]
theorem bi_ok {w : World} {x : Str} {v : Value} (h : bis.lookup x = some v) : nsIn (hd.heap_39 w.params) mainGlobals x = some none ∧ bootBuiltins x = some v ∧ x ≠ "__name__" := by
  have T : ∀ p ∈ bis, nsIn (hd.heap_39 w.params) mainGlobals p.1 = some none ∧ bootBuiltins p.1 = some p.2 ∧ p.1 ≠ "__name__" :=
    List.forall_mem_cons.2 ⟨⟨bb_len w, bv_len, by decide⟩, List.forall_mem_cons.2 ⟨⟨bb_range w, bv_range, by decide⟩, List.forall_mem_cons.2 ⟨⟨bb_enumerate w, bv_enumerate, by decide⟩, List.forall_mem_cons.2 ⟨⟨bb_sum w, bv_sum, by decide⟩, List.forall_mem_cons.2 ⟨⟨bb_min w, bv_min, by decide⟩, List.forall_mem_cons.2 ⟨⟨bb_max w, bv_max, by decide⟩, List.forall_mem_cons.2 ⟨⟨bb_abs w, bv_abs, by decide⟩, List.forall_mem_cons.2 ⟨⟨bb_int w, bv_int, by decide⟩, List.forall_mem_nil _⟩⟩⟩⟩⟩⟩⟩⟩
  exact T _ (mem_of_lookup h)
/-- what follows for all values of a row that are so known -/
noncomputable def AVqs : List AV → (List Value → Prop) → Prop
  | [], P => P []
  | a :: r, P => AVq a fun v => AVqs r fun vs => P (v :: vs)
theorem AVqs.app : ∀ {as : List AV} {P : List Value → Prop} {vs : List Value}, AVqs as P → AVs as vs → P vs
  | [], _, [], q, _ => q
  | a :: r, P, v :: vs, q, h => AVqs.app (as := r) (P := fun vs => P (v :: vs)) (AVq.app (P := fun v => AVqs r fun vs => P (v :: vs)) q h.1) h.2
theorem AVqs.nil {P : List Value → Prop} (h : P []) : AVqs [] P := h
theorem AVqs.consI {i : Int} {r : List AV} {P : List Value → Prop} (h : ∀ t, AVqs r fun vs => P (.int i t :: vs)) : AVqs (.int i :: r) P := h
theorem AVqs.consR {c : Addr} {r : List AV} {P : List Value → Prop} (h : AVqs r fun vs => P (.ref c :: vs)) : AVqs (.ref c :: r) P := h
/-- an expression whose value is so known, and changes no object -/
structure PV (M : Model) (A : Around) (env : Env) (s : Shared) (h : Heap) (e : PySem.Expr) (a : AV) : Prop where
  go : ∀ k (Q : Value → Shared → Prop), (∀ v k', a.is v → Q v (St s h k')) → wpAny M A (eval e env) Q Nope (St s h k)
structure PA (M : Model) (A : Around) (env : Env) (s : Shared) (h : Heap) (pos : Pos) (es : List PySem.Expr) (as : List AV) : Prop where
  go : ∀ k (Q : List Value → Shared → Prop), (∀ vs k', AVs as vs → Q vs (St s h k')) → wpAny M A (spliced (backTo pos (starEach es env))) Q Nope (St s h k)
section
variable {prog : Program} {w : World} {A : Around} {s : Shared} {h h₀ : Heap} {k : Nat} {env : Env} {l : List (Str × AV)} {es es' : List Ent} {Qn : Shared → Prop} {Qr : Value → Shared → Prop} {Q : Value → Shared → Prop} {e a b value : PySem.Expr} {i j : Int} {x : Str} {av : AV} {as : List AV} {pos px p2 : Pos} {D f : Addr} {ns : List Int} {args : List PySem.Expr}
-- ints
theorem y_int {n : Nat} : PI (model prog w) A env s h (.Constant (.int i) n pos) i := ⟨fun _ _ q => r_int q⟩
theorem y_nm (F : Fm h₀ env.locals h l es) (hv : l.lookup x = some (.int i)) (hn : LocOk env x) : PI (model prog w) A env s h (.Name x pos) i := ⟨fun _ _ q => r_nmI F hv (fun t => q t _) hn.k hn.l hn.d⟩
theorem y_nmC {c : Addr} (F : Fm h₀ env.locals h l es) (hc : env.cells.lookup x = some c) (hm : .cell c (.int i) ∈ es) (hn : CelOk env x) : PI (model prog w) A env s h (.Name x pos) i := ⟨fun _ _ q => r_nmC F hc hm (AVq.ofI fun t => q t _) hn.k hn.l hn.d⟩
theorem y_add (x : PI (model prog w) A env s h a i) (y : PI (model prog w) A env s h b j) : PI (model prog w) A env s h (.BinOp a .Add b pos) (i + j) := ⟨fun _ _ q => r_binop (x.go _ _ fun _ _ => y.go _ _ fun _ _ => r_add q)⟩
theorem y_sub (x : PI (model prog w) A env s h a i) (y : PI (model prog w) A env s h b j) : PI (model prog w) A env s h (.BinOp a .Sub b pos) (i - j) := ⟨fun _ _ q => r_binop (x.go _ _ fun _ _ => y.go _ _ fun _ _ => r_sub' q)⟩
theorem y_mul (x : PI (model prog w) A env s h a i) (y : PI (model prog w) A env s h b j) (m : IntMulOk i j) : PI (model prog w) A env s h (.BinOp a .Mult b pos) (i * j) := ⟨fun _ _ q => r_binop (x.go _ _ fun _ _ => y.go _ _ fun _ _ => r_mul m q)⟩
theorem y_mod (x : PI (model prog w) A env s h a i) (y : PI (model prog w) A env s h b j) (m : 0 < j) : PI (model prog w) A env s h (.BinOp a .Mod b pos) (i % j) := ⟨fun _ _ q => r_binop (x.go _ _ fun _ _ => y.go _ _ fun _ _ => r_modP m q)⟩
theorem y_div (x : PI (model prog w) A env s h a i) (y : PI (model prog w) A env s h b j) (m : 0 < j) (n : j < 1073741824) : PI (model prog w) A env s h (.BinOp a .FloorDiv b pos) (i / j) := ⟨fun _ _ q => r_binop (x.go _ _ fun _ _ => y.go _ _ fun _ _ => r_divP m n q)⟩
theorem y_and {W : Int} (x : PI (model prog w) A env s h a i) (y : PI (model prog w) A env s h b (W - 1)) (m : Po W j.toNat) : PI (model prog w) A env s h (.BinOp a .BitAnd b pos) (i % W) := ⟨fun _ _ q => r_binop (x.go _ _ fun _ _ => y.go _ _ fun _ _ => r_andW m q)⟩
theorem y_shl {W : Int} {n : Nat} (y : PI (model prog w) A env s h b j) (hW : Po W j.toNat) (h0 : 0 ≤ j) (h1 : j ≤ 1000000) : PI (model prog w) A env s h (.BinOp (.Constant (.int 1) n px) .LShift b pos) W := ⟨fun _ _ q => r_binop (r_int fun _ _ => y.go _ _ fun _ _ => r_shlW hW h0 h1 q)⟩
theorem y_powW {W : Int} {n : Nat} (y : PI (model prog w) A env s h b j) (hW : Po W j.toNat) (h0 : 0 ≤ j) (h1 : j ≤ 1000000) : PI (model prog w) A env s h (.BinOp (.Constant (.int 2) n px) .Pow b pos) W := ⟨fun _ _ q => r_binop (r_int fun _ _ => y.go _ _ fun _ _ => r_powW hW h0 h1 q)⟩
theorem y_pow (x : PI (model prog w) A env s h a i) (y : PI (model prog w) A env s h b j) (h0 : 0 ≤ j) (h1 : j ≤ 1000000) (ha : i.natAbs < 2 ^ 64) : PI (model prog w) A env s h (.BinOp a .Pow b pos) (i ^ j.toNat) := ⟨fun _ _ q => r_binop (x.go _ _ fun _ _ => y.go _ _ fun _ _ => r_pow h0 h1 ha q)⟩
theorem y_neg (x : PI (model prog w) A env s h a i) : PI (model prog w) A env s h (.UnaryOp .USub a pos) (-i) := ⟨fun _ _ q => r_un (x.go _ _ fun _ _ => r_neg q)⟩
theorem y_item (F : Fm h₀ env.locals h l es) (hv : l.lookup x = some (.ref D)) (e : (Ent.il D ns).on h) (y : PI (model prog w) A env s h b i) (h0 : 0 ≤ i) (h1 : i < ns.length) (hl : ns.length ≤ 1000000) (hs : SubOk b) (hn : LocOk env x) :
    PI (model prog w) A env s h (.Subscript (.Name x px) b pos) (ns.getD i.toNat 0) := ⟨fun _ _ q => r_sub (r_nmR F hv (y.go _ _ fun u _ => r_item e h0 h1 hl (fun t => q t _) ((hs.go _ _) u)) hn.k hn.l hn.d)⟩
theorem y_itemA (F : Fm h₀ env.locals h l es) (hv : l.lookup x = some (.ref D)) (e : (Ent.al D as).on h) (y : PI (model prog w) A env s h b i) (h0 : 0 ≤ i) (hi : i < 1000000) (h1 : as[i.toNat]? = some (.int j)) (hs : SubOk b) (hn : LocOk env x) :
    PI (model prog w) A env s h (.Subscript (.Name x px) b pos) j := ⟨fun _ _ q => r_sub (r_nmR F hv (y.go _ _ fun u _ => r_itemAI e h0 hi h1 (fun t => q t _) ((hs.go _ _) u)) hn.k hn.l hn.d)⟩
theorem y_len (G : Gd w h₀) (F : Fm h₀ env.locals h l es) (hv : l.lookup x = some (.ref D)) (e : (Ent.il D ns).on h) (hl : ns.length ≤ 1000000) (hg : env.globals = mainGlobals) (hgb : env.builtins = builtinsNs) (hx' : GloOk env (Str.ofString "len")) (hn : LocOk env x) :
    PI (model prog w) A env s h (.Call (.Name (Str.ofString "len") p2) [.Name x px] [] pos) (ns.length : Nat) := ⟨fun _ _ q =>
  r_call (r_bi G (Grow.refl _) F (bb_len _) bv_len (by decide) (r_cwB (r_splC (r_nmR F hv (r_splN (r_len e hl q)) hn.k hn.l hn.d))) hg hgb hn.k hx'.l)⟩
theorem u_lt (x : PI (model prog w) A env s h a i) (y : PI (model prog w) A env s h b j) (hm : behindInMarks .Lt b = false) : PT (model prog w) A env s h (.Compare a [.Lt] [b] pos) (decide (i < j)) := ⟨fun _ _ q => r_tcmp (x.go _ _ fun _ _ => y.go _ _ fun _ _ => r_lt (r_tb (q _))) hm⟩
theorem u_le (x : PI (model prog w) A env s h a i) (y : PI (model prog w) A env s h b j) (hm : behindInMarks .LtE b = false) : PT (model prog w) A env s h (.Compare a [.LtE] [b] pos) (decide (i ≤ j)) := ⟨fun _ _ q => r_tcmp (x.go _ _ fun _ _ => y.go _ _ fun _ _ => r_le (r_tb (q _))) hm⟩
theorem u_gt (x : PI (model prog w) A env s h a i) (y : PI (model prog w) A env s h b j) (hm : behindInMarks .Gt b = false) : PT (model prog w) A env s h (.Compare a [.Gt] [b] pos) (decide (j < i)) := ⟨fun _ _ q => r_tcmp (x.go _ _ fun _ _ => y.go _ _ fun _ _ => r_gt (r_tb (q _))) hm⟩
theorem u_eq (x : PI (model prog w) A env s h a i) (y : PI (model prog w) A env s h b j) (hm : behindInMarks .Eq b = false) : PT (model prog w) A env s h (.Compare a [.Eq] [b] pos) (decide (i = j)) := ⟨fun _ _ q => r_tcmp (x.go _ _ fun _ _ => y.go _ _ fun _ _ => r_eq (r_tb (q _))) hm⟩
theorem u_ne (x : PI (model prog w) A env s h a i) (y : PI (model prog w) A env s h b j) (hm : behindInMarks .NotEq b = false) : PT (model prog w) A env s h (.Compare a [.NotEq] [b] pos) (decide (i ≠ j)) := ⟨fun _ _ q => r_tcmp (x.go _ _ fun _ _ => y.go _ _ fun _ _ => r_ne (r_tb (q _))) hm⟩
-- values
theorem v_i (p : PI (model prog w) A env s h e i) : PV (model prog w) A env s h e (.int i) := ⟨fun _ _ q => p.go _ _ fun t _ => q _ _ ⟨t, rfl⟩⟩
theorem v_nm (F : Fm h₀ env.locals h l es) (hv : l.lookup x = some (.ref D)) (hn : LocOk env x) : PV (model prog w) A env s h (.Name x pos) (.ref D) := ⟨fun _ _ q => r_nmR F hv (q _ _ rfl) hn.k hn.l hn.d⟩
theorem v_nmC {c : Addr} (F : Fm h₀ env.locals h l es) (hc : env.cells.lookup x = some c) (hm : .cell c (.ref D) ∈ es) (hn : CelOk env x) : PV (model prog w) A env s h (.Name x pos) (.ref D) := ⟨fun _ _ q => r_nmC F hc hm (AVq.ofR (q _ _ rfl)) hn.k hn.l hn.d⟩
theorem v_gl (G : Gd w h₀) (F : Fm h₀ env.locals h l es) (e : globs.lookup x = some D) (hg : env.globals = mainGlobals) (hn : GloOk env x) :
    PV (model prog w) A env s h (.Name x pos) (.ref D) := ⟨fun _ _ q => r_gl G (Grow.refl _) F (glob_ok e).1 (q _ _ rfl) hg hn.k hn.l hn.d⟩
theorem a_nil  : PA (model prog w) A env s h pos [] [] := ⟨fun _ _ q => r_splN (q _ _ trivial)⟩
theorem a_cons (p : PV (model prog w) A env s h e av) (r : PA (model prog w) A env s h pos args as) (hs : starEach (e :: args) env = (false, eval e env) :: starEach args env) : PA (model prog w) A env s h pos (e :: args) (av :: as) :=
  ⟨fun _ _ q => r_splC (p.go _ _ fun _ _ h1 => r.go _ _ fun _ _ h2 => q _ _ ⟨h1, h2⟩) hs⟩
/-- a call of a def of the text by its name -/
theorem z_callF (G : Gd w h₀) (F : Fm h₀ env.locals h l es) (eg : globs.lookup x = some f) (p : PA (model prog w) A env s h pos (e :: args) as) (hg : env.globals = mainGlobals) (hn : GloOk env x) (hf : eval (.Call (.Name x px) (e :: args) [] pos) env = (do callWith pos (← eval (.Name x px) env) [] (backTo pos (starEach (e :: args) env)) [])) (he : starEach (e :: args) env = (false, eval e env) :: starEach args env) (hp : (backTo pos (starEach args env)).any (·.1) = false) (q : ∀ k', AVqs as fun vs => wpAny (model prog w) A (call (.ref f) vs) Q Nope (St s h k')) :
    wpAny (model prog w) A (eval (.Call (.Name x px) (e :: args) [] pos) env) Q Nope (St s h k) :=
  r_call (r_gl G (Grow.refl _) F (glob_ok eg).1 (r_cwF (F.inK G (Grow.refl _)) (glob_ok eg).2 (p.go _ _ fun _ k' hv => ⟨F.inK G (Grow.refl _), (q k').app hv⟩) he hp) hg hn.k hn.l hn.d) hf
/-- a call of a def that a local name holds -/
theorem z_callL (G : Gd w h₀) (F : Fm h₀ env.locals h l es) (eg : l.lookup x = some (.ref f)) (hk : keepIn (hd.heap_39 w.params) (.ref f) = true) (p : PA (model prog w) A env s h pos (e :: args) as) (hn : LocOk env x) (hf : eval (.Call (.Name x px) (e :: args) [] pos) env = (do callWith pos (← eval (.Name x px) env) [] (backTo pos (starEach (e :: args) env)) [])) (he : starEach (e :: args) env = (false, eval e env) :: starEach args env) (hp : (backTo pos (starEach args env)).any (·.1) = false) (q : ∀ k', AVqs as fun vs => wpAny (model prog w) A (call (.ref f) vs) Q Nope (St s h k')) :
    wpAny (model prog w) A (eval (.Call (.Name x px) (e :: args) [] pos) env) Q Nope (St s h k) :=
  r_call (r_nmR F eg (r_cwF (F.inK G (Grow.refl _)) hk (p.go _ _ fun _ k' hv => ⟨F.inK G (Grow.refl _), (q k').app hv⟩) he hp) hn.k hn.l hn.d) hf
-- names, ints, parts of a list
theorem z_pi (p : PI (model prog w) A env s h e i) (q : ∀ t k', Q (.int i t) (St s h k')) : wpAny (model prog w) A (eval e env) Q Nope (St s h k) := p.go k Q q
theorem z_pt {Q : Bool → Shared → Prop} {c : Bool} (p : PT (model prog w) A env s h e c) (q : ∀ k', Q c (St s h k')) : wpAny (model prog w) A (isTrue e env (eval e env)) Q Nope (St s h k) := p.go k Q q
theorem z_nm (F : Fm h₀ env.locals h l es) (hv : l.lookup x = some av) (hn : LocOk env x) (q : AVq av fun v => Q v (St s h k)) : wpAny (model prog w) A (eval (.Name x pos) env) Q Nope (St s h k) := r_nm F hv q hn.k hn.l hn.d
theorem z_nmC {c : Addr} (F : Fm h₀ env.locals h l es) (hc : env.cells.lookup x = some c) (hm : .cell c av ∈ es) (hn : CelOk env x) (q : AVq av fun v => Q v (St s h k)) : wpAny (model prog w) A (eval (.Name x pos) env) Q Nope (St s h k) :=
  r_nmC F hc hm q hn.k hn.l hn.d
theorem z_gl (G : Gd w h₀) (F : Fm h₀ env.locals h l es) (e : globs.lookup x = some D) (hg : env.globals = mainGlobals) (hn : GloOk env x) (q : Q (.ref D) (St s h k)) :
    wpAny (model prog w) A (eval (.Name x pos) env) Q Nope (St s h k) := r_gl G (Grow.refl _) F (glob_ok e).1 q hg hn.k hn.l hn.d
theorem z_bi {v : Value} (G : Gd w h₀) (F : Fm h₀ env.locals h l es) (e : bis.lookup x = some v) (hg : env.globals = mainGlobals) (hgb : env.builtins = builtinsNs) (hn : GloOk env x) (q : Q v (St s h k)) : wpAny (model prog w) A (eval (.Name x pos) env) Q Nope (St s h k) := r_bi G (Grow.refl _) F (bi_ok (w := w) e).1 (bi_ok (w := w) e).2.1 (bi_ok (w := w) e).2.2 q hg hgb hn.k hn.l hn.d
theorem z_slT {st : PySem.Expr} (F : Fm h₀ env.locals h l es) (hv : l.lookup x = some (.ref D)) (e : (Ent.il D ns).on h) (p : PI (model prog w) A env s h st j) (hl : ns.length ≤ 1000000) (h0 : 0 ≤ j) (hn : LocOk env x) (q : ∀ c h' k', Fm h₀ env.locals h' l (.il c (ns.take j.toNat) :: es) → Q (.ref c) (St s h' k')) :
    wpAny (model prog w) A (eval (.Subscript (.Name x px) (.Slice none (some st) none p2) pos) env) Q Nope (St s h k) :=
  r_subsl (r_nmR F hv (r_part0 (r_part1 (p.go _ _ fun _ _ => r_part0 (r_slTo F e hl h0 fun c h' F' => q c h' _ F')))) hn.k hn.l hn.d)
theorem z_slF {st : PySem.Expr} (F : Fm h₀ env.locals h l es) (hv : l.lookup x = some (.ref D)) (e : (Ent.il D ns).on h) (p : PI (model prog w) A env s h st j) (hl : ns.length ≤ 1000000) (h0 : 0 ≤ j) (hn : LocOk env x) (q : ∀ c h' k', Fm h₀ env.locals h' l (.il c (ns.drop j.toNat) :: es) → Q (.ref c) (St s h' k')) :
    wpAny (model prog w) A (eval (.Subscript (.Name x px) (.Slice (some st) none none p2) pos) env) Q Nope (St s h k) :=
  r_subsl (r_nmR F hv (r_part1 (p.go _ _ fun _ _ => r_part0 (r_part0 (r_slFrom F e hl h0 fun c h' F' => q c h' _ F')))) hn.k hn.l hn.d)
theorem z_slB {st su : PySem.Expr} (F : Fm h₀ env.locals h l es) (hv : l.lookup x = some (.ref D)) (e : (Ent.il D ns).on h) (p : PI (model prog w) A env s h st i) (p' : PI (model prog w) A env s h su j) (hl : ns.length ≤ 1000000) (h0 : 0 ≤ i) (h1 : i ≤ j) (h2 : j ≤ ns.length) (hn : LocOk env x) (q : ∀ c h' k', Fm h₀ env.locals h' l (.il c ((ns.drop i.toNat).take (j - i).toNat) :: es) → Q (.ref c) (St s h' k')) :
    wpAny (model prog w) A (eval (.Subscript (.Name x px) (.Slice (some st) (some su) none p2) pos) env) Q Nope (St s h k) :=
  r_subsl (r_nmR F hv (r_part1 (p.go _ _ fun _ _ => r_part1 (p'.go _ _ fun _ _ => r_part0 (r_slFT F e hl h0 h1 h2 fun c h' F' => q c h' _ F')))) hn.k hn.l hn.d)
-- statements
theorem z_asg {p' : Pos} (p : PI (model prog w) A env s h e i) (F : Fm h₀ env.locals h l es) (hs : swapsWith e (some (.Name x p')) pos.line env = pure false) (hn : LocOk env x) (q : ∀ h' k', Fm h₀ env.locals h' ((x, .int i) :: l) es → Qn (St s h' k')) :
    wpAny (model prog w) A (exec (.Assign [.Name x p'] e pos) env) (PF Qn Qr) Nope (St s h k) := r_assign (p.go _ _ fun _ _ => r_stI F q hn.k hn.l) hs
theorem z_augA {p' : Pos} (F : Fm h₀ env.locals h l es) (hv : l.lookup x = some (.int i)) (p : PI (model prog w) A env s h e j) (hn : LocOk env x) (q : ∀ h' k', Fm h₀ env.locals h' ((x, .int (i + j)) :: l) es → Qn (St s h' k')) :
    wpAny (model prog w) A (exec (.AugAssign (.Name x p') .Add e pos) env) (PF Qn Qr) Nope (St s h k) := s_augA F hv p q hn.k hn.l
theorem z_augS {p' : Pos} (F : Fm h₀ env.locals h l es) (hv : l.lookup x = some (.int i)) (p : PI (model prog w) A env s h e j) (hn : LocOk env x) (q : ∀ h' k', Fm h₀ env.locals h' ((x, .int (i - j)) :: l) es → Qn (St s h' k')) :
    wpAny (model prog w) A (exec (.AugAssign (.Name x p') .Sub e pos) env) (PF Qn Qr) Nope (St s h k) := s_augS F hv p q hn.k hn.l
theorem z_augR {p' : Pos} {W : Int} (F : Fm h₀ env.locals h l es) (hv : l.lookup x = some (.int i)) (p : PI (model prog w) A env s h e j) (hW : Po W j.toNat) (h0 : 0 ≤ j) (hn : LocOk env x) (q : ∀ h' k', Fm h₀ env.locals h' ((x, .int (i / W)) :: l) es → Qn (St s h' k')) :
    wpAny (model prog w) A (exec (.AugAssign (.Name x p') .RShift e pos) env) (PF Qn Qr) Nope (St s h k) := s_augR F hv p hW h0 q hn.k hn.l
theorem z_if {body orelse : List Stmt} {P : Prop} {_i : Decidable P} (p : PT (model prog w) A env s h e (decide P)) (q1 : P → ∀ k', wpAny (model prog w) A (execs body env) (PF Qn Qr) Nope (St s h k')) (q2 : ¬ P → ∀ k', wpAny (model prog w) A (execs orelse env) (PF Qn Qr) Nope (St s h k')) :
    wpAny (model prog w) A (exec (.If e body orelse pos) env) (PF Qn Qr) Nope (St s h k) := r_if (p.go _ _ fun k' => ⟨fun c => q1 (of_decide_eq_true c) k', fun c => q2 (of_decide_eq_false c) k'⟩)
theorem z_app {apos p3 : Pos} (F : Fm h₀ env.locals h l es) (hv : l.lookup x = some (.ref D)) (p : PI (model prog w) A env s h e i) (u : Upd (.gl D ns) (.gl D (ns ++ [i])) es es') (hl : ns.length ≤ 1000000) (hn : LocOk env x) (hi : interactive env = false) (hs : swapsWith (.Call (.Attribute (.Name x px) "append" apos) [e] [] p3) none pos.line env = pure false) (hb : attributeBase (.Name x px) "append" env (eval (.Name x px) env) = eval (.Name x px) env) (hf : ((backTo p3 (starEach [e] env)).all (fun x => !x.1) && (backToKw p3 (keywordEach [] env)).all (fun x => x.1.isSome) && decide (([e] : List PySem.Expr).length + ([] : List Keyword).length + (if ([] : List Keyword).isEmpty then 0 else 1) < 30)) = true) (hll : (apos.endLine == p3.line) = true) (ht : backTo p3 (starEach [e] env) = [(false, eval e env)]) (q : ∀ h' k', Fm h₀ env.locals h' l es' → Qn (St s h' k')) :
    wpAny (model prog w) A (exec (.Expr (.Call (.Attribute (.Name x px) "append" apos) [e] [] p3) pos) env) (PF Qn Qr) Nope (St s h k) := r_expr (r_appCall (r_nmR F hv (app_ex (F.on u.mem) (p.go _ _ fun _ _ => r_app F u hl fun h' F' => ⟨rfl, q h' _ F'⟩)) hn.k hn.l hn.d) hb hf hll ht) hi hs
theorem z_set (pv : PI (model prog w) A env s h e i) (F : Fm h₀ env.locals h l es) (hv : l.lookup x = some (.ref D)) (pi : PI (model prog w) A env s h b j) (up : Upd (.il D ns) (.il D (ns.set j.toNat i)) es es') (h0 : 0 ≤ j) (h1 : j < ns.length) (hl : ns.length ≤ 1000000) (hn : LocOk env x) (hs : swapsWith e (some (.Subscript (.Name x px) b p2)) pos.line env = pure false) (q : ∀ h' k', Fm h₀ env.locals h' l es' → Qn (St s h' k')) :
    wpAny (model prog w) A (exec (.Assign [.Subscript (.Name x px) b p2] e pos) env) (PF Qn Qr) Nope (St s h k) := r_asgI (pv.go _ _ fun _ _ => r_nmR F hv (pi.go _ _ fun _ _ => r_setU F up h0 h1 hl fun h' F' => q h' _ F') hn.k hn.l hn.d) hs
end
end Mine
namespace Mine
open PySem PySem.W PySem.Calls PyProof.Rows
section
variable {prog : Program} {w : World} {M : Model} {A : Around} {s : Shared} {h h₀ : Heap} {k : Nat} {env : Env} {L : Addr} {l : List (Str × AV)} {es es' : List Ent} {Qn : Shared → Prop} {Qr : Value → Shared → Prop} {Q : Value → Shared → Prop} {e a b value : PySem.Expr} {i j : Int} {t u : Tok} {x : Str} {av : AV} {as : List AV} {pos px p2 : Pos} {c D : Addr} {ns ms : List Int} {args elts : List PySem.Expr} {kk : Nat}
theorem pf_next (q : Qn s) : PF Qn Qr .next s := q
theorem w_assign (hs : swapsWith value (some (.Name x px)) pos.line env = pure false) (q : wpAny M A (eval value env) (fun v s₁ => wpAny M A (storeName env x v) (fun _ s₂ => Qn s₂) Nope s₁) Nope s) : wpAny M A (exec (.Assign [.Name x px] value pos) env) (PF Qn Qr) Nope s := r_assign q hs
theorem w_asgI (hs : swapsWith value (some (.Subscript a b p2)) pos.line env = pure false) (q : wpAny M A (eval value env) (fun v s₁ => wpAny M A (eval a env) (fun ov s₂ => wpAny M A (eval b env) (fun iv s₃ => wpAny M A (setItem ov iv v) (fun _ s₄ => Qn s₄) Nope s₃) Nope s₂) Nope s₁) Nope s) : wpAny M A (exec (.Assign [.Subscript a b p2] value pos) env) (PF Qn Qr) Nope s := wpAny_Assign_Subscript q hs
theorem w_asgS (F : Fm h₀ env.locals h l es) (hw : swappedStores [.Tuple elts kk p2] value env = pure (some (namesE elts))) (R : Room A 0) (hloc : ((namesE elts).all fun x => decide (env.kindOf x = some .local)) = true) (hs : swapsWithSole [.Tuple elts kk p2] value pos.line env = pure false) (hk : env.scope.kind = .function) (q : wpAny (model prog w) A (eval value env) (fun v s₁ => ∃ t as h k l es, v = .ref t ∧ s₁ = St s h k ∧ Fm h₀ env.locals h l es ∧ (Ent.tup t as).on h ∧ (namesE elts).length = as.length ∧ ∀ h' k', Fm h₀ env.locals h' (putN (namesE elts) as l) es → Qn (St s h' k')) Nope (St s h k)) : wpAny (model prog w) A (exec (.Assign [.Tuple elts kk p2] value pos) env) (PF Qn Qr) Nope (St s h k) := r_asgS F hw q R (allLoc hloc) hs hk
theorem w_asgP (F : Fm h₀ env.locals h l es) (hn : elts = (npsE elts).map fun z => PySem.Expr.Name z.1 z.2) (R : Room A 0) (hloc : ((namesE elts).all fun x => decide (env.kindOf x = some .local)) = true) (hw : swappedStores [.Tuple elts kk p2] value env = pure none) (hs : swapsWithSole [.Tuple elts kk p2] value pos.line env = pure false) (hk : env.scope.kind = .function) (q : wpAny (model prog w) A (eval value env) (fun v s₁ => ∃ t as h k l es, v = .ref t ∧ s₁ = St s h k ∧ Fm h₀ env.locals h l es ∧ (Ent.tup t as).on h ∧ (namesE elts).length = as.length ∧ ∀ h' k', Fm h₀ env.locals h' (putE elts as l) es → Qn (St s h' k')) Nope (St s h k)) : wpAny (model prog w) A (exec (.Assign [.Tuple elts kk p2] value pos) env) (PF Qn Qr) Nope (St s h k) := r_asgP F hn q R (allLoc hloc) hw hs hk
theorem w_asgQ {y : Str} {py : Pos} (F : Fm h₀ L h l es) (R : Room A 0) (hw : swappedStores [.Tuple [.Name x px, .Name y py] kk p2] value env = pure none) (hs : swapsWithSole [.Tuple [.Name x px, .Name y py] kk p2] value pos.line env = pure false) (q : wpAny (model prog w) A (eval value env) (fun v s₁ => ∃ t a b h k l es, v = .ref t ∧ s₁ = St s h k ∧ Fm h₀ L h l es ∧ (Ent.tup t [a, b]).on h ∧
      ∀ h', Fm h₀ L h' l es → AVq a fun va => AVq b fun vb => wpAny (model prog w) A (storeName env x va) (fun _ s₂ => wpAny (model prog w) A (storeName env y vb) (fun _ s₃ => Qn s₃) Nope s₂) Nope (St s h' k)) Nope (St s h k)) : wpAny (model prog w) A (exec (.Assign [.Tuple [.Name x px, .Name y py] kk p2] value pos) env) (PF Qn Qr) Nope (St s h k) := r_asgQ2 F R q hw hs
theorem w_for {target iter : PySem.Expr} {body : List Stmt} (hs : ∀ x, foldedSetIterable iter env x = pure x) (q : wpAny (model prog w) A (eval iter env) (fun x s₁ => wpAny (model prog w) A (pyIter x) (fun it s₂ => codeAny (model prog w) A (.forLoop target it body [] env) (LR Qn Qr) s₂) Nope s₁) Nope s) : wpAny (model prog w) A (exec (.For target iter body [] pos) env) (PF Qn Qr) Nope s := r_for q hs
theorem w_expr (hi : interactive env = false) (hs : swapsWith e none pos.line env = pure false) (q : wpAny M A (eval e env) (fun v s' => v = .none ∧ Qn s') Nope s) : wpAny M A (exec (.Expr e pos) env) (PF Qn Qr) Nope s := r_expr q hi hs
theorem w_appCall {apos : Pos} (hb : attributeBase a "append" env (eval a env) = eval a env) (hf : ((backTo pos (starEach [e] env)).all (fun x => !x.1) && (backToKw pos (keywordEach [] env)).all (fun x => x.1.isSome) && decide (([e] : List PySem.Expr).length + ([] : List Keyword).length + (if ([] : List Keyword).isEmpty then 0 else 1) < 30)) = true) (hl : (apos.endLine == pos.line) = true) (ht : backTo pos (starEach [e] env) = [(false, eval e env)]) (q : wpAny (model prog w) A (eval a env) (fun ov s₁ => ∃ D its, ov = .ref D ∧ PlainL s₁.heap D its ∧ wpAny (model prog w) A (eval e env) (fun y s₂ => wpAny (model prog w) A (call (.builtin "list.append") [.ref D, y]) Q Nope s₂) Nope s₁) Nope s) : wpAny (model prog w) A (eval (.Call (.Attribute a "append" apos) [e] [] pos) env) Q Nope s := r_appCall q hb hf hl ht
theorem w_cmp {op : CmpOp} (hm : behindInMarks op b = false) (q : wpAny M A (eval a env) (fun v s₁ => wpAny M A (eval b env) (fun v' s₂ => wpAny M A (compareOp op v v') Q Nope s₂) Nope s₁) Nope s) : wpAny M A (eval (.Compare a [op] [b] pos) env) Q Nope s := r_cmp q hm
theorem w_tcmp {op : CmpOp} {whole : Sem Value} {Q : Bool → Shared → Prop} (hm : behindInMarks op b = false) (q : wpAny M A (eval a env) (fun v s₁ => wpAny M A (eval b env) (fun v' s₂ => wpAny M A (compareOp op v v') (fun c s₃ => wpAny M A (truthy c) Q Nope s₃) Nope s₂) Nope s₁) Nope s) :
    wpAny M A (isTrue (.Compare a [op] [b] pos) env whole) Q Nope s := r_tcmp q hm
theorem w_tcmp2 {r : PySem.Expr} {o₁ o₂ : CmpOp} {whole : Sem Value} {Q : Bool → Shared → Prop} (h₂ : behindInMarks o₂ r = false) (q : wpAny M A (eval a env) (fun v s₁ => wpAny M A (eval b env) (fun v' s₂ => wpAny M A (compareOp o₁ v v') (fun c s₃ => wpAny M A (truthy c) (fun t s₄ =>
      (t = false → Q false s₄) ∧ (t = true → wpAny M A (eval r env) (fun d s₅ => wpAny M A (compareOp o₂ v' d) (fun c s₆ => wpAny M A (truthy c) Q Nope s₆) Nope s₅) Nope s₄)) Nope s₃) Nope s₂) Nope s₁) Nope s) :
    wpAny M A (isTrue (.Compare a [o₁, o₂] [b, r] pos) env whole) Q Nope s := r_tcmp2 q h₂
theorem w_call (hf : eval (.Call a args [] pos) env = (do callWith pos (← eval a env) [] (backTo pos (starEach args env)) [])) (q : wpAny M A (eval a env) (fun g s₁ => wpAny M A (callWith pos g [] (backTo pos (starEach args env)) []) Q Nope s₁) Nope s) : wpAny M A (eval (.Call a args [] pos) env) Q Nope s := r_call q hf
theorem w_splC {Q : List Value → Shared → Prop} (hs : starEach (e :: args) env = (false, eval e env) :: starEach args env) (q : wpAny M A (eval e env) (fun v s₁ => wpAny M A (spliced (backTo pos (starEach args env))) (fun vs s₂ => Q (v :: vs) s₂) Nope s₁) Nope s) :
    wpAny M A (spliced (backTo pos (starEach (e :: args) env))) Q Nope s := r_splC q hs
theorem w_cwB {id : String} (he : starEach (e :: args) env = (false, eval e env) :: starEach args env) (hp : (backTo pos (starEach args env)).any (·.1) = false) (q : wpAny M A (spliced (backTo pos (starEach (e :: args) env))) (fun vs s₁ => wpAny M A (call (.builtin id) vs) Q Nope s₁) Nope s) :
    wpAny M A (callWith pos (.builtin id) [] (backTo pos (starEach (e :: args) env)) []) Q Nope s := r_cwB q he hp
theorem w_cwT {T : String} (he : starEach (e :: args) env = (false, eval e env) :: starEach args env) (hp : (backTo pos (starEach args env)).any (·.1) = false) (q : wpAny M A (spliced (backTo pos (starEach (e :: args) env))) (fun vs s₁ => wpAny M A (call (.type T) vs) Q Nope s₁) Nope s) :
    wpAny M A (callWith pos (.type T) [] (backTo pos (starEach (e :: args) env)) []) Q Nope s := r_cwT q he hp
theorem w_cwF {f : Addr} (G : Gd w h₀) (F : Fm h₀ L h l es) (hk : keepIn (hd.heap_39 w.params) (.ref f) = true) (he : starEach (e :: args) env = (false, eval e env) :: starEach args env) (hp : (backTo pos (starEach args env)).any (·.1) = false) (q : wpAny M A (spliced (backTo pos (starEach (e :: args) env))) (fun vs s₁ => (hd.heap_39 w.params).In s₁.heap ∧ wpAny M A (call (.ref f) vs) Q Nope s₁) Nope (St s h k)) :
    wpAny M A (callWith pos (.ref f) [] (backTo pos (starEach (e :: args) env)) []) Q Nope (St s h k) := r_cwF (F.inK G (Grow.refl _)) hk q he hp
theorem w_andK {m : Sem Value} (G : Gd w h₀) (F : Fm h₀ L h l es) (q : wpAny M A m Q Nope (St s h k)) : (hd.heap_39 w.params).In (St s h k).heap ∧ wpAny M A m Q Nope (St s h k) := ⟨F.inK G (Grow.refl _), q⟩
theorem w_eqL (R : Room A 8) (ea : (Ent.il c ns).on h) (eb : (Ent.il D ms).on h) (q : Q (.bool (decide (ns = ms))) (St s h k)) : wpAny (model prog w) A (compareOp .Eq (.ref c) (.ref D)) Q Nope (St s h k) := r_eqL R ea eb q
theorem w_neL (R : Room A 8) (ea : (Ent.il c ns).on h) (eb : (Ent.il D ms).on h) (q : Q (.bool (decide (ns ≠ ms))) (St s h k)) : wpAny (model prog w) A (compareOp .NotEq (.ref c) (.ref D)) Q Nope (St s h k) := r_neL R ea eb q
theorem w_mul (m : IntMulOk i j) (q : ∀ t' k', Q (.int (i * j) t') (St s h k')) : wpAny (model prog w) A (binaryOp .Mult (.int i t) (.int j u)) Q Nope (St s h k) := r_mul m q
theorem w_mod (m : 0 < j) (q : ∀ t' k', Q (.int (i % j) t') (St s h k')) : wpAny (model prog w) A (binaryOp .Mod (.int i t) (.int j u)) Q Nope (St s h k) := r_modP m q
theorem w_div (m : 0 < j) (n : j < 1073741824) (q : ∀ t' k', Q (.int (i / j) t') (St s h k')) : wpAny (model prog w) A (binaryOp .FloorDiv (.int i t) (.int j u)) Q Nope (St s h k) := r_divP m n q
theorem w_pow (h0 : 0 ≤ j) (h1 : j ≤ 1000000) (ha : i.natAbs < 2 ^ 64) (q : ∀ t' k', Q (.int (i ^ j.toNat) t') (St s h k')) : wpAny (model prog w) A (binaryOp .Pow (.int i t) (.int j u)) Q Nope (St s h k) := r_pow h0 h1 ha q
theorem w_rep (F : Fm h₀ L h l es) (ea : (Ent.il D [i]).on h) (hi : j ≤ 1000000) (hlo : -1000000 ≤ j) (q : ∀ c h', Fm h₀ L h' l (.il c (List.replicate j.toNat i) :: es) → Q (.ref c) (St s h' k)) :
    wpAny (model prog w) A (binaryOp .Mult (.ref D) (.int j u)) Q Nope (St s h k) := r_rep F ea hi q hlo
theorem w_newIl (F : Fm h₀ L h l es) (q : ∀ a h', Fm h₀ L h' l (.il a [i] :: es) → Q (.ref a) (St s h' k)) : wpAny M A (newList [.int i t]) Q Nope (St s h k) := r_newIl F (.cons _ _ .nil) (Nat.le_of_ble_eq_true rfl) q
theorem w_newTup {vs : List Value} (F : Fm h₀ L h l es) (hi : AVs as vs) (hn : as.length ≤ 1000000) (q : ∀ a h', Fm h₀ L h' l (.tup a as :: es) → Q (.ref a) (St s h' k)) : wpAny M A (newTuple vs) Q Nope (St s h k) := r_newTup F hi hn q
theorem w_range1 (F : Fm h₀ L h l es) (q : ∀ a h' k', Fm h₀ L h' l (.rng a 0 i :: es) → Q (.ref a) (St s h' k')) : wpAny (model prog w) A (call (.type "range") [.int i t]) Q Nope (St s h k) := r_range1 F q
theorem w_range2 (F : Fm h₀ L h l es) (q : ∀ a h' k', Fm h₀ L h' l (.rng a i j :: es) → Q (.ref a) (St s h' k')) : wpAny (model prog w) A (call (.type "range") [.int i t, .int j u]) Q Nope (St s h k) := r_range2 F q
theorem w_appEx {P : Addr → Prop} (e : (Ent.gl D ns).on h) (q : P D) : ∃ D' its, Value.ref D = .ref D' ∧ PlainL (St s h k).heap D' its ∧ P D' := app_ex e q
theorem w_appExA {P : Addr → Prop} (e : (Ent.ga D as).on h) (q : P D) : ∃ D' its, Value.ref D = .ref D' ∧ PlainL (St s h k).heap D' its ∧ P D' := app_exA e q
theorem w_app (F : Fm h₀ L h l es) (u : Upd (.gl D ns) (.gl D (ns ++ [i])) es es') (hn : ns.length ≤ 1000000) (q : ∀ h', Fm h₀ L h' l es' → Q .none (St s h' k)) : wpAny (model prog w) A (call (.builtin "list.append") [.ref D, .int i t]) Q Nope (St s h k) := r_app F u hn q
theorem w_appR (F : Fm h₀ L h l es) (u : Upd (.ga D as) (.ga D (as ++ [.ref c])) es es') (hn : as.length ≤ 1000000) (q : ∀ h', Fm h₀ L h' l es' → Q .none (St s h' k)) : wpAny (model prog w) A (call (.builtin "list.append") [.ref D, .ref c]) Q Nope (St s h k) := r_appR F u hn q
theorem w_none {P : Prop} (q : P) : Value.none = Value.none ∧ P := ⟨rfl, q⟩
theorem w_set {Q : Unit → Shared → Prop} (F : Fm h₀ L h l es) (up : Upd (.il D ns) (.il D (ns.set i.toNat j)) es es') (h0 : 0 ≤ i) (h1 : i < ns.length) (hn : ns.length ≤ 1000000) (q : ∀ h', Fm h₀ L h' l es' → Q () (St s h' k)) :
    wpAny (model prog w) A (setItem (.ref D) (.int i u) (.int j t)) Q Nope (St s h k) := r_setU F up h0 h1 hn q
theorem w_setA {Q : Unit → Shared → Prop} (F : Fm h₀ L h l es) (up : Upd (.al D as) (.al D (as.set i.toNat (.int j))) es es') (h0 : 0 ≤ i) (h1 : i < as.length) (hn : as.length ≤ 1000000) (q : ∀ h', Fm h₀ L h' l es' → Q () (St s h' k)) :
    wpAny (model prog w) A (setItem (.ref D) (.int i u) (.int j t)) Q Nope (St s h k) := r_setUA F up h0 h1 hn q
theorem w_slRev {v st : PySem.Expr} {p : Pos} (F : Fm h₀ L h l es) (e : (Ent.il D ns).on h) (hn : ns.length ≤ 1000000) (q : ∀ c h', Fm h₀ L h' l (.il c ns.reverse :: es) → Q (.ref c) (St s h' k)) : SlT (model prog w) A v (.Slice none none (some st) p) (.ref D) .none .none (.int (-1) u) Q (St s h k) := r_slRev F e hn q
theorem w_sum (R : Room A 0) (F : Fm h₀ L h l es) (e : (Ent.il D ns).on h) (q : ∀ t h' k', Fm h₀ L h' l es → Q (.int ns.sum t) (St s h' k')) : wpAny (model prog w) A (call (.builtin "sum") [.ref D]) Q Nope (St s h k) := r_sum R F e q
theorem w_min (R : Room A 0) (F : Fm h₀ L h l es) (q : ∀ t' k' h', Fm h₀ L h' l es → Q (.int (min i j) t') (St s h' k')) : wpAny (model prog w) A (call (.builtin "min") [.int i t, .int j u]) Q Nope (St s h k) := r_min R F q
theorem w_max (R : Room A 0) (F : Fm h₀ L h l es) (q : ∀ t' k' h', Fm h₀ L h' l es → Q (.int (max i j) t') (St s h' k')) : wpAny (model prog w) A (call (.builtin "max") [.int i t, .int j u]) Q Nope (St s h k) := r_max R F q
theorem w_len (e : (Ent.il D ns).on h) (hn : ns.length ≤ 1000000) (q : ∀ t k', Q (.int (ns.length : Nat) t) (St s h k')) : wpAny (model prog w) A (call (.builtin "len") [.ref D]) Q Nope (St s h k) := r_len e hn q
theorem w_ld (F : Fm h₀ env.locals h l es) (hv : l.lookup x = some av) (hk : env.scope.kind = .function) (hl : env.kindOf x = some .local) (q : AVq av fun v => Q v (St s h k)) : wpAny M A (loadName env x) Q Nope (St s h k) := r_ld F hv q hk hl
theorem w_stI {Q : Unit → Shared → Prop} (F : Fm h₀ env.locals h l es) (hk : env.scope.kind = .function) (hl : env.kindOf x = some .local) (q : ∀ h' k', Fm h₀ env.locals h' ((x, .int i) :: l) es → Q () (St s h' k')) : wpAny M A (storeName env x (.int i t)) Q Nope (St s h k) := r_stI F q hk hl
theorem w_stR {Q : Unit → Shared → Prop} (F : Fm h₀ env.locals h l es) (hk : env.scope.kind = .function) (hl : env.kindOf x = some .local) (q : ∀ h' k', Fm h₀ env.locals h' ((x, .ref D) :: l) es → Q () (St s h' k')) : wpAny M A (storeName env x (.ref D)) Q Nope (St s h k) := r_stR F q hk hl
theorem w_stB {b : Bool} {Q : Unit → Shared → Prop} (F : Fm h₀ env.locals h l es) (hk : env.scope.kind = .function) (hl : env.kindOf x = some .local) (q : ∀ h' k', Fm h₀ env.locals h' ((x, .bool b) :: l) es → Q () (St s h' k')) : wpAny M A (storeName env x (.bool b)) Q Nope (St s h k) := r_stB F q hk hl
theorem w_stHI {Q : Unit → Shared → Prop} (F : Fm h₀ L h l es) (hc : env.cells.lookup x = some c) (u : Upd (.hole c) (.cell c (.int i)) es es') (hk : env.scope.kind = .function) (hl : env.kindOf x = some .cell) (q : ∀ h', Fm h₀ L h' l es' → Q () (St s h' k)) :
    wpAny M A (storeName env x (.int i t)) Q Nope (St s h k) := r_stHI F hc u q hk hl
theorem w_stHR {Q : Unit → Shared → Prop} (F : Fm h₀ L h l es) (hc : env.cells.lookup x = some c) (u : Upd (.hole c) (.cell c (.ref D)) es es') (hk : env.scope.kind = .function) (hl : env.kindOf x = some .cell) (q : ∀ h', Fm h₀ L h' l es' → Q () (St s h' k)) :
    wpAny M A (storeName env x (.ref D)) Q Nope (St s h k) := r_stHR F hc u q hk hl
theorem w_item {v sl : PySem.Expr} (e : (Ent.il D ns).on h) (h0 : 0 ≤ i) (h1 : i < ns.length) (hn : ns.length ≤ 1000000) (hs : subscripted sl false (.ref D) (.int i u) = operate [.ref D, .int i u] (getItem (.ref D) (.int i u))) (q : ∀ t, Q (.int (ns.getD i.toNat 0) t) (St s h k)) : wpAny (model prog w) A (subscriptTail v sl (.ref D) (.int i u)) Q Nope (St s h k) := r_item e h0 h1 hn q hs
theorem w_itemI {v sl : PySem.Expr} (e : (Ent.al D as).on h) (h0 : 0 ≤ i) (hi : i < 1000000) (h1 : as[i.toNat]? = some (.int j)) (hs : subscripted sl false (.ref D) (.int i u) = operate [.ref D, .int i u] (getItem (.ref D) (.int i u))) (q : ∀ t, Q (.int j t) (St s h k)) : wpAny (model prog w) A (subscriptTail v sl (.ref D) (.int i u)) Q Nope (St s h k) := r_itemAI e h0 hi h1 q hs
theorem w_itemR {v sl : PySem.Expr} (e : (Ent.al D as).on h) (h0 : 0 ≤ i) (hi : i < 1000000) (h1 : as[i.toNat]? = some (.ref c)) (hs : subscripted sl false (.ref D) (.int i u) = operate [.ref D, .int i u] (getItem (.ref D) (.int i u))) (q : Q (.ref c) (St s h k)) : wpAny (model prog w) A (subscriptTail v sl (.ref D) (.int i u)) Q Nope (St s h k) := r_itemAR e h0 hi h1 q hs
theorem w_dec {P X Y : Prop} {_i : Decidable P} (a : P → X) (b : ¬ P → Y) : (decide P = true → X) ∧ (decide P = false → Y) := ⟨fun c => a (of_decide_eq_true c), fun c => b (of_decide_eq_false c)⟩
theorem w_decF {P X Y : Prop} {_i : Decidable P} (b : ¬ P → Y) (a : P → X) : (decide P = false → Y) ∧ (decide P = true → X) := ⟨fun c => b (of_decide_eq_false c), fun c => a (of_decide_eq_true c)⟩
theorem w_decN {P X Y : Prop} {_i : Decidable P} (b : ¬ P → X) (a : P → Y) : ((!decide P) = true → X) ∧ ((!decide P) = false → Y) := ⟨fun c => b (of_decide_eq_false (by simpa using c)), fun c => a (of_decide_eq_true (by simpa using c))⟩
theorem w_ttl {X Y : Prop} (a : X) : (true = true → X) ∧ (true = false → Y) := ⟨fun _ => a, fun c => Bool.noConfusion c⟩
theorem w_ffl {X Y : Prop} (b : Y) : (false = true → X) ∧ (false = false → Y) := ⟨fun c => Bool.noConfusion c, fun _ => b⟩
end
end Mine
namespace Mine
section
open PySem PySem.W PySem.Calls PyProof.Rows
-- my own line of steps: "m" one step; "ms" as many as go; cell_end: one rule, its holes, and how its side goals close
local macro_rules | `(tactic| cell_end $x $n:num $m:num) => `(tactic| (focus (refine' $x ..; rotate_right $n; tb_from $m; all_goals intros)))
local macro_rules | `(tactic| ktn_no "sub") => `(tactic| first | exact List.Sublist.refl _ | exact List.nil_sublist _ | (refine List.Sublist.cons_cons _ ?_; ktn_no "sub") | (refine List.Sublist.cons _ ?_; ktn_no "sub"))
local macro_rules | `(tactic| ktn_no "names") => `(tactic| first | exact trivial | (refine ⟨rfl, ?_⟩; ktn_no "names") | (refine ⟨nm_int rfl ?_, ?_⟩; (next => ktn_no "side"); ktn_no "names"))
local macro_rules | `(tactic| ktn_no "side") => `(tactic| k_dflt first | with_reducible assumption | lia | omega | (simp only [List.length_cons, List.length_nil]; omega) | (simp only [List.length_take, List.length_drop]; omega))
local macro_rules | `(tactic| ktn_no "mem") => `(tactic| k_dflt first | exact List.Mem.head _ | (refine List.Mem.tail _ ?_; ktn_no "mem") | (refine List.mem_append_right _ ?_; ktn_no "mem") | assumption)
local macro_rules | `(tactic| ktn_no "on") => `(tactic| k_dflt first | assumption | exact Fm.onr (by assumption) (by ktn_no "mem") | exact Fm.base (by assumption) (by assumption) | exact Ent.on.gl (Fm.onr (by assumption) (by ktn_no "mem")) | exact Ent.on.ga (Fm.onr (by assumption) (by ktn_no "mem")))
local macro_rules | `(tactic| ktn_no "upd") => `(tactic| k_dflt ((show Upd _ _ (_ :: _) _); first | exact Upd.head | exact Upd.tail (by ktn_no "upd")))
local macro_rules | `(tactic| ktn_no "avs") => `(tactic| k_dflt first | exact AVs.nil' | exact AVs.consI (by ktn_no "avs") | exact AVs.consR (by ktn_no "avs") | exact AVs.consB (by ktn_no "avs"))
local macro_rules | `(tactic| ktn_no "ents") => `(tactic| with_reducible first
  | (refine AVqs.consI ?_; intro t; ktn_no "ents")
  | (refine AVqs.consR ?_; ktn_no "ents")
  | refine AVqs.nil ?_)
local macro_rules | `(tactic| ktn_no "ent") => `(tactic| first | (refine AVq.ofI ?_; intro t) | refine AVq.ofR ?_ | refine AVq.ofB ?_)
local macro_rules | `(tactic| ktn_no "pi") => `(tactic| with_reducible first
  | cell_end y_nm 3 1641
  | cell_end y_int 0 0
  | cell_end y_nmC 4 36841
  | cell_end y_add 2 63
  | cell_end y_item 9 125776826441
  | cell_end y_sub 2 63
  | cell_end y_mul 3 6063
  | cell_end y_mod 3 2063
  | cell_end y_div 4 42063
  | cell_end y_len 9 107655248821
  | cell_end y_and 3 5663
  | cell_end y_shl 4 42283
  | cell_end y_powW 4 42283
  | cell_end y_neg 1 3
  | cell_end y_itemA 9 125584826441
  | cell_end y_pow 5 842063)
local macro_rules | `(tactic| tb_from $m:num) => do
  let k := m.getNat
  if k == 0 then `(tactic| skip) else
  let t ← match k % 20 with
    | 1 => `(tactic| k_dflt assumption)
    | 2 => `(tactic| k_dflt exact rfl)
    | 3 => `(tactic| ktn_no "pi")
    | 4 => `(tactic| exact ⟨by k_dflt rfl, by k_dflt rfl, by decide⟩)
    | 5 => `(tactic| ktn_no "side")
    | 6 => `(tactic| ktn_no "on")
    | 7 => `(tactic| ktn_no "upd")
    | 8 => `(tactic| first | exact Room.le (by assumption) (Nat.zero_le _) | exact Room.le (by assumption) (by lia))
    | 9 => `(tactic| first | cell_end u_lt 3 863 | cell_end u_le 3 863 | cell_end u_gt 3 863 | cell_end u_eq 3 863 | cell_end u_ne 3 863)
    | 10 => `(tactic| first | cell_end v_nm 3 1641 | cell_end v_nmC 4 36841 | cell_end v_gl 5 656821 | cell_end v_i 1 3)
    | 11 => `(tactic| first | cell_end a_nil 0 0 | cell_end a_cons 3 1030)
    | 12 => `(tactic| ktn_no "mem")
    | 13 => `(tactic| k_dflt k_is)
    | 14 => `(tactic| exact Po.mk (by assumption))
    | 15 => `(tactic| k_dflt first | assumption | exact PySem.IntMulOk.of_left (PySem.intBits_le_64 (by omega) (by omega)) | exact PySem.IntMulOk.of_right (PySem.intBits_le_64 (by omega) (by omega)))
    | 16 => `(tactic| ktn_no "avs")
    | 17 => `(tactic| k_dflt exact fun _ => rfl)
    | _ => `(tactic| exact ⟨fun _ _ _ => by k_dflt rfl⟩)
  `(tactic| (($t:tactic); tb_from $(Lean.quote (k / 20)):num))
local macro_rules | `(tactic| ktn_no "mS") => `(tactic| with_reducible first
  | cell_end r_nil 1 0
  | cell_end r_cons 1 0
  | cell_end z_asg 5 32823
  | cell_end w_assign 2 2
  | cell_end z_set 11 1133137144823
  | cell_end w_asgI 2 2
  | cell_end w_asgS 7 6739241
  | cell_end w_asgQ 5 16961
  | cell_end w_for 2 17
  | cell_end z_augA 5 33241
  | cell_end z_augS 5 33241
  | cell_end z_augR 7 13713241
  | cell_end r_aug 1 0
  | cell_end r_ret 1 0
  | cell_end z_if 3 9
  | cell_end r_if 1 0
  | cell_end z_app 13 431157901657241
  | cell_end w_expr 3 42)
local macro_rules | `(tactic| ktn_no "mE") => `(tactic| with_reducible first
  | cell_end w_appCall 5 16842
  | cell_end r_int 1 0
  | cell_end r_bool 1 0
  | (cell_end z_nm 4 1641; ktn_no "ent")
  | (cell_end z_nmC 5 36841; ktn_no "ent")
  | cell_end z_gl 6 656821
  | cell_end z_bi 7 13136821
  | (cell_end z_callF 10 53901208821; ktn_no "ents")
  | (cell_end z_callL 10 53902664821; ktn_no "ents")
  | cell_end z_slT 8 272826441
  | cell_end z_slF 8 272826441
  | cell_end z_slB 11 2182736506441
  | cell_end z_pi 2 3
  | cell_end r_binop 1 0
  | cell_end w_cmp 2 2
  | cell_end r_un 1 0
  | cell_end r_subsl 1 0
  | cell_end r_sub 1 0
  | cell_end r_list 1 0
  | cell_end r_tuple 1 0
  | cell_end w_call 2 2)
local macro_rules | `(tactic| ktn_no "mT") => `(tactic| with_reducible first
  | cell_end z_pt 2 9
  | cell_end w_tcmp 2 2
  | cell_end w_tcmp2 2 2
  | cell_end r_tnot 1 0
  | cell_end r_tand 1 0
  | cell_end r_tor1 1 0
  | cell_end r_tor 1 0
  | cell_end r_tcall 1 0
  | cell_end r_tname 1 0)
local macro_rules | `(tactic| ktn_no "mC") => `(tactic| with_reducible first
  | cell_end r_splN 1 0
  | cell_end w_splC 2 2
  | cell_end w_cwB 3 42
  | cell_end w_cwT 3 42
  | cell_end w_cwF 6 341221)
local macro_rules | `(tactic| ktn_no "mB") => `(tactic| with_reducible first
  | cell_end w_eqL 4 2528
  | cell_end w_neL 4 2528
  | cell_end r_eq 1 0
  | cell_end r_ne 1 0
  | cell_end r_lt 1 0
  | cell_end r_le 1 0
  | cell_end r_gt 1 0
  | cell_end r_add 1 0
  | cell_end r_sub' 1 0
  | cell_end w_mul 2 15
  | cell_end w_mod 2 5
  | cell_end w_div 3 105
  | cell_end w_pow 4 2105
  | cell_end r_neg 1 0)
local macro_rules | `(tactic| ktn_no "mO1") => `(tactic| with_reducible first
  | cell_end w_newTup 4 2321
  | cell_end w_range1 2 1
  | cell_end w_range2 2 1
  | cell_end w_appEx 2 6
  | cell_end w_appExA 2 6
  | cell_end w_app 4 2141
  | cell_end w_appR 4 2141
  | cell_end w_none 1 0
  | cell_end w_set 6 842141
  | cell_end w_setA 6 842141
  | cell_end w_slRev 4 2121
  | cell_end r_int1 1 0
  | cell_end r_abs1 1 0
  | cell_end w_sum 4 2428
  | cell_end w_min 3 28
  | cell_end w_max 3 28
  | (cell_end w_ld 5 16841; ktn_no "ent")
  | cell_end w_stI 4 841
  | cell_end w_stHI 6 338841
  | cell_end w_stR 4 841
  | cell_end w_stHR 6 338841
  | cell_end w_stB 4 841
  | cell_end r_part0 1 0
  | cell_end r_part1 1 0
  | cell_end r_tb 1 0
  | cell_end pf_next 1 0
  | cell_end w_andK 3 21
  | cell_end w_len 3 106
  | cell_end w_item 6 362106
  | cell_end w_itemI 6 338106
  | cell_end w_itemR 6 338106
  | cell_end w_ttl 1 0
  | cell_end w_ffl 1 0
  | cell_end w_dec 2 0
  | cell_end w_decF 2 0
  | cell_end w_decN 2 0)
local macro_rules | `(tactic| ktn_no "mO") => `(tactic| first
  | ktn_no "mO1"
  | ((with_reducible show ∃ t as h k l es, Value.ref _ = Value.ref t ∧ _); refine ⟨_, _, _, _, _, _, rfl, rfl, by assumption, by ktn_no "on", rfl, ?_⟩; intro h' k' F'; (try dsimp only [namesE, putN, putE] at F'))
  | ((with_reducible show ∃ t a b h k l es, Value.ref _ = Value.ref t ∧ _); refine ⟨_, _, _, _, _, _, _, rfl, rfl, by assumption, by ktn_no "on", ?_⟩; intro h' F'; refine AVq.ofI ?_; intro t1; refine AVq.ofI ?_; intro t2)
  | ((with_reducible show (_ = _ → _) ∧ (_ = _ → _)); refine ⟨fun hc => ?_, fun hc => ?_⟩ <;> first | exact absurd hc Bool.noConfusion | (simp only [decide_eq_true_eq, decide_eq_false_iff_not, Bool.not_eq_true', Bool.not_eq_false'] at hc) | skip))
local macro_rules | `(tactic| ktn_no "m") => `(tactic| first
  | ((with_reducible show wpAny _ _ (eval _ _) _ _ _); ktn_no "mE")
  | ((with_reducible show wpAny _ _ (exec _ _) _ _ _); ktn_no "mS")
  | ((with_reducible show wpAny _ _ (spliced _) _ _ _); ktn_no "mC")
  | ((with_reducible show wpAny _ _ (binaryOp _ _ _) _ _ _); ktn_no "mB")
  | ((with_reducible show wpAny _ _ (execs _ _) _ _ _); ktn_no "mS")
  | ((with_reducible show wpAny _ _ (callWith _ _ _ _ _) _ _ _); ktn_no "mC")
  | ((with_reducible show wpAny _ _ (isTrue _ _ _) _ _ _); ktn_no "mT")
  | ((with_reducible show wpAny _ _ (compareOp _ _ _) _ _ _); ktn_no "mB")
  | ((with_reducible show wpAny _ _ (inplaceOp _ _ _) _ _ _); ktn_no "mB")
  | ((with_reducible show wpAny _ _ (unaryOp _ _) _ _ _); ktn_no "mB")
  | ktn_no "mO")
local macro_rules | `(tactic| ktn_no "ms") => `(tactic| repeat' (ktn_no "m"))
section
local macro_rules | `(tactic| ktn_no "mS") => `(tactic| with_reducible cell_end w_asgP 8 134739241)
set_option maxHeartbeats 2000000 in
theorem c_normal {prog : Program} {w : World} {A : Around} {s : Shared} {h : Heap} {k n : Nat} {a : Addr} {ns : List Int} {Q : Value → Shared → Prop}
    (G : Gd w h) (R : Room A (n + 1)) (e : (Ent.il a ns).on h) (hn : ns.length ≤ 1000000)
    (q : ∀ c h' k', Grow h h' → h.get? c = none → (Ent.il c (norm ns)).on h' → Q (.ref c) (St s h' k')) :
    wpAny (model prog w) A (call (.ref 46) [.ref a]) Q Nope (St s h k) := by
  refine r_enter (n := n) (binds := [(Str.ofString "a", .ref a)]) G (Grow.refl _) (Grow.refl _) (Nat.le_refl _) R (by k_is) (by k_is) (BindsTo.of_eq rfl) (by decide) (locs rfl) ?_
  intro L h₁ k₁ m F hm hg hL R'
  have F := Fm.enter (l := [(Str.ofString "a", .ref a)]) F hm ⟨rfl, rfl, trivial⟩
  clear hm
  ktn_no "ms"
  refine r_while (σ := Nat) (fun i => i ≤ ns.length ∧ ∀ j, i ≤ j → j < ns.length → ns.getD j 0 = 0) (fun i => [(Str.ofString "a", .ref a), (Str.ofString "end", .int (i : Nat))]) (fun _ => []) (fun i => i) ns.length (by assumption) ?_ ?_ ?_ ?_
  · ktn_no "names"
  · ktn_no "sub"
  · exact ⟨Nat.le_refl _, fun j h1 h2 => by (first | lia | omega)⟩
  · rintro i h₂ k₂ ⟨j1, j2⟩ F₂
    ktn_no "ms"
    · refine q _ _ _ (Fm.keep (by assumption)) (Fm.fresh (by assumption) (by ktn_no "mem")) ?_
      rw [← norm_take ns i j1 j2 (by (first | lia | omega))]
      ktn_no "on"
    · refine Turn.mk (i - 1) (by assumption) (by ktn_no "names") (by ktn_no "sub") ⟨⟨by (first | lia | omega), fun j h3 h4 => ?_⟩, by (first | lia | omega)⟩
      by_cases c : i ≤ j
      · exact j2 j c h4
      · obtain rfl : j = i - 1 := by (first | lia | omega)
        rename ns.getD _ 0 = 0 => h5
        rw [show ((i : Int) - 1).toNat = i - 1 by (first | lia | omega)] at h5; exact h5
    · refine q _ _ _ (Fm.keep (by assumption)) (Fm.fresh (by assumption) (by ktn_no "mem")) ?_
      rename ¬ns.getD _ 0 = 0 => h5
      rw [← norm_take ns i j1 j2 (fun _ => by rw [show ((i : Int) - 1).toNat = i - 1 by (first | lia | omega)] at h5; exact h5)]
      ktn_no "on"
set_option maxHeartbeats 4000000 in
theorem c_add {prog : Program} {w : World} {A : Around} {s : Shared} {h : Heap} {k n : Nat} {a b : Addr} {na nb : List Int} {ww W : Int} {tw : Tok} {Q : Value → Shared → Prop}
    (G : Gd w h) (R : Room A (n + 1)) (ea : (Ent.il a na).on h) (eb : (Ent.il b nb).on h) (hna : na.length ≤ 100000) (hnb : nb.length ≤ 100000) (hW : W = 2 ^ ww.toNat) (hw0 : 0 ≤ ww) (hw1 : ww ≤ 64) (hW1 : 1 < W)
    (la : Limbs W na) (lb : Limbs W nb)
    (q : ∀ c h' k' nc, Grow h h' → h.get? c = none → (Ent.il c nc).on h' → Limbs W nc → val W nc = val W na + val W nb → nc.length ≤ max na.length nb.length + 1 → Q (.ref c) (St s h' k')) :
    wpAny (model prog w) A (call (.ref 53) [.ref a, .ref b, .int ww tw]) Q Nope (St s h k) := by
  refine r_enter (n := n) (binds := [(Str.ofString "a", .ref a), (Str.ofString "b", .ref b), (Str.ofString "w", .int ww tw)]) G (Grow.refl _) (Grow.refl _) (Nat.le_refl _) R (by k_is) (by k_is) (BindsTo.of_eq rfl) (by decide) (locs rfl) ?_
  intro L h₁ k₁ m F hm hg hL R'
  have F := Fm.enter (l := [(Str.ofString "w", .int ww), (Str.ofString "b", .ref b), (Str.ofString "a", .ref a)]) F hm ⟨rfl, ⟨_, rfl⟩, rfl, rfl, rfl, rfl, trivial⟩
  clear hm
  refine r_cut (h₀ := h) (σ := Addr × Addr × List Int × List Int) (fun y => (Ent.il y.1 y.2.2.1).on h ∧ (Ent.il y.2.1 y.2.2.2).on h ∧ Limbs W y.2.2.1 ∧ Limbs W y.2.2.2 ∧ y.2.2.2.length ≤ y.2.2.1.length ∧ y.2.2.1.length ≤ max na.length nb.length ∧ val W y.2.2.1 + val W y.2.2.2 = val W na + val W nb)
    (fun y => [(Str.ofString "a", .ref y.1), (Str.ofString "b", .ref y.2.1), (Str.ofString "w", .int ww)]) (fun _ => []) ?_ ?_
  · ktn_no "ms"
    · exact Turn.mk (b, a, nb, na) (by assumption) (by ktn_no "names") (by ktn_no "sub") ⟨eb, ea, lb, la, by dsimp only; (first | lia | omega), by dsimp only; (first | lia | omega), Int.add_comm _ _⟩
    · exact Turn.mk (a, b, na, nb) (by assumption) (by ktn_no "names") (by ktn_no "sub") ⟨ea, eb, la, lb, by dsimp only; (first | lia | omega), by dsimp only; (first | lia | omega), rfl⟩
  · rintro ⟨a, b, na', nb'⟩ h₂ k₂ ⟨ea, eb, la, lb, hle, hmx, hv⟩ F₂
    simp only at ea eb la lb hle hmx hv F₂
    ktn_no "ms"
    refine' r_newGl ?x_F ?_
    case x_F => assumption
    intro D h₃ F₃
    ktn_no "ms"
    refine' r_forRange (σ := List Int × Int) (fun i y => y.1.length = i ∧ Limbs W y.1 ∧ 0 ≤ y.2 ∧ y.2 ≤ 1 ∧ val W y.1 + W ^ i * y.2 = val W (na'.take i) + val W (nb'.take i))
      (fun y => [(Str.ofString "a", .ref a), (Str.ofString "b", .ref b), (Str.ofString "w", .int ww), (Str.ofString "found", .ref D), (Str.ofString "carry", .int y.2), (Str.ofString "mask", .int (W - 1))]) (fun y => [.gl D y.1])
      ([], 0) ?x_R ?x_e ?x_h1 ?x_h2 ?x_h3 ?x_h4 ?x_F ?x_n ?x_u ?x_j ?x_turn ?x_done
    case x_F => assumption
    case x_R => exact R'.le (Nat.zero_le _)
    case x_e => ktn_no "on"
    case x_h1 => (first | lia | omega)
    case x_h2 => (first | lia | omega)
    case x_h3 => (first | lia | omega)
    case x_h4 => (first | lia | omega)
    case x_n => ktn_no "names"
    case x_u => ktn_no "sub"
    case x_j => exact ⟨rfl, .nil, Int.le_refl _, Int.zero_le_ofNat 1, by simp [val]⟩
    case x_turn =>
      rintro i ⟨f, c⟩ h₃ k₃ ps hi ⟨j1, j2, j3, j4, j5⟩ F₃
      simp only at j1 j2 j3 j4 j5 F₃
      have hia := la.getD (show 0 < W by (first | lia | omega)) i
      have hib := lb.getD (show 0 < W by (first | lia | omega)) i
      simp only [Int.zero_add] at F₃
      ktn_no "ms"
      simp only [Int.toNat_natCast] at *
      obtain ⟨s1, s2, s3⟩ := carry_step hW1 j1 j2 j5 (x := na'.getD i 0 + nb'.getD i 0)
      refine Turn.mk (f ++ [(c + (na'.getD i 0 + nb'.getD i 0)) % W], (c + (na'.getD i 0 + nb'.getD i 0)) / W) (by assumption) (by ktn_no "names") (by ktn_no "sub") ⟨s2, s1, Int.ediv_nonneg (by (first | lia | omega)) (by (first | lia | omega)), ?_, ?_⟩
      · have : (c + (na'.getD i 0 + nb'.getD i 0)) / W < 2 := Int.ediv_lt_of_lt_mul (by (first | lia | omega)) (by (first | lia | omega))
        dsimp only; (first | lia | omega)
      · dsimp only; rw [s3, take_succ_val, take_succ_val, Int.mul_add]; (first | lia | omega)
    case x_done =>
      rintro ⟨f, c⟩ h₃ k₃ ⟨j1, j2, j3, j4, j5⟩ F₃
      simp only at j1 j2 j3 j4 j5 F₃
      have hz : ((nb'.length : Int) - 0).toNat = nb'.length := by (first | lia | omega)
      rw [hz] at j1 j5
      rw [List.take_length] at j5
      ktn_no "ms"
      refine' r_forRange (σ := List Int × Int) (fun i y => y.1.length = nb'.length + i ∧ Limbs W y.1 ∧ 0 ≤ y.2 ∧ y.2 ≤ 1 ∧ val W y.1 + W ^ (nb'.length + i) * y.2 = val W (na'.take (nb'.length + i)) + val W nb')
        (fun y => [(Str.ofString "a", .ref a), (Str.ofString "b", .ref b), (Str.ofString "w", .int ww), (Str.ofString "found", .ref D), (Str.ofString "carry", .int y.2), (Str.ofString "mask", .int (W - 1))]) (fun y => [.gl D y.1])
        (f, c) ?x_R ?x_e ?x_h1 ?x_h2 ?x_h3 ?x_h4 ?x_F ?x_n ?x_u ?x_j ?x_turn ?x_done
      case x_F => assumption
      case x_R => exact R'.le (Nat.zero_le _)
      case x_e => ktn_no "on"
      case x_h1 => (first | lia | omega)
      case x_h2 => (first | lia | omega)
      case x_h3 => (first | lia | omega)
      case x_h4 => (first | lia | omega)
      case x_n => ktn_no "names"
      case x_u => ktn_no "sub"
      case x_j => exact ⟨j1, j2, j3, j4, j5⟩
      case x_turn =>
        rintro i ⟨f, c⟩ h₃ k₃ ps hi ⟨j1, j2, j3, j4, j5⟩ F₃
        simp only at j1 j2 j3 j4 j5 F₃
        have hia := la.getD (show 0 < W by (first | lia | omega)) (nb'.length + i)
        rw [show (nb'.length : Int) + (i : Int) = ((nb'.length + i : Nat) : Int) by (first | lia | omega)] at F₃
        ktn_no "ms"
        simp only [Int.toNat_natCast] at *
        obtain ⟨s1, s2, s3⟩ := carry_step hW1 j1 j2 j5 (x := na'.getD (nb'.length + i) 0)
        refine Turn.mk (f ++ [(c + na'.getD (nb'.length + i) 0) % W], (c + na'.getD (nb'.length + i) 0) / W) (by assumption) (by ktn_no "names") (by ktn_no "sub") ⟨s2, s1, Int.ediv_nonneg (by (first | lia | omega)) (by (first | lia | omega)), ?_, ?_⟩
        · have : (c + na'.getD (nb'.length + i) 0) / W < 2 := Int.ediv_lt_of_lt_mul (by (first | lia | omega)) (by (first | lia | omega))
          dsimp only; (first | lia | omega)
        · dsimp only; rw [← Nat.add_assoc, s3, take_succ_val]; (first | lia | omega)
      case x_done =>
        rintro ⟨f, c⟩ h₃ k₃ ⟨j1, j2, j3, j4, j5⟩ F₃
        simp only at j1 j2 j3 j4 j5 F₃
        have hz : nb'.length + ((na'.length : Int) - (nb'.length : Int)).toNat = na'.length := by (first | lia | omega)
        rw [hz] at j1 j5
        rw [List.take_length] at j5
        refine r_cut (h₀ := h) (σ := List Int) (fun z => Limbs W z ∧ val W z = val W na + val W nb ∧ z.length ≤ max na.length nb.length + 1) (fun _ => [(Str.ofString "found", .ref D)]) (fun z => [.gl D z]) ?_ ?_
        · ktn_no "ms"
          · refine Turn.mk (f ++ [c]) (by assumption) (by ktn_no "names") (by ktn_no "sub") ⟨j2.append (.cons j3 (by (first | lia | omega)) .nil), ?_, ?_⟩
            · rw [val_snoc, j1, ← hv, ← j5]
            · simp only [List.length_append, List.length_singleton]; (first | lia | omega)
          · refine Turn.mk f (by assumption) (by ktn_no "names") (by ktn_no "sub") ⟨j2, ?_, ?_⟩
            · have : c = 0 := by (first | lia | omega)
              rw [this, Int.mul_zero, Int.add_zero] at j5
              rw [j5, hv]
            · (first | lia | omega)
        · rintro z h₄ k₄ ⟨z1, z2, z3⟩ F₄
          ktn_no "ms"
          exact q _ _ _ _ (Fm.keep (by assumption)) (Fm.fresh (e := .gl D z) (by assumption) (by ktn_no "mem")) (by ktn_no "on") z1 z2 z3
theorem inv_lim {d W : Int} (hd : d % 2 = 1) (hW : W = 4 ∨ W = 8) : (d * (d % W)) % W = 1 := by
  rw [Int.mul_emod, Int.emod_emod]
  have h0 := Int.emod_nonneg d (show W ≠ 0 by (first | lia | omega))
  have h1 := Int.emod_lt_of_pos d (show 0 < W by (first | lia | omega))
  rcases hW with rfl | rfl
  · have : d % 4 = 1 ∨ d % 4 = 3 := by (first | lia | omega)
    rcases this with e | e <;> rw [e] <;> decide
  · have : d % 8 = 1 ∨ d % 8 = 3 ∨ d % 8 = 5 ∨ d % 8 = 7 := by (first | lia | omega)
    rcases this with e | e | e | e <;> rw [e] <;> decide
theorem inv_all : ∀ r : Fin 64, r.val % 2 = 1 → ((r.val : Int) * (((r.val : Int) % 16) * ((2 - (r.val : Int) * ((r.val : Int) % 16)) % 16) % 16)) % 16 = 1 ∧
    ((r.val : Int) * (((r.val : Int) % 32) * ((2 - (r.val : Int) * ((r.val : Int) % 32)) % 32) % 32)) % 32 = 1 ∧
    ((r.val : Int) * (((r.val : Int) % 64) * ((2 - (r.val : Int) * ((r.val : Int) % 64)) % 64) % 64)) % 64 = 1 := by decide +kernel
theorem inv_step {d W : Int} (hd : d % 2 = 1) (hW : W = 16 ∨ W = 32 ∨ W = 64) : (d * ((d % W) * ((2 - d * (d % W)) % W) % W)) % W = 1 := by
  have key : ∀ r : Int, (d - r) % W = 0 → (d * ((d % W) * ((2 - d * (d % W)) % W) % W)) % W = (r * ((r % W) * ((2 - r * (r % W)) % W) % W)) % W := by
    intro r hr
    have e : d % W = r % W := Int.emod_eq_emod_iff_emod_sub_eq_zero.mpr hr
    have e2 : (2 - d * (d % W)) % W = (2 - r * (r % W)) % W := by
      rw [Int.sub_emod, Int.mul_emod, e, ← Int.mul_emod, ← Int.sub_emod]
    rw [e2, Int.mul_emod, e, ← Int.mul_emod]
  have h0 := Int.emod_nonneg d (show (64 : Int) ≠ 0 by (first | lia | omega))
  have h1 := Int.emod_lt_of_pos d (show (0 : Int) < 64 by (first | lia | omega))
  obtain ⟨r, hr⟩ : ∃ r : Nat, d % 64 = r := ⟨(d % 64).toNat, by (first | lia | omega)⟩
  have hr2 : r < 64 := by (first | lia | omega)
  obtain ⟨a1, a2, a3⟩ := inv_all ⟨r, hr2⟩ (by show r % 2 = 1; (first | lia | omega))
  rcases hW with rfl | rfl | rfl
  · rw [key r (by (first | lia | omega))]; exact a1
  · rw [key r (by (first | lia | omega))]; exact a2
  · rw [key r (by (first | lia | omega))]; exact a3
set_option maxHeartbeats 4000000 in
theorem c_invlimb {prog : Program} {w : World} {A : Around} {s : Shared} {h : Heap} {k n : Nat} {Q : Value → Shared → Prop} {d ww W : Int} {td tw : Tok}
    (G : Gd w h) (R : Room A (n + 1)) (hW : W = 2 ^ ww.toNat) (hw0 : 2 ≤ ww) (hw1 : ww ≤ 6) (hd : d % 2 = 1) (hd0 : 0 ≤ d) (hd1 : d < 1000000)
    (q : ∀ x t h' k', Grow h h' → 0 ≤ x → x < W → (d * x) % W = 1 → Q (.int x t) (St s h' k')) :
    wpAny (model prog w) A (call (.ref 60) [.int d td, .int ww tw]) Q Nope (St s h k) := by
  have hWs : (ww = 2 ∧ W = 4) ∨ (ww = 3 ∧ W = 8) ∨ (ww = 4 ∧ W = 16) ∨ (ww = 5 ∧ W = 32) ∨ (ww = 6 ∧ W = 64) := by
    have : ww = 2 ∨ ww = 3 ∨ ww = 4 ∨ ww = 5 ∨ ww = 6 := by (first | lia | omega)
    rcases this with rfl | rfl | rfl | rfl | rfl <;> simp at hW <;> (first | lia | omega)
  refine r_enter (n := n) (binds := [(Str.ofString "d", .int d td), (Str.ofString "w", .int ww tw)]) G (Grow.refl _) (Grow.refl _) (Nat.le_refl _) R (by k_is) (by k_is) (BindsTo.of_eq rfl) (by decide) (locs rfl) ?_
  intro L h₁ k₁ m F hm hg hL R'
  have F := Fm.enter (l := [(Str.ofString "w", .int ww), (Str.ofString "d", .int d)]) F hm ⟨rfl, ⟨_, rfl⟩, rfl, ⟨_, rfl⟩, trivial⟩
  clear hm
  refine r_cut (h₀ := h) (σ := Unit) (fun _ => True) (fun _ => [(Str.ofString "w", .int ww), (Str.ofString "d", .int d)]) (fun _ => []) ?_ ?_
  · ktn_no "ms"
    · exfalso; (first | lia | omega)
    · exact Turn.mk () (by assumption) (by ktn_no "names") (by ktn_no "sub") trivial
  rintro _ h₂ k₂ _ F₂
  ktn_no "ms"
  refine' r_while (σ := Int × Int) (fun y => 0 ≤ y.1 ∧ y.1 < W ∧ ((y.2 = 3 ∧ y.1 = d % W) ∨ (y.2 = 6 ∧ (d * y.1) % W = 1))) (fun y => [(Str.ofString "w", .int ww), (Str.ofString "d", .int d), (Str.ofString "whole", .int W), (Str.ofString "found", .int y.1), (Str.ofString "sure", .int y.2)]) (fun _ => []) (fun y => (6 - y.2).toNat) (d % W, 3) ?x_F ?x_n ?x_u ?x_j ?x_turn
  case x_F => assumption
  case x_n => ktn_no "names"
  case x_u => ktn_no "sub"
  case x_j => exact ⟨Int.emod_nonneg _ (by (first | lia | omega)), Int.emod_lt_of_pos _ (by (first | lia | omega)), .inl ⟨rfl, rfl⟩⟩
  case x_turn =>
    rintro ⟨f, su⟩ h₃ k₃ ⟨j1, j2, j3⟩ F₃
    simp only at j1 j2 j3 F₃
    have hm0 := Int.emod_nonneg (2 - d * f) (show W ≠ 0 by (first | lia | omega))
    have hm1 := Int.emod_lt_of_pos (2 - d * f) (show 0 < W by (first | lia | omega))
    ktn_no "ms"
    · refine Turn.mk (f * ((2 - d * f) % W) % W, 2 * su) (by assumption) (by ktn_no "names") (by ktn_no "sub") ⟨⟨Int.emod_nonneg _ (by (first | lia | omega)), Int.emod_lt_of_pos _ (by (first | lia | omega)), ?_⟩, ?_⟩
      · refine .inr ⟨?_, ?_⟩
        · dsimp only; (first | lia | omega)
        · have hf : f = d % W := by (first | lia | omega)
          dsimp only; rw [hf]; exact inv_step hd (by (first | lia | omega))
      · dsimp only; (first | lia | omega)
    · refine q _ _ _ _ (Fm.keep (by assumption)) j1 j2 ?_
      rcases j3 with ⟨z1, z2⟩ | ⟨z1, z2⟩
      · rw [z2]; exact inv_lim hd (by (first | lia | omega))
      · exact z2
set_option maxHeartbeats 4000000 in
theorem c_low {prog : Program} {w : World} {A : Around} {s : Shared} {h : Heap} {k n : Nat} {Q : Value → Shared → Prop} {a : Addr} {ns : List Int} {i : Int} {t : Tok}
    (G : Gd w h) (R : Room A (n + 2)) (e : (Ent.il a ns).on h) (hn : ns.length ≤ 1000000) (hi : 0 ≤ i)
    (q : ∀ c h' k', Grow h h' → h.get? c = none → (Ent.il c (norm (ns.take i.toNat))).on h' → Q (.ref c) (St s h' k')) :
    wpAny (model prog w) A (call (.ref 67) [.ref a, .int i t]) Q Nope (St s h k) := by
  refine r_enter (n := n+1) (binds := [(Str.ofString "a", .ref a), (Str.ofString "n", .int i t)]) G (Grow.refl _) (Grow.refl _) (Nat.le_refl _) R (by k_is) (by k_is) (BindsTo.of_eq rfl) (by decide) (locs rfl) ?_
  intro L h₁ k₁ m F hm hg hL R'
  have F := Fm.enter (l := [(Str.ofString "n", .int i), (Str.ofString "a", .ref a)]) F hm ⟨rfl, ⟨_, rfl⟩, rfl, rfl, trivial⟩
  clear hm
  ktn_no "ms"
  refine c_normal (n := n) (G.grow (Fm.keep (by assumption))) R' (by ktn_no "on") (by rw [List.length_take]; (first | lia | omega)) ?_
  intro c h' k' g nn ec
  have F' := Fm.add (e := .il _ _) (by assumption) g nn ec
  exact q _ _ _ (Fm.keep F') (Fm.fresh (e := .il _ _) F' (by ktn_no "mem")) (by ktn_no "on")
theorem take_step {W : Int} (hW : 1 < W) {nr : List Int} {at' : Nat} {x β V : Int} (hl : at' < nr.length) (hn : Limbs W nr) (h : val W nr - β * W ^ at' = V) (hx : 0 ≤ x + β) :
    Limbs W (nr.set at' ((nr.getD at' 0 - x - β) % W)) ∧ (nr.set at' ((nr.getD at' 0 - x - β) % W)).length = nr.length ∧ 0 ≤ -((nr.getD at' 0 - x - β) / W) ∧
      val W (nr.set at' ((nr.getD at' 0 - x - β) % W)) - -((nr.getD at' 0 - x - β) / W) * W ^ (at' + 1) = V - x * W ^ at' := by
  have g := hn.getD (show 0 < W by (first | lia | omega)) at'
  refine ⟨hn.set _ (Int.emod_nonneg _ (by (first | lia | omega))) (Int.emod_lt_of_pos _ (by (first | lia | omega))), by simp, ?_, ?_⟩
  · have : (nr.getD at' 0 - x - β) / W < 1 := Int.ediv_lt_of_lt_mul (by (first | lia | omega)) (by (first | lia | omega))
    (first | lia | omega)
  · rw [val_set W nr at' _ hl]
    have e : (nr.getD at' 0 - x - β) % W + W * ((nr.getD at' 0 - x - β) / W) = nr.getD at' 0 - x - β := Int.emod_add_mul_ediv _ _
    generalize (nr.getD at' 0 - x - β) % W = r at *
    generalize (nr.getD at' 0 - x - β) / W = d at *
    have e2 : r = nr.getD at' 0 - x - β - W * d := by (first | lia | omega)
    rw [e2, Int.pow_succ, ← h]
    have e3 : W ^ at' * (nr.getD at' 0 - x - β - W * d - nr.getD at' 0) = - (x * W ^ at') - β * W ^ at' - d * (W ^ at' * W) := by
      have : nr.getD at' 0 - x - β - W * d - nr.getD at' 0 = - x - β - W * d := by (first | lia | omega)
      rw [this, Int.mul_sub, Int.mul_sub, Int.mul_neg, Int.mul_comm (W ^ at') x, Int.mul_comm (W ^ at') β, Int.mul_comm d, Int.mul_assoc (W ^ at') W d]
    rw [e3, Int.neg_mul]; (first | lia | omega)
theorem borrow_lt {W r x p β : Int} (hW : 1 < W) (h1 : 0 ≤ r) (h2 : 0 ≤ x) (h3 : x < W) (h4 : 0 ≤ p) (h5 : p < W) (h6 : β < W) : -((r - x * p - β) / W) < W := by
  have h7 : x * p ≤ (W - 1) * (W - 1) := Int.mul_le_mul (by (first | lia | omega)) (by (first | lia | omega)) h4 (by (first | lia | omega))
  have h8 : (W - 1) * (W - 1) = W * W - 2 * W + 1 := by rw [Int.sub_mul, Int.mul_sub]; (first | lia | omega)
  have h9 : -(W - 1) ≤ (r - x * p - β) / W := by
    refine (Int.le_ediv_iff_mul_le (by (first | lia | omega))).mpr ?_
    have : -(W - 1) * W = W - W * W := by rw [Int.neg_mul, Int.sub_mul]; (first | lia | omega)
    (first | lia | omega)
  (first | lia | omega)
set_option maxHeartbeats 4000000 in
theorem c_take {prog : Program} {w : World} {A : Around} {s : Shared} {h : Heap} {k n : Nat} {Q : Value → Shared → Prop} {hb : Heap} {row b : Addr} {nr nb : List Int} {limb spot ww W : Int} {tl ts tw : Tok}
    (Gb : Gd w hb) (kb : Grow hb h) (hr : hb.get? row = none) (R : Room A (n + 1)) (er : (Ent.il row nr).on h) (eb : (Ent.il b nb).on h) (hne : b ≠ row)
    (hW : W = 2 ^ ww.toNat) (hw0 : 2 ≤ ww) (hw1 : ww ≤ 6) (hW1 : 1 < W) (hW6 : W ≤ 64) (lr : Limbs W nr) (lb : Limbs W nb) (hn : nr.length ≤ 100000) (h0 : 0 ≤ limb) (h1 : limb < W) (s0 : 0 ≤ spot) (s1 : spot + nb.length ≤ nr.length)
    (q : ∀ β t h' k' nr', (∀ b o, b ≠ row → h.get? b = some o → h'.get? b = some o) → (Ent.il row nr').on h' → Limbs W nr' → nr'.length = nr.length → 0 ≤ β →
      val W nr' - β * W ^ nr.length = val W nr - limb * val W nb * W ^ spot.toNat → Q (.int β t) (St s h' k')) :
    wpAny (model prog w) A (call (.ref 86) [.ref row, .ref b, .int limb tl, .int spot ts, .int ww tw]) Q Nope (St s h k) := by
  have kh : Grow (h.hide row) h := fun b o e => Heap.of_hide e
  have hsz : (h.hide row).objs.size = h.objs.size := Heap.hide_size h row
  have hide : ∀ b o, b ≠ row → h.get? b = some o → (h.hide row).get? b = some o := fun b o hb e => (Heap.hide_ne h hb).trans e
  have kbh : Grow hb (h.hide row) := fun b o e => hide b o (fun z => by rw [z, hr] at e; cases e) (kb b o e)
  have G : Gd w (h.hide row) := Gb.grow kbh
  have eb' : (Ent.il b nb).on (h.hide row) := eb.moved fun o e => hide b o hne e
  generalize hH : h.hide row = H at *
  refine r_enter (n := n) (h₀ := H) (binds := [(Str.ofString "row", .ref row), (Str.ofString "b", .ref b), (Str.ofString "limb", .int limb tl), (Str.ofString "spot", .int spot ts), (Str.ofString "w", .int ww tw)]) G (Grow.refl _) kh (Nat.le_of_eq hsz) R (by k_is) (by k_is) (BindsTo.of_eq rfl) (by decide) (locs rfl) ?_
  intro L h₁ k₁ m F hm hg hL R'
  have F := Fm.enter (l := [(Str.ofString "w", .int ww), (Str.ofString "spot", .int spot), (Str.ofString "limb", .int limb), (Str.ofString "b", .ref b), (Str.ofString "row", .ref row)]) F hm ⟨rfl, ⟨_, rfl⟩, rfl, ⟨_, rfl⟩, rfl, ⟨_, rfl⟩, rfl, rfl, rfl, rfl, trivial⟩
  clear hm
  have hrow : H.get? row = none := by rw [← hH]; exact Heap.hide_self _ _
  have F : Fm H L h₁ [(Str.ofString "w", .int ww), (Str.ofString "spot", .int spot), (Str.ofString "limb", .int limb), (Str.ofString "b", .ref b), (Str.ofString "row", .ref row)] [.il row nr] := by
    obtain ⟨m', f, c⟩ := F.fr
    refine ⟨⟨m', f, c⟩, fun e he => ?_, by simp⟩
    rw [List.mem_singleton.mp he]
    refine ⟨er.grow hg, fun z => ?_, hrow⟩
    have := er.lt
    have z' : row = L := z
    exact absurd (z' ▸ this : L < h.objs.size) (Nat.not_lt.mpr hL)
  ktn_no "ms"
  obtain ⟨S, hS⟩ : ∃ S : Nat, spot = S := ⟨spot.toNat, by (first | lia | omega)⟩
  subst hS
  refine' r_forList (σ := List Int × Int × Int) (ns := nb) (fun i y => y.2.2 = ((S + i : Nat) : Int) ∧ y.1.length = nr.length ∧ Limbs W y.1 ∧ 0 ≤ y.2.1 ∧ y.2.1 < W ∧ val W y.1 - y.2.1 * W ^ (S + i) = val W nr - limb * val W (nb.take i) * W ^ S)
    (fun y => [(Str.ofString "row", .ref row), (Str.ofString "limb", .int limb), (Str.ofString "whole", .int W), (Str.ofString "borrow", .int y.2.1), (Str.ofString "at", .int y.2.2)]) (fun y => [.il row y.1]) (nr, 0, S) ?x_R ?x_e ?x_F ?x_n ?x_u ?x_j ?x_turn ?x_done
  case x_F => assumption
  case x_R => exact R'.le (Nat.zero_le _)
  case x_e => assumption
  case x_n => ktn_no "names"
  case x_u => ktn_no "sub"
  case x_j => exact ⟨rfl, rfl, lr, Int.le_refl _, by dsimp only; (first | lia | omega), by simp [val]⟩
  case x_turn =>
    rintro i ⟨f, c, at'⟩ h₃ k₃ ps hi ⟨j0, j1, j2, j3, j4, j5⟩ F₃
    simp only at j0 j1 j2 j3 j4 j5 F₃
    subst j0
    have hib := lb.getD (show 0 < W by (first | lia | omega)) i
    have hia := j2.getD (show 0 < W by (first | lia | omega)) (S + i)
    have hm : IntMulOk limb (nb.getD i 0) := IntMulOk.of_left (PySem.intBits_le_64 (by (first | lia | omega)) (by (first | lia | omega)))
    ktn_no "ms"
    simp only [Int.toNat_natCast] at *
    have hp : 0 ≤ limb * nb.getD i 0 := Int.mul_nonneg h0 hib.1
    obtain ⟨s1, s2, s3, s4⟩ := take_step hW1 (at' := S + i) (x := limb * nb.getD i 0) (by (first | lia | omega)) j2 j5 (by (first | lia | omega))
    refine Turn.mk (f.set (S + i) ((f.getD (S + i) 0 - limb * nb.getD i 0 - c) % W), -((f.getD (S + i) 0 - limb * nb.getD i 0 - c) / W), ((S + (i + 1) : Nat) : Int)) (by assumption) (by ktn_no "names") (by ktn_no "sub") ⟨rfl, s2.trans j1, s1, s3, borrow_lt hW1 hia.1 h0 h1 hib.1 hib.2 j4, ?_⟩
    dsimp only
    rw [← Nat.add_assoc, s4, take_succ_val, Int.mul_add, Int.add_mul, Int.pow_add, Int.mul_assoc limb (W ^ i * _), Int.mul_assoc limb (nb.getD i 0), Int.mul_comm (W ^ i) (nb.getD i 0), Int.mul_assoc (nb.getD i 0), Int.mul_comm (W ^ i) (W ^ S)]
    (first | lia | omega)
  case x_done =>
    rintro ⟨f, c, at'⟩ h₃ k₃ ⟨j0, j1, j2, j3, j4, j5⟩ F₃
    simp only at j0 j1 j2 j3 j4 j5 F₃
    rw [List.take_length] at j5
    ktn_no "ms"
    refine' r_while (σ := List Int × Int × Nat) (fun y => y.2.2 ≤ nr.length ∧ y.1.length = nr.length ∧ Limbs W y.1 ∧ 0 ≤ y.2.1 ∧ val W y.1 - y.2.1 * W ^ y.2.2 = val W nr - limb * val W nb * W ^ S)
      (fun y => [(Str.ofString "row", .ref row), (Str.ofString "whole", .int W), (Str.ofString "borrow", .int y.2.1), (Str.ofString "at", .int (y.2.2 : Nat))]) (fun y => [.il row y.1]) (fun y => nr.length - y.2.2) (f, c, S + nb.length) ?x_F2 ?x_n2 ?x_u2 ?x_j2 ?x_turn2
    case x_F2 => assumption
    case x_n2 => rw [j0] at F₃; ktn_no "names"
    case x_u2 => ktn_no "sub"
    case x_j2 => exact ⟨by dsimp only; (first | lia | omega), j1, j2, j3, j5⟩
    case x_turn2 =>
      rintro ⟨f, c, at'⟩ h₄ k₄ ⟨j0, j1, j2, j3, j4⟩ F₄
      simp only at j0 j1 j2 j3 j4 F₄
      ktn_no "ms"
      · refine q _ _ _ _ f (fun b o hb e => ?_) ?_ j2 j1 j3 ?_
        · exact Fm.keep (by assumption) b o (hide b o hb e)
        · ktn_no "on"
        · have : c = 0 := by (first | lia | omega)
          rw [this, Int.zero_mul] at j4 ⊢; exact j4
      · simp only [Int.toNat_natCast] at *
        have hia := j2.getD (show 0 < W by (first | lia | omega)) at'
        obtain ⟨s1, s2, s3, s4⟩ := take_step hW1 (at' := at') (x := 0) (by (first | lia | omega)) j2 j4 (by (first | lia | omega))
        simp only [Int.sub_zero, Int.zero_mul] at s1 s2 s3 s4
        refine Turn.mk (f.set at' ((f.getD at' 0 - c) % W), -((f.getD at' 0 - c) / W), at' + 1) (by assumption) (by ktn_no "names") (by ktn_no "sub") ⟨⟨by dsimp only; (first | lia | omega), s2.trans j1, s1, s3, s4⟩, by dsimp only; (first | lia | omega)⟩
      · refine q _ _ _ _ f (fun b o hb e => ?_) ?_ j2 j1 j3 ?_
        · exact Fm.keep (by assumption) b o (hide b o hb e)
        · ktn_no "on"
        · have : at' = nr.length := by (first | lia | omega)
          rw [this] at j4; exact j4
theorem mul_inner {W : Int} (hW : 1 < W) {f : List Int} {p : Nat} {c x V : Int} (hl : p < f.length) (hn : Limbs W f) (h : val W f + c * W ^ p = V) (hc : 0 ≤ c) (hcW : c < W) (hx : 0 ≤ x) (hxW : x ≤ (W - 1) * (W - 1)) :
    Limbs W (f.set p ((c + (f.getD p 0 + x)) % W)) ∧ 0 ≤ (c + (f.getD p 0 + x)) / W ∧ (c + (f.getD p 0 + x)) / W < W ∧ val W (f.set p ((c + (f.getD p 0 + x)) % W)) + (c + (f.getD p 0 + x)) / W * W ^ (p + 1) = V + x * W ^ p := by
  have g := hn.getD (show 0 < W by (first | lia | omega)) p
  refine ⟨hn.set _ (Int.emod_nonneg _ (by (first | lia | omega))) (Int.emod_lt_of_pos _ (by (first | lia | omega))), Int.ediv_nonneg (by (first | lia | omega)) (by (first | lia | omega)), Int.ediv_lt_of_lt_mul (by (first | lia | omega)) ?_, ?_⟩
  · have : (W - 1) * (W - 1) = W * W - 2 * W + 1 := by rw [Int.sub_mul, Int.mul_sub]; (first | lia | omega)
    (first | lia | omega)
  · rw [val_set W f p _ hl]
    have e : (c + (f.getD p 0 + x)) % W + W * ((c + (f.getD p 0 + x)) / W) = c + (f.getD p 0 + x) := Int.emod_add_mul_ediv _ _
    generalize (c + (f.getD p 0 + x)) % W = r at *
    generalize (c + (f.getD p 0 + x)) / W = d at *
    have e2 : r - f.getD p 0 = c + x - W * d := by (first | lia | omega)
    rw [e2, Int.pow_succ, ← h, Int.mul_sub, Int.mul_add, Int.mul_comm (W ^ p) c, Int.mul_comm (W ^ p) x, Int.mul_comm d, Int.mul_assoc (W ^ p) W d]; (first | lia | omega)
set_option maxHeartbeats 8000000 in
theorem c_mul {prog : Program} {w : World} {A : Around} {s : Shared} {h : Heap} {k n : Nat} {Q : Value → Shared → Prop} {a b : Addr} {na nb : List Int} {ww W : Int} {tw : Tok}
    (G : Gd w h) (R : Room A (n + 2)) (ea : (Ent.il a na).on h) (eb : (Ent.il b nb).on h) (hna : na.length ≤ 100000) (hnb : nb.length ≤ 100000)
    (hW : W = 2 ^ ww.toNat) (hw0 : 2 ≤ ww) (hw1 : ww ≤ 6) (hW1 : 1 < W) (hW6 : W ≤ 64) (la : Limbs W na) (lb : Limbs W nb)
    (q : ∀ c h' k' nc, Grow h h' → h.get? c = none → (Ent.il c nc).on h' → Num W (val W na * val W nb) nc → Q (.ref c) (St s h' k')) :
    wpAny (model prog w) A (call (.ref 100) [.ref a, .ref b, .int ww tw]) Q Nope (St s h k) := by
  refine r_enter (n := n+1) (binds := [(Str.ofString "a", .ref a), (Str.ofString "b", .ref b), (Str.ofString "w", .int ww tw)]) G (Grow.refl _) (Grow.refl _) (Nat.le_refl _) R (by k_is) (by k_is) (BindsTo.of_eq rfl) (by decide) (locs rfl) ?_
  intro L h₁ k₁ m F hm hg hL R'
  have F := Fm.enter (l := [(Str.ofString "w", .int ww), (Str.ofString "b", .ref b), (Str.ofString "a", .ref a)]) F hm ⟨rfl, ⟨_, rfl⟩, rfl, rfl, rfl, rfl, trivial⟩
  clear hm
  ktn_no "ms"
  refine' r_newIl (ns := [0]) ?x_F ?x_hi ?x_hn ?_
  case x_F => assumption
  case x_hi => exact .cons _ _ .nil
  case x_hn => exact Nat.le_of_ble_eq_true rfl
  intro z h₂ F₂
  ktn_no "ms"
  refine' r_rep (x := 0) ?x_F ?x_e ?x_hn ?_ ?x_hlo
  case x_F => assumption
  case x_e => ktn_no "on"
  case x_hn => (first | lia | omega)
  case x_hlo => (first | lia | omega)
  intro D h₃ F₃
  have hz : ((na.length : Int) + (nb.length : Int)).toNat = na.length + nb.length := by (first | lia | omega)
  rw [hz] at F₃
  ktn_no "ms"
  refine' r_forEnum (σ := List Int) (ns := na) (fun i f => f.length = na.length + nb.length ∧ Limbs W f ∧ val W f = val W (na.take i) * val W nb ∧ ∀ j, i + nb.length ≤ j → f.getD j 0 = 0)
    (fun y => [(Str.ofString "b", .ref b), (Str.ofString "w", .int ww), (Str.ofString "mask", .int (W - 1)), (Str.ofString "found", .ref D)]) (fun y => [.il D y]) (List.replicate (na.length + nb.length) 0) ?x_R ?x_e ?x_F ?x_n ?x_u ?x_j ?x_turn ?x_done
  case x_F => assumption
  case x_R => exact R'.le (Nat.zero_le _)
  case x_e => assumption
  case x_n => ktn_no "names"
  case x_u => ktn_no "sub"
  case x_j => exact ⟨by simp, Limbs.zeros (by (first | lia | omega)) _, by rw [val_zeros]; simp [val], fun j _ => by simp [List.getD, List.getElem?_replicate]; split <;> rfl⟩
  case x_done =>
    rintro f h₄ k₄ ⟨j1, j2, j3, j4⟩ F₄
    rw [List.take_length] at j3
    ktn_no "ms"
    refine c_normal (n := n) (G.grow (Fm.keep (by assumption))) R' (by ktn_no "on") (by (first | lia | omega)) ?_
    intro c h' k' g nn ec
    have F' := Fm.add (e := .il _ _) (by assumption) g nn ec
    exact q _ _ _ _ (Fm.keep F') (Fm.fresh (e := .il _ _) F' (by ktn_no "mem")) (by ktn_no "on") (j3 ▸ Num.of j2)
  case x_turn =>
    rintro i f h₄ k₄ ps hi ⟨j1, j2, j3, j4⟩ F₄
    have hx := la.getD (show 0 < W by (first | lia | omega)) i
    ktn_no "ms"
    refine' r_forEnum (σ := List Int × Int) (ns := nb) (fun t y => y.1.length = na.length + nb.length ∧ Limbs W y.1 ∧ 0 ≤ y.2 ∧ y.2 < W ∧ val W y.1 + y.2 * W ^ (i + t) = val W f + na.getD i 0 * val W (nb.take t) * W ^ i ∧ ∀ j, i + t ≤ j → y.1.getD j 0 = f.getD j 0)
      (fun y => [(Str.ofString "b", .ref b), (Str.ofString "w", .int ww), (Str.ofString "mask", .int (W - 1)), (Str.ofString "found", .ref D), (Str.ofString "at", .int (i : Nat)), (Str.ofString "limb", .int (na.getD i 0)), (Str.ofString "carry", .int y.2)]) (fun y => .il D y.1 :: ps) (f, 0) ?x_R2 ?x_e2 ?x_F2 ?x_n2 ?x_u2 ?x_j2 ?x_turn2 ?x_done2
    case x_F2 => assumption
    case x_R2 => exact R'.le (Nat.zero_le _)
    case x_e2 => assumption
    case x_n2 => ktn_no "names"
    case x_u2 => ktn_no "sub"
    case x_j2 => exact ⟨j1, j2, Int.le_refl _, by dsimp only; (first | lia | omega), by simp [val], fun _ _ => rfl⟩
    case x_turn2 =>
      rintro t ⟨f', c⟩ h₅ k₅ ps' ht ⟨z1, z2, z3, z4, z5, z6⟩ F₅
      simp only at z1 z2 z3 z4 z5 z6 F₅
      have hy := lb.getD (show 0 < W by (first | lia | omega)) t
      have hm : IntMulOk (na.getD i 0) (nb.getD t 0) := IntMulOk.of_left (PySem.intBits_le_64 (by (first | lia | omega)) (by (first | lia | omega)))
      ktn_no "ms"
      rw [show ((i : Int) + (t : Int)).toNat = i + t by (first | lia | omega)] at *
      obtain ⟨s1, s2, s3, s4⟩ := mul_inner hW1 (p := i + t) (x := na.getD i 0 * nb.getD t 0) (by (first | lia | omega)) z2 z5 z3 z4 (Int.mul_nonneg hx.1 hy.1) (Int.mul_le_mul (by (first | lia | omega)) (by (first | lia | omega)) hy.1 (by (first | lia | omega)))
      refine Turn.mk (f'.set (i + t) ((c + (f'.getD (i + t) 0 + na.getD i 0 * nb.getD t 0)) % W), (c + (f'.getD (i + t) 0 + na.getD i 0 * nb.getD t 0)) / W) (by assumption) (by ktn_no "names") (by ktn_no "sub") ⟨by simpa using z1, s1, s2, s3, ?_, fun j hj => ?_⟩
      · dsimp only
        rw [← Nat.add_assoc, s4, take_succ_val, Int.mul_add, Int.add_mul, Int.pow_add, Int.mul_comm (W ^ t) (nb.getD t 0), ← Int.mul_assoc (na.getD i 0) (nb.getD t 0), Int.mul_assoc (na.getD i 0 * nb.getD t 0) (W ^ t), Int.mul_comm (W ^ t) (W ^ i)]
        (first | lia | omega)
      · dsimp only
        rw [← z6 j (by (first | lia | omega))]
        have hne : i + t ≠ j := by (first | lia | omega)
        simp [List.getD, hne]
    case x_done2 =>
      rintro ⟨f', c⟩ h₅ k₅ ⟨z1, z2, z3, z4, z5, z6⟩ F₅
      simp only at z1 z2 z3 z4 z5 z6 F₅
      rw [List.take_length] at z5
      ktn_no "ms"
      rw [show ((i : Int) + (nb.length : Int)).toNat = i + nb.length by (first | lia | omega)] at *
      refine Turn.mk (f'.set (i + nb.length) c) (by assumption) (by ktn_no "names") (by ktn_no "sub") ⟨by simpa using z1, z2.set _ z3 z4, ?_, fun j hj => ?_⟩
      · have hzz : f'.getD (i + nb.length) 0 = 0 := (z6 _ (Nat.le_refl _)).trans (j4 _ (Nat.le_refl _))
        rw [val_set W f' _ _ (by (first | lia | omega)), hzz, Int.sub_zero, Int.mul_comm (W ^ _) c, z5, j3, take_succ_val, Int.add_mul, Int.mul_comm (W ^ i) (na.getD i 0), Int.mul_assoc (na.getD i 0) (W ^ i), Int.mul_comm (W ^ i) (val W nb), ← Int.mul_assoc]
      · have h1 := z6 j (by (first | lia | omega))
        have h2 := j4 j (by (first | lia | omega))
        have hne : i + nb.length ≠ j := by (first | lia | omega)
        have h3 : (f'.set (i + nb.length) c).getD j 0 = f'.getD j 0 := by simp [List.getD, hne]
        exact h3.trans (h1.trans h2)
set_option maxHeartbeats 4000000 in
theorem c_pip {prog : Program} {w : World} {A : Around} {s : Shared} {h : Heap} {k n : Nat} {Q : Value → Shared → Prop} {hb : Heap} {fr r : Addr} {ns : List Int} {i many : Int} {tm : Tok}
    (Gb : Gd w hb) (kb : Grow hb h) (hr : hb.get? fr = none) (R : Room A (n + 1)) (er : (Ent.al fr [.int i, .ref r]).on h) (eb : (Ent.il r ns).on h) (hne : r ≠ fr)
    (hn : ns.length ≤ 1000) (i0 : 0 ≤ i) (i1 : i < 1000) (m0 : 0 < many) (m1 : many < 1000)
    (q : ∀ x t h' k', (∀ b o, b ≠ fr → h.get? b = some o → h'.get? b = some o) → (Ent.al fr [.int (i + 1), .ref r]).on h' → 0 ≤ x → x < many → Q (.int x t) (St s h' k')) :
    wpAny (model prog w) A (call (.ref 107) [.ref fr, .int many tm]) Q Nope (St s h k) := by
  have kh : Grow (h.hide fr) h := fun b o e => Heap.of_hide e
  have hsz : (h.hide fr).objs.size = h.objs.size := Heap.hide_size h fr
  have hide : ∀ b o, b ≠ fr → h.get? b = some o → (h.hide fr).get? b = some o := fun b o hb e => (Heap.hide_ne h hb).trans e
  have kbh : Grow hb (h.hide fr) := fun b o e => hide b o (fun z => by rw [z, hr] at e; cases e) (kb b o e)
  have G : Gd w (h.hide fr) := Gb.grow kbh
  have eb' : (Ent.il r ns).on (h.hide fr) := eb.moved fun o e => hide r o hne e
  generalize hH : h.hide fr = H at *
  refine r_enter (n := n) (h₀ := H) (binds := [(Str.ofString "fruit", .ref fr), (Str.ofString "many", .int many tm)]) G (Grow.refl _) kh (Nat.le_of_eq hsz) R (by k_is) (by k_is) (BindsTo.of_eq rfl) (by decide) (locs rfl) ?_
  intro L h₁ k₁ m F hm hg hL R'
  have F := Fm.enter (l := [(Str.ofString "many", .int many), (Str.ofString "fruit", .ref fr)]) F hm ⟨rfl, ⟨_, rfl⟩, rfl, rfl, trivial⟩
  clear hm
  have hrow : H.get? fr = none := by rw [← hH]; exact Heap.hide_self _ _
  have F : Fm H L h₁ [(Str.ofString "many", .int many), (Str.ofString "fruit", .ref fr)] [.al fr [.int i, .ref r]] := by
    obtain ⟨m', f, c⟩ := F.fr
    refine ⟨⟨m', f, c⟩, fun e he => ?_, by simp⟩
    rw [List.mem_singleton.mp he]
    refine ⟨er.grow hg, fun z => ?_, hrow⟩
    have := er.lt
    have z' : fr = L := z
    exact absurd (z' ▸ this : L < h.objs.size) (Nat.not_lt.mpr hL)
  clear er eb
  ktn_no "ms"
  · refine q _ _ _ _ (fun b o hb e => Fm.keep (by assumption) b o (hide b o hb e)) (by ktn_no "on") (Int.emod_nonneg _ (by (first | lia | omega))) (Int.emod_lt_of_pos _ m0)
  · refine q _ _ _ _ (fun b o hb e => Fm.keep (by assumption) b o (hide b o hb e)) (by ktn_no "on") (Int.emod_nonneg _ (by (first | lia | omega))) (Int.emod_lt_of_pos _ m0)
theorem norm_snoc : ∀ (f : List Int) {x : Int}, x ≠ 0 → norm (f ++ [x]) = f ++ [x]
  | [], x, h => by simp [norm, h]
  | y :: r, x, h => by
    show norm (y :: (r ++ [x])) = _
    rw [norm, norm_snoc r h, if_neg (by simp)]; rfl
set_option maxHeartbeats 4000000 in
theorem c_limbs {prog : Program} {w : World} {A : Around} {s : Shared} {h : Heap} {k n : Nat} {Q : Value → Shared → Prop} {N ww W : Int} {mm : Nat} {tn tw : Tok}
    (G : Gd w h) (R : Room A (n + 1)) (hW : W = 2 ^ ww.toNat) (hw0 : 2 ≤ ww) (hw1 : ww ≤ 6) (hW1 : 1 < W) (hW6 : W ≤ 64) (h0 : 0 ≤ N) (hN : N < W ^ mm) (hmm : mm ≤ 1000)
    (q : ∀ c h' k' nc, Grow h h' → h.get? c = none → (Ent.il c nc).on h' → Num W N nc → Q (.ref c) (St s h' k')) :
    wpAny (model prog w) A (call (.ref 114) [.int N tn, .int ww tw]) Q Nope (St s h k) := by
  refine r_enter (n := n) (binds := [(Str.ofString "number", .int N tn), (Str.ofString "w", .int ww tw)]) G (Grow.refl _) (Grow.refl _) (Nat.le_refl _) R (by k_is) (by k_is) (BindsTo.of_eq rfl) (by decide) (locs rfl) ?_
  intro L h₁ k₁ m F hm hg hL R'
  have F := Fm.enter (l := [(Str.ofString "w", .int ww), (Str.ofString "number", .int N)]) F hm ⟨rfl, ⟨_, rfl⟩, rfl, ⟨_, rfl⟩, trivial⟩
  clear hm
  ktn_no "ms"
  refine' r_newGl ?x_F ?_
  case x_F => assumption
  intro D h₂ F₂
  ktn_no "ms"
  refine' r_while (σ := List Int × Int) (fun y => 0 ≤ y.2 ∧ Limbs W y.1 ∧ y.1.length ≤ mm ∧ y.2 < W ^ (mm - y.1.length) ∧ val W y.1 + W ^ y.1.length * y.2 = N ∧ (y.2 = 0 → norm y.1 = y.1))
    (fun y => [(Str.ofString "number", .int y.2), (Str.ofString "w", .int ww), (Str.ofString "found", .ref D)]) (fun y => [.gl D y.1]) (fun y => y.2.toNat) ([], N) ?x_F ?x_n ?x_u ?x_j ?x_turn
  case x_F => assumption
  case x_n => ktn_no "names"
  case x_u => ktn_no "sub"
  case x_j => exact ⟨h0, .nil, Nat.zero_le _, by simpa using hN, by simp [val], fun _ => rfl⟩
  case x_turn =>
    rintro ⟨f, x⟩ h₃ k₃ ⟨j1, j2, j3, j4, j5, j6⟩ F₃
    simp only at j1 j2 j3 j4 j5 j6 F₃
    ktn_no "ms"
    · have e : x % W + W * (x / W) = x := Int.emod_add_mul_ediv _ _
      have hlt : f.length < mm := by
        apply Classical.byContradiction; intro c
        have : mm - f.length = 0 := by (first | lia | omega)
        rw [this] at j4; simp at j4; (first | lia | omega)
      have r0 := Int.emod_nonneg x (show W ≠ 0 by (first | lia | omega))
      have r1 := Int.emod_lt_of_pos x (show 0 < W by (first | lia | omega))
      refine Turn.mk (f ++ [x % W], x / W) (by assumption) (by ktn_no "names") (by ktn_no "sub") ⟨⟨Int.ediv_nonneg j1 (by (first | lia | omega)), j2.append (.cons r0 r1 .nil), by simp; (first | lia | omega), ?_, ?_, ?_⟩, ?_⟩
      · dsimp only
        refine Int.ediv_lt_of_lt_mul (by (first | lia | omega)) ?_
        rw [← Int.pow_succ]
        have z : (mm - (f ++ [x % W]).length).succ = mm - f.length := by simp; (first | lia | omega)
        rw [z]; exact j4
      · dsimp only
        rw [val_snoc, List.length_append, List.length_singleton, Int.pow_succ, Int.mul_assoc, Int.add_assoc, ← Int.mul_add, e, j5]
      · intro hz
        refine norm_snoc f ?_
        simp only at hz
        rw [hz] at e; (first | lia | omega)
      · dsimp only
        have : x / W < x := Int.ediv_lt_of_lt_mul (by (first | lia | omega)) (by have := Int.mul_le_mul_of_nonneg_left (show (2 : Int) ≤ W by (first | lia | omega)) j1; (first | lia | omega))
        (first | lia | omega)
    · have hx : x = 0 := by (first | lia | omega)
      subst hx
      rw [Int.mul_zero, Int.add_zero] at j5
      exact q _ _ _ _ (Fm.keep (by assumption)) (Fm.fresh (e := .gl _ _) (by assumption) (by ktn_no "mem")) (by ktn_no "on") ⟨j2, j5, j6 rfl⟩
theorem two_pow {ww W : Int} (hW : W = 2 ^ ww.toNat) (h0 : 0 ≤ ww) (i : Nat) : (2 : Int) ^ (ww * (i : Int)).toNat = W ^ i := by
  have e : (ww * (i : Int)).toNat = ww.toNat * i := by
    obtain ⟨m, rfl⟩ : ∃ m : Nat, ww = m := ⟨ww.toNat, by (first | lia | omega)⟩
    rw [← Int.natCast_mul, Int.toNat_natCast, Int.toNat_natCast]
  rw [e, hW]
  have := Nat.pow_mul 2 ww.toNat i
  have h2 : ((2 ^ (ww.toNat * i) : Nat) : Int) = (((2 ^ ww.toNat) ^ i : Nat) : Int) := by rw [this]
  simpa using h2
set_option maxHeartbeats 4000000 in
theorem c_worth {prog : Program} {w : World} {A : Around} {s : Shared} {h : Heap} {k n : Nat} {Q : Value → Shared → Prop} {a : Addr} {na : List Int} {ww W : Int} {tw : Tok}
    (G : Gd w h) (R : Room A (n + 1)) (ea : (Ent.il a na).on h) (hna : na.length ≤ 1000)
    (hW : W = 2 ^ ww.toNat) (hw0 : 2 ≤ ww) (hw1 : ww ≤ 6) (hW1 : 1 < W) (hW6 : W ≤ 64) (la : Limbs W na)
    (q : ∀ t h' k', Grow h h' → Q (.int (val W na) t) (St s h' k')) :
    wpAny (model prog w) A (call (.ref 119) [.ref a, .int ww tw]) Q Nope (St s h k) := by
  refine r_enterC (n := n) (binds := [(Str.ofString "row", .ref a), (Str.ofString "w", .int ww tw)]) (fun L => [.cell (L + 1) (.int ww)]) (ln := [(Str.ofString "row", .ref a)]) G R (by k_is) (by k_is) (BindsTo.of_eq rfl) rfl (by decide +kernel) (fun L => ce_int rfl ce_nil) (fun L => rfl) (by exact bd_ref bd_nil) [Str.ofString "w", Str.ofString "row"] rfl (by decide +kernel) ?_
  intro L h₁ k₁ F hg hL R'
  ktn_no "ms"
  refine r_lcE (cl := _) rfl ?_
  ktn_no "ms"
  refine' r_cEnum (ns := na) (σ := List Int) (fun i y => y.length = i ∧ y.sum = val W (na.take i)) (fun _ => []) (fun y => y.map .int) [] [.cell (L + 1) (.int ww)] ?x_R ?x_e ?x_F ?x_hn ?x_u ?x_j ?x_jo ?x_turn ?x_done
  case x_F => assumption
  case x_R => exact R'.le (Nat.zero_le _)
  case x_e => assumption
  case x_hn => (first | lia | omega)
  case x_u => ktn_no "sub"
  case x_j => exact ⟨rfl, rfl⟩
  case x_jo => rfl
  case x_turn =>
    rintro i y h₃ k₃ C qs hi ⟨j1, j2⟩ hq F₃
    have m1 := hq (.cell (L + 1) (.int ww)) (.head _)
    have ga := la.getD (show 0 < W by (first | lia | omega)) i
    have b0 : 0 ≤ ww * (i : Int) := Int.mul_nonneg (by (first | lia | omega)) (by (first | lia | omega))
    have b1 : ww * (i : Int) ≤ 1000000 := by
      have := Int.mul_le_mul hw1 (show (i : Int) ≤ 1000 by (first | lia | omega)) (by (first | lia | omega)) (by (first | lia | omega))
      (first | lia | omega)
    have hm : IntMulOk (na.getD i 0) (2 ^ (ww * (i : Int)).toNat) := IntMulOk.of_left (PySem.intBits_le_64 (by (first | lia | omega)) (by (first | lia | omega)))
    have hm2 : IntMulOk ww (i : Int) := IntMulOk.of_left (PySem.intBits_le_64 (by (first | lia | omega)) (by (first | lia | omega)))
    ktn_no "ms"
    refine ⟨y ++ [na.getD i 0 * 2 ^ (ww * (i : Int)).toNat], _, _, .int (na.getD i 0 * 2 ^ (ww * (i : Int)).toNat), rfl, ⟨_, rfl⟩, ⟨by simp [j1], ?_⟩, by simp, by assumption⟩
    rw [List.sum_append, j2, take_succ_val, two_pow hW (by (first | lia | omega))]
    simp [Int.mul_comm]
  case x_done =>
    rintro D C y h₃ k₃ m' oC ⟨j1, j2⟩ hNs F₃
    refine post_none hNs F₃ (fun h₄ F₄ => ?_)
    have F₅ := F₄.gaInts
    rw [List.take_length] at j2
    ktn_no "ms"
    rw [j2]
    exact q _ _ _ (Fm.keep (by assumption))
set_option maxHeartbeats 4000000 in
theorem c_common {prog : Program} {w : World} {A : Around} {s : Shared} {h : Heap} {k n : Nat} {Q : Value → Shared → Prop} {x y : Nat} {tx ty : Tok} (G : Gd w h) (R : Room A (n + 1))
    (q : ∀ t h' k', Grow h h' → Q (.int (Nat.gcd y x : Nat) t) (St s h' k')) :
    wpAny (model prog w) A (call (.ref 126) [.int (x : Nat) tx, .int (y : Nat) ty]) Q Nope (St s h k) := by
  refine r_enter (n := n) (binds := [(Str.ofString "one", .int ↑x tx), (Str.ofString "other", .int ↑y ty)]) G (Grow.refl _) (Grow.refl _) (Nat.le_refl _) R (by k_is) (by k_is) (BindsTo.of_eq rfl) (by decide) (locs rfl) ?_
  intro L h₁ k₁ m F hm hg hL R'
  have F := Fm.enter (l := [(Str.ofString "other", .int ↑y), (Str.ofString "one", .int ↑x)]) F hm ⟨rfl, ⟨_, rfl⟩, rfl, ⟨_, rfl⟩, trivial⟩
  clear hm
  ktn_no "ms"
  refine' r_while (σ := Nat × Nat) (fun z => Nat.gcd z.2 z.1 = Nat.gcd y x) (fun z => [(Str.ofString "one", .int (z.1 : Nat)), (Str.ofString "other", .int (z.2 : Nat))]) (fun _ => []) (fun z => z.2) (x, y) ?x_F ?x_n ?x_u ?x_j ?x_turn
  case x_F => assumption
  case x_n => ktn_no "names"
  case x_u => ktn_no "sub"
  case x_j => rfl
  case x_turn =>
    rintro ⟨a, b⟩ h₃ k₃ j F₃
    simp only at j F₃
    ktn_no "ms"
    · refine Turn.mk (b, a % b) (by assumption) (by ktn_no "names") (by ktn_no "sub") ⟨?_, ?_⟩
      · dsimp only; rw [← j, ← Nat.gcd_rec]
      · exact Nat.mod_lt _ (by (first | lia | omega))
    · have hb : b = 0 := by (first | lia | omega)
      subst hb
      rw [Nat.gcd_zero_left] at j
      subst j
      exact q _ _ _ (Fm.keep (by assumption))
set_option maxHeartbeats 4000000 in
theorem c_order {prog : Program} {w : World} {A : Around} {s : Shared} {h : Heap} {k n : Nat} {Q : Value → Shared → Prop} {base mm : Int} {tb tm : Tok} (G : Gd w h) (R : Room A (n + 1)) (hb0 : 0 < base) (hb1 : base < 1000) (hm0 : 0 < mm) (hm1 : mm < 1000) (hex : ∃ o : Nat, 1 ≤ o ∧ o ≤ 64 ∧ base ^ o % mm = 1 % mm)
    (q : ∀ (o : Nat) t h' k', Grow h h' → 1 ≤ o → o ≤ 64 → base ^ o % mm = 1 % mm → (∀ j, 1 ≤ j → j < o → base ^ j % mm ≠ 1 % mm) → Q (.int (o : Nat) t) (St s h' k')) :
    wpAny (model prog w) A (call (.ref 133) [.int base tb, .int mm tm]) Q Nope (St s h k) := by
  refine r_enter (n := n) (binds := [(Str.ofString "base", .int base tb), (Str.ofString "m", .int mm tm)]) G (Grow.refl _) (Grow.refl _) (Nat.le_refl _) R (by k_is) (by k_is) (BindsTo.of_eq rfl) (by decide) (locs rfl) ?_
  intro L h₁ k₁ m F hm hg hL R'
  have F := Fm.enter (l := [(Str.ofString "m", .int mm), (Str.ofString "base", .int base)]) F hm ⟨rfl, ⟨_, rfl⟩, rfl, ⟨_, rfl⟩, trivial⟩
  clear hm
  ktn_no "ms"
  refine' r_while (σ := Nat) (fun o => 1 ≤ o ∧ o ≤ 64 ∧ ∀ j, 1 ≤ j → j < o → base ^ j % mm ≠ 1 % mm) (fun o => [(Str.ofString "base", .int base), (Str.ofString "m", .int mm), (Str.ofString "here", .int (base ^ o % mm)), (Str.ofString "many", .int (o : Nat))]) (fun _ => []) (fun o => 64 - o) 1 ?x_F ?x_n ?x_u ?x_j ?x_turn
  case x_F => assumption
  case x_n => rw [Int.pow_succ, Int.pow_zero, Int.one_mul]; ktn_no "names"
  case x_u => ktn_no "sub"
  case x_j => exact ⟨Nat.le_refl _, by decide, fun j h1 h2 => by (first | lia | omega)⟩
  case x_turn =>
    rintro o h₃ k₃ ⟨j1, j2, j3⟩ F₃
    have r0 := Int.emod_nonneg (base ^ o) (show mm ≠ 0 by (first | lia | omega))
    have r1 := Int.emod_lt_of_pos (base ^ o) hm0
    have hmul : IntMulOk (base ^ o % mm) base := IntMulOk.of_right (PySem.intBits_le_64 (by (first | lia | omega)) (by (first | lia | omega)))
    ktn_no "ms"
    · rename ¬ base ^ o % mm = 1 % mm => hne
      obtain ⟨o', h1, h2, h3⟩ := hex
      have hlt : o < 64 := by
        apply Classical.byContradiction; intro c
        have : o = 64 := by (first | lia | omega)
        by_cases d : o' < o
        · exact j3 o' h1 d h3
        · have : o' = o := by (first | lia | omega)
          rw [this] at h3; exact hne h3
      have hpw : base ^ o % mm * base % mm = base ^ (o + 1) % mm := by rw [Int.pow_succ, Int.mul_emod (base ^ o % mm), Int.emod_emod, ← Int.mul_emod]
      refine Turn.mk (o + 1) (by assumption) (by ktn_no "names") (by ktn_no "sub") ⟨⟨by (first | lia | omega), by (first | lia | omega), fun j h4 h5 => ?_⟩, by (first | lia | omega)⟩
      · by_cases d : j < o
        · exact j3 j h4 d
        · have : j = o := by (first | lia | omega)
          rw [this]; exact hne
    · rename ¬¬ base ^ o % mm = 1 % mm => hne
      exact q _ _ _ _ (Fm.keep (by assumption)) j1 j2 (Classical.not_not.mp hne) j3
set_option maxHeartbeats 4000000 in
theorem c_divided {prog : Program} {w : World} {A : Around} {s : Shared} {h : Heap} {k n : Nat} {Q : Value → Shared → Prop} {rest b base many : Int} {tr tb tba tm : Tok} (G : Gd w h) (R : Room A (n + 1)) (hr0 : 0 ≤ rest) (hr1 : rest < b) (hb1 : b < 1000) (hs0 : 0 ≤ base) (hs1 : base < 1000) (hm0 : 0 ≤ many) (hm1 : many < 1000)
    (q : ∀ c h' k', Grow h h' → h.get? c = none → (Ent.il c (dv b base many.toNat rest)).on h' → Q (.ref c) (St s h' k')) :
    wpAny (model prog w) A (call (.ref 140) [.int rest tr, .int b tb, .int base tba, .int many tm]) Q Nope (St s h k) := by
  refine r_enter (n := n) (binds := [(Str.ofString "rest", .int rest tr), (Str.ofString "b", .int b tb), (Str.ofString "base", .int base tba), (Str.ofString "many", .int many tm)]) G (Grow.refl _) (Grow.refl _) (Nat.le_refl _) R (by k_is) (by k_is) (BindsTo.of_eq rfl) (by decide) (locs rfl) ?_
  intro L h₁ k₁ m F hm hg hL R'
  have F := Fm.enter (l := [(Str.ofString "many", .int many), (Str.ofString "base", .int base), (Str.ofString "b", .int b), (Str.ofString "rest", .int rest)]) F hm ⟨rfl, ⟨_, rfl⟩, rfl, ⟨_, rfl⟩, rfl, ⟨_, rfl⟩, rfl, ⟨_, rfl⟩, trivial⟩
  clear hm
  ktn_no "ms"
  refine' r_newGl ?x_F ?_
  case x_F => assumption
  intro D h₂ F₂
  ktn_no "ms"
  refine' r_forRange (σ := List Int × Int) (fun i y => y.1.length = i ∧ 0 ≤ y.2 ∧ y.2 < b ∧ y.1 ++ dv b base (many.toNat - i) y.2 = dv b base many.toNat rest)
    (fun y => [(Str.ofString "found", .ref D), (Str.ofString "rest", .int y.2), (Str.ofString "b", .int b), (Str.ofString "base", .int base)]) (fun y => [.gl D y.1]) ([], rest) ?x_R ?x_e ?x_h1 ?x_h2 ?x_h3 ?x_h4 ?x_F ?x_n ?x_u ?x_j ?x_turn ?x_done
  case x_F => assumption
  case x_R => exact R'.le (Nat.zero_le _)
  case x_e => ktn_no "on"
  case x_h1 => (first | lia | omega)
  case x_h2 => (first | lia | omega)
  case x_h3 => (first | lia | omega)
  case x_h4 => (first | lia | omega)
  case x_n => ktn_no "names"
  case x_u => ktn_no "sub"
  case x_j => exact ⟨rfl, hr0, hr1, rfl⟩
  case x_turn =>
    rintro i ⟨f, r⟩ h₃ k₃ ps hi ⟨j1, j2, j3, j4⟩ F₃
    simp only at j1 j2 j3 j4 F₃
    ktn_no "ms"
    refine Turn.mk (f ++ [r * base / b], r * base % b) (by assumption) (by ktn_no "names") (by ktn_no "sub") ⟨by simp [j1], Int.emod_nonneg _ (by (first | lia | omega)), Int.emod_lt_of_pos _ (by (first | lia | omega)), ?_⟩
    have e : many.toNat - i = (many.toNat - (i + 1)) + 1 := by (first | lia | omega)
    rw [e] at j4
    dsimp only
    rw [List.append_assoc]; exact j4
  case x_done =>
    rintro ⟨f, r⟩ h₃ k₃ ⟨j1, j2, j3, j4⟩ F₃
    simp only at j1 j2 j3 j4 F₃
    have e : many.toNat - (many - 0).toNat = 0 := by (first | lia | omega)
    rw [e] at j4
    have j4' : f = dv b base many.toNat rest := by rw [← j4]; exact (List.append_nil f).symm
    subst j4'
    ktn_no "ms"
    exact q _ _ _ (Fm.keep (by assumption)) (Fm.fresh (e := .gl _ _) (by assumption) (by ktn_no "mem")) (by ktn_no "on")
section
local macro_rules | `(tactic| ktn_no "mE") => `(tactic| with_reducible cell_end r_ifexp 1 0)
theorem compl_val {W : Int} (hW : 1 < W) {na out : List Int} (la : Limbs W na) : ∀ n : Nat, out.length = n → (∀ i, i < n → out.getD i 0 = W - 1 - na.getD i 0) → Limbs W out ∧ val W out = W ^ n - 1 - val W na % W ^ n := by
  intro n hl hg
  have hlim : Limbs W out := by
    intro y hy
    obtain ⟨i, hi, rfl⟩ := List.getElem_of_mem hy
    have h1 := hg i (by (first | lia | omega))
    have h2 := la.getD (show 0 < W by (first | lia | omega)) i
    have h3 : out.getD i 0 = out[i] := by simp [List.getD, hi]
    rw [← h3, h1]; (first | lia | omega)
  refine ⟨hlim, ?_⟩
  have key : ∀ m, m ≤ n → val W (out.take m) = W ^ m - 1 - val W (na.take m) := by
    intro m
    induction m with
    | zero => intro _; simp [val]
    | succ m ih =>
      intro hm
      rw [take_succ_val, take_succ_val, ih (by (first | lia | omega)), hg m (by (first | lia | omega)), Int.pow_succ, Int.mul_sub, Int.mul_sub, Int.mul_one]; (first | lia | omega)
  have := key n (Nat.le_refl _)
  rw [List.take_of_length_le (by (first | lia | omega)), val_take (by (first | lia | omega)) la] at this
  exact this
theorem compl_end {W V : Int} (hW : 1 < W) (n : Nat) : (W ^ n - 1 - V % W ^ n + 1) % W ^ n = (-V) % W ^ n := by
  refine emod_eq_of_dvd ?_
  obtain ⟨k, hk⟩ := dvd_sub_emod V (W ^ n)
  exact ⟨1 + k, by rw [Int.mul_add, Int.mul_one]; (first | lia | omega)⟩
set_option maxHeartbeats 4000000 in
theorem c_complement {prog : Program} {w : World} {A : Around} {s : Shared} {h : Heap} {k n : Nat} {Q : Value → Shared → Prop} {a : Addr} {na : List Int} {nn ww W : Int} {tn tw : Tok}
    (G : Gd w h) (R : Room A (n + 3)) (ea : (Ent.il a na).on h) (hna : na.length ≤ 50000) (n0 : 0 ≤ nn) (n1 : nn ≤ 50000)
    (hW : W = 2 ^ ww.toNat) (hw0 : 2 ≤ ww) (hw1 : ww ≤ 6) (hW1 : 1 < W) (hW6 : W ≤ 64) (la : Limbs W na)
    (q : ∀ c h' k' nc, Grow h h' → h.get? c = none → (Ent.il c nc).on h' → Num W ((-val W na) % W ^ nn.toNat) nc → Q (.ref c) (St s h' k')) :
    wpAny (model prog w) A (call (.ref 72) [.ref a, .int nn tn, .int ww tw]) Q Nope (St s h k) := by
  refine r_enterC (n := n + 2) (binds := [(Str.ofString "a", .ref a), (Str.ofString "n", .int nn tn), (Str.ofString "w", .int ww tw)]) (fun L => [.hole (L + 1 + 1), .cell (L + 1) (.ref a)]) (ln := [(Str.ofString "w", .int ww), (Str.ofString "n", .int nn)]) G R (by k_is) (by k_is) (BindsTo.of_eq rfl) rfl (by decide +kernel) (fun L => ce_hole rfl (ce_ref rfl ce_nil)) (fun L => rfl) (by exact bd_int (bd_int bd_nil)) [Str.ofString "w", Str.ofString "n", Str.ofString "a"] rfl (by decide +kernel) ?_
  intro L h₁ k₁ F hg hL R'
  ktn_no "ms"
  refine r_lcA (cl := _) rfl ?_
  ktn_no "ms"
  refine' r_cRange (σ := List Int) (fun i y => y.length = i ∧ ∀ j, j < i → y.getD j 0 = W - 1 - na.getD j 0) (fun _ => []) (fun y => y.map .int) [] [.cell (L + 1 + 1) (.int (W - 1)), .cell (L + 1) (.ref a)] ?x_R ?x_e ?x_h1 ?x_h2 ?x_h3 ?x_h4 ?x_h5 ?x_F ?x_u ?x_j ?x_jo ?x_turn ?x_done
  case x_F => assumption
  case x_R => exact R'.le (Nat.zero_le _)
  case x_e => ktn_no "on"
  case x_h1 => (first | lia | omega)
  case x_h2 => (first | lia | omega)
  case x_h3 => (first | lia | omega)
  case x_h4 => (first | lia | omega)
  case x_h5 => (first | lia | omega)
  case x_u => ktn_no "sub"
  case x_j => exact ⟨rfl, fun j hj => by (first | lia | omega)⟩
  case x_jo => rfl
  case x_turn =>
    rintro i y h₃ k₃ C qs hi ⟨j1, j2⟩ hq F₃
    have m1 := hq (.cell (L + 1 + 1) (.int (W - 1))) (.head _)
    have m2 := hq (.cell (L + 1) (.ref a)) (.tail _ (.head _))
    simp only [Int.zero_add] at F₃ ⊢
    have fin : ∀ x : Int, x = W - 1 - na.getD i 0 → (y ++ [x]).length = i + 1 ∧ ∀ j, j < i + 1 → (y ++ [x]).getD j 0 = W - 1 - na.getD j 0 := by
      intro x hx
      refine ⟨by simp [j1], fun j hj => ?_⟩
      by_cases c : j < i
      · have e : (y ++ [x]).getD j 0 = y.getD j 0 := by simp only [List.getD]; rw [List.getElem?_append_left (by (first | lia | omega))]
        rw [e]; exact j2 j c
      · have : j = i := by (first | lia | omega)
        subst this
        have e : (y ++ [x]).getD j 0 = x := by simp only [List.getD]; rw [List.getElem?_append_right (by (first | lia | omega)), j1]; simp
        rw [e]; exact hx
    ktn_no "ms"
    · exact ⟨y ++ [W - 1 - na.getD i 0], _, _, .int (W - 1 - na.getD i 0), rfl, ⟨_, rfl⟩, fin _ rfl, by simp, by assumption⟩
    · have hz : na.getD i 0 = 0 := by
        have : na.length ≤ i := by (first | lia | omega)
        simp [List.getD, this]
      exact ⟨y ++ [W - 1 - 0], _, _, .int (W - 1 - 0), rfl, ⟨_, rfl⟩, fin _ (by rw [hz]), by simp, by assumption⟩
  case x_done =>
    rintro D C y h₃ k₃ m' oC ⟨j1, j2⟩ hNs F₃
    refine post_use hNs F₃ (fun h₄ k₄ F₄ => ?_)
    have F₅ := F₄.gaInts
    rw [show (nn - 0).toNat = nn.toNat by (first | lia | omega)] at j1 j2
    obtain ⟨ly, vy⟩ := compl_val hW1 la nn.toNat j1 j2
    have hP := pow_pos' (show 0 < W by (first | lia | omega)) nn.toNat
    have lny : (norm y).length ≤ 50000 := Nat.le_trans (norm_len _) (by (first | lia | omega))
    ktn_no "ms"
    refine c_normal (n := n + 1) (ns := y) (G.grow (Fm.keep (by assumption))) R' (by ktn_no "on") (by (first | lia | omega)) ?_
    intro c1 h1 k1 g1 n1 e1
    have F1 := Fm.add (e := .il _ _) (by assumption) g1 n1 e1
    ktn_no "ms"
    refine' r_newIl (ns := [1]) ?x_F3 ?x_hi3 ?x_hn3 ?_
    case x_F3 => assumption
    case x_hi3 => exact .cons _ _ .nil
    case x_hn3 => exact Nat.le_of_ble_eq_true rfl
    intro c5 h5 F5
    ktn_no "ms"
    refine c_add (n := n + 1) (na := norm y) (nb := [1]) (G.grow (Fm.keep (by assumption))) R' (by ktn_no "on") (by ktn_no "on") (by (first | lia | omega)) (by simp) hW (by (first | lia | omega)) (by (first | lia | omega)) hW1 ly.norm (.cons (by decide) (by (first | lia | omega)) .nil) ?_
    intro c6 h6 k6 m6 g6 n6 e6 l6 v6 len6
    have F6 := Fm.add (e := .il _ _) (by assumption) g6 n6 e6
    ktn_no "ms"
    refine c_low (n := n) (ns := m6) (G.grow (Fm.keep (by assumption))) R' (by ktn_no "on") (by simp at len6; (first | lia | omega)) (by (first | lia | omega)) ?_
    intro c7 h7 k7 g7 n7 e7
    have F7 := Fm.add (e := .il _ _) (by assumption) g7 n7 e7
    refine q _ _ _ _ (Fm.keep F7) (Fm.fresh (e := .il _ _) F7 (by ktn_no "mem")) (by ktn_no "on") ?_
    have z := Num.of (l6.take nn.toNat)
    rw [val_take (by (first | lia | omega)) l6, v6, val_norm, vy] at z
    have e : val W [1] = 1 := by simp [val]
    rw [e, compl_end hW1] at z
    exact z
end
theorem val_mod_head {W x : Int} {r : List Int} : val W (x :: r) % W = x % W := by
  show (x + W * val W r) % W = _
  rw [Int.add_mul_emod_self_left]
theorem val_mod0 (W : Int) : ∀ (nb : List Int), val W nb % W = nb.getD 0 0 % W
  | [] => rfl
  | _ :: _ => val_mod_head
set_option maxHeartbeats 8000000 in
theorem c_invlow {prog : Program} {w : World} {A : Around} {s : Shared} {h : Heap} {k n : Nat} {Q : Value → Shared → Prop} {b : Addr} {nb : List Int} {N ww W : Int} {tn tw : Tok}
    (G : Gd w h) (R : Room A (n + 4)) (eb : (Ent.il b nb).on h) (hnb : nb.length ≤ 1000) (hnb0 : 0 < nb.length) (hodd : nb.getD 0 0 % 2 = 1) (N0 : 1 ≤ N) (N1 : N ≤ 100)
    (hW : W = 2 ^ ww.toNat) (hw0 : 2 ≤ ww) (hw1 : ww ≤ 6) (hW1 : 1 < W) (hW6 : W ≤ 64) (lb : Limbs W nb)
    (q : ∀ c h' k' nc X, Grow h h' → h.get? c = none → (Ent.il c nc).on h' → Num W X nc → X < W ^ N.toNat → (val W nb * X) % W ^ N.toNat = 1 → Q (.ref c) (St s h' k')) :
    wpAny (model prog w) A (call (.ref 79) [.ref b, .int N tn, .int ww tw, .ref 100]) Q Nope (St s h k) := by
  have hodd' : nb.getD (0 : Int).toNat 0 % 2 = 1 := hodd
  have h4W : 4 ≤ W := by
    have : ww = 2 ∨ ww = 3 ∨ ww = 4 ∨ ww = 5 ∨ ww = 6 := by (first | lia | omega)
    rcases this with rfl | rfl | rfl | rfl | rfl <;> simp at hW <;> (first | lia | omega)
  have gb := lb.getD (show 0 < W by (first | lia | omega)) 0
  refine r_enter (n := n+3) (binds := [(Str.ofString "b", .ref b), (Str.ofString "n", .int N tn), (Str.ofString "w", .int ww tw), (Str.ofString "mul", .ref 100)]) G (Grow.refl _) (Grow.refl _) (Nat.le_refl _) R (by k_is) (by k_is) (BindsTo.of_eq rfl) (by decide) (locs rfl) ?_
  intro L h₁ k₁ m F hm hg hL R'
  have F := Fm.enter (l := [(Str.ofString "mul", .ref 100), (Str.ofString "w", .int ww), (Str.ofString "n", .int N), (Str.ofString "b", .ref b)]) F hm ⟨rfl, rfl, rfl, ⟨_, rfl⟩, rfl, ⟨_, rfl⟩, rfl, rfl, trivial⟩
  clear hm
  refine r_cut (h₀ := h) (σ := Unit) (fun _ => True) (fun _ => [(Str.ofString "w", .int ww), (Str.ofString "b", .ref b), (Str.ofString "n", .int N), (Str.ofString "mul", .ref 100)]) (fun _ => []) ?_ ?_
  · ktn_no "ms"
    all_goals first | (exfalso; (first | lia | omega)) | exact Turn.mk () (by assumption) (by ktn_no "names") (by ktn_no "sub") trivial
  rintro _ h₂ k₂ _ F₂
  refine r_cut (h₀ := h) (σ := Unit) (fun _ => True) (fun _ => [(Str.ofString "w", .int ww), (Str.ofString "b", .ref b), (Str.ofString "n", .int N), (Str.ofString "mul", .ref 100)]) (fun _ => []) ?_ ?_
  · ktn_no "ms"
    all_goals first | (exfalso; (first | lia | omega)) | exact Turn.mk () (by assumption) (by ktn_no "names") (by ktn_no "sub") trivial
  rintro _ h₂ k₂ _ F₂
  ktn_no "ms"
  refine c_invlimb (n := n + 2) (d := nb.getD 0 0) (G.grow (Fm.keep (by assumption))) R' hW hw0 hw1 hodd gb.1 (by (first | lia | omega)) ?_
  intro x t h₃ k₃ g₃ x0 x1 x2
  have F₃ := Fm.grow (by assumption) g₃
  ktn_no "ms"
  refine' r_newIl (ns := [x]) ?x_F ?x_hi ?x_hn ?_
  case x_F => assumption
  case x_hi => exact .cons _ _ .nil
  case x_hn => exact Nat.le_of_ble_eq_true rfl
  intro D h₄ F₄
  ktn_no "ms"
  have hx1 : (val W nb * x) % W = 1 := by rw [Int.mul_emod, val_mod0, ← Int.mul_emod]; exact x2
  have hx0 : x ≠ 0 := fun z => by rw [z, Int.mul_zero] at hx1; simp at hx1
  refine' r_while (σ := Addr × List Int × Nat) (fun y => 1 ≤ y.2.2 ∧ (y.2.2 : Int) ≤ N ∧ Limbs W y.2.1 ∧ norm y.2.1 = y.2.1 ∧ val W y.2.1 < W ^ y.2.2 ∧ (val W nb * val W y.2.1) % W ^ y.2.2 = 1)
    (fun y => [(Str.ofString "w", .int ww), (Str.ofString "b", .ref b), (Str.ofString "n", .int N), (Str.ofString "mul", .ref 100), (Str.ofString "found", .ref y.1), (Str.ofString "size", .int (y.2.2 : Nat))]) (fun y => [.il y.1 y.2.1]) (fun y => (N - y.2.2).toNat) (D, [x], 1) ?x_F2 ?x_n2 ?x_u2 ?x_j2 ?x_turn2
  case x_F2 => assumption
  case x_n2 => ktn_no "names"
  case x_u2 => ktn_no "sub"
  case x_j2 => exact ⟨Nat.le_refl _, N0, .cons x0 x1 .nil, by simp [norm, hx0], by show val W [x] < W ^ 1; rw [Int.pow_succ, Int.pow_zero, Int.one_mul]; simp [val]; exact x1, by show (val W nb * val W [x]) % W ^ 1 = 1; rw [Int.pow_succ, Int.pow_zero, Int.one_mul]; simpa [val] using hx1⟩
  case x_turn2 =>
    rintro ⟨D, f, sz⟩ h₅ k₅ ⟨j1, j2, j3, j4, j5, j6⟩ F₅
    simp only at j1 j2 j3 j4 j5 j6 F₅
    have nf : Num W (val W f) f := ⟨j3, rfl, j4⟩
    have lf : f.length ≤ sz := nf.len hW1 j5
    ktn_no "ms"
    · obtain ⟨t, ht⟩ : ∃ t : Nat, min (2 * (sz : Int)) N = t := ⟨(min (2 * (sz : Int)) N).toNat, by (first | lia | omega)⟩
      (rename Fm _ _ _ _ _ => F₆)
      rw [ht] at F₆ ⊢
      have ht1 : 1 ≤ t := by (first | lia | omega)
      have ht2 : t ≤ 100 := by (first | lia | omega)
      have ht3 : t ≤ 2 * sz := by (first | lia | omega)
      have htt : ((t : Nat) : Int).toNat = t := Int.toNat_natCast t
      have ltk : (norm (nb.take t)).length ≤ 1000 := Nat.le_trans (norm_len _) (by rw [List.length_take]; (first | lia | omega))
      refine c_low (n := n + 1) (ns := nb) (G.grow (Fm.keep (by assumption))) R' (by ktn_no "on") (by (first | lia | omega)) (by (first | lia | omega)) ?_
      intro c1 h1 k1 g1 n1 e1
      have F1 := Fm.add (e := .il _ _) (by assumption) g1 n1 e1
      rw [htt] at F1 e1
      ktn_no "ms"
      refine c_mul (n := n + 1) (na := norm (nb.take t)) (nb := f) (G.grow (Fm.keep (by assumption))) R' (by ktn_no "on") (by ktn_no "on") (by (first | lia | omega)) (by (first | lia | omega)) hW hw0 hw1 hW1 hW6 (lb.take t).norm j3 ?_
      intro c2 h2 k2 m2 g2 n2 e2 M2
      have F2 := Fm.add (e := .il _ _) (by assumption) g2 n2 e2
      rw [val_norm, val_take (by (first | lia | omega)) lb] at M2
      have lm2 : m2.length ≤ 1000 := by
        refine Nat.le_trans (M2.len hW1 (n := t + sz) ?_) (by (first | lia | omega))
        rw [Int.pow_add]
        exact Int.mul_lt_mul' (Int.le_of_lt (Int.emod_lt_of_pos _ (pow_pos' (by (first | lia | omega)) t))) j5 (val_nonneg (by (first | lia | omega)) j3) (pow_pos' (by (first | lia | omega)) t)
      ktn_no "ms"
      refine c_low (n := n + 1) (ns := m2) (G.grow (Fm.keep (by assumption))) R' (by ktn_no "on") (by (first | lia | omega)) (by (first | lia | omega)) ?_
      intro c3 h3 k3 g3 n3 e3
      have F3 := Fm.add (e := .il _ _) (by assumption) g3 n3 e3
      rw [htt] at F3 e3
      ktn_no "ms"
      have l3 := (M2.limbs.take t).norm
      have len3 : (norm (m2.take t)).length ≤ 1000 := Nat.le_trans (norm_len _) (by rw [List.length_take]; (first | lia | omega))
      refine c_complement (n := n) (na := norm (m2.take t)) (G.grow (Fm.keep (by assumption))) R' (by ktn_no "on") (by (first | lia | omega)) (by (first | lia | omega)) (by (first | lia | omega)) hW hw0 hw1 hW1 hW6 l3 ?_
      intro c4 h4 k4 m4 g4 n4 e4 M4
      have F4 := Fm.add (e := .il _ _) (by assumption) g4 n4 e4
      rw [val_norm, val_take (by (first | lia | omega)) M2.limbs, M2.val, htt] at M4
      have hP := pow_pos' (show 0 < W by (first | lia | omega)) t
      have lm4 : m4.length ≤ 1000 := Nat.le_trans (M4.len hW1 (n := t) (Int.emod_lt_of_pos _ hP)) (by (first | lia | omega))
      ktn_no "ms"
      refine' r_newIl (ns := [2]) ?x_F3 ?x_hi3 ?x_hn3 ?_
      case x_F3 => assumption
      case x_hi3 => exact .cons _ _ .nil
      case x_hn3 => exact Nat.le_of_ble_eq_true rfl
      intro c5 h5 F5
      ktn_no "ms"
      refine c_add (n := n + 2) (na := m4) (nb := [2]) (G.grow (Fm.keep (by assumption))) R' (by ktn_no "on") (by ktn_no "on") (by (first | lia | omega)) (by simp) hW (by (first | lia | omega)) (by (first | lia | omega)) hW1 M4.limbs (.cons (by decide) (by (first | lia | omega)) .nil) ?_
      intro c6 h6 k6 m6 g6 n6 e6 l6 v6 len6
      have F6 := Fm.add (e := .il _ _) (by assumption) g6 n6 e6
      ktn_no "ms"
      refine c_low (n := n + 1) (ns := m6) (G.grow (Fm.keep (by assumption))) R' (by ktn_no "on") (by simp at len6; (first | lia | omega)) (by (first | lia | omega)) ?_
      intro c7 h7 k7 g7 n7 e7
      have F7 := Fm.add (e := .il _ _) (by assumption) g7 n7 e7
      rw [htt] at F7 e7
      ktn_no "ms"
      have l7 := (l6.take t).norm
      have len7 : (norm (m6.take t)).length ≤ 1000 := Nat.le_trans (norm_len _) (by rw [List.length_take]; (first | lia | omega))
      have v7 : val W (norm (m6.take t)) = ((-((val W nb % W ^ t * val W f) % W ^ t)) % W ^ t + 2) % W ^ t := by
        rw [val_norm, val_take (by (first | lia | omega)) l6, v6, M4.val]; simp [val]
      refine c_mul (n := n + 1) (na := f) (nb := norm (m6.take t)) (G.grow (Fm.keep (by assumption))) R' (by ktn_no "on") (by ktn_no "on") (by (first | lia | omega)) (by (first | lia | omega)) hW hw0 hw1 hW1 hW6 j3 l7 ?_
      intro c8 h8 k8 m8 g8 n8 e8 M8
      have F8 := Fm.add (e := .il _ _) (by assumption) g8 n8 e8
      have lm8 : m8.length ≤ 1000 := by
        refine Nat.le_trans (M8.len hW1 (n := sz + t) ?_) (by (first | lia | omega))
        rw [Int.pow_add, v7]
        exact Int.mul_lt_mul' (Int.le_of_lt j5) (Int.emod_lt_of_pos _ hP) (Int.emod_nonneg _ (by (first | lia | omega))) (pow_pos' (by (first | lia | omega)) sz)
      ktn_no "ms"
      refine c_low (n := n + 1) (ns := m8) (G.grow (Fm.keep (by assumption))) R' (by ktn_no "on") (by (first | lia | omega)) (by (first | lia | omega)) ?_
      intro c9 h9 k9 g9 n9 e9
      have F9 := Fm.add (e := .il _ _) (by assumption) g9 n9 e9
      rw [htt] at F9 e9
      ktn_no "ms"
      have v9 : val W (norm (m8.take t)) = (val W f * (((-((val W nb % W ^ t * val W f) % W ^ t)) % W ^ t + 2) % W ^ t)) % W ^ t := by
        rw [val_norm, val_take (by (first | lia | omega)) M8.limbs, M8.val, v7]
      refine Turn.mk (c9, norm (m8.take t), t) (by assumption) (by ktn_no "names") (by ktn_no "sub") ⟨⟨by dsimp only; (first | lia | omega), by dsimp only; (first | lia | omega), (M8.limbs.take t).norm, norm_norm _, ?_, ?_⟩, by dsimp only; (first | lia | omega)⟩
      · dsimp only; rw [v9]; exact Int.emod_lt_of_pos _ hP
      · dsimp only; rw [v9]; exact newton hW1 (by (first | lia | omega)) (by (first | lia | omega)) j6
    · have hz : N.toNat = sz := by (first | lia | omega)
      exact q _ _ _ f (val W f) (Fm.keep (by assumption)) (Fm.fresh (e := .il _ _) (by assumption) (by ktn_no "mem")) (by ktn_no "on") nf (hz ▸ j5) (hz ▸ j6)
theorem Made.swap {h h' : Heap} {a b c : Ent} (m : Made h h' [a, b, c]) : Made h h' [a, c, b] :=
  have p : List.Perm [a, c, b] [a, b, c] := List.Perm.cons _ (List.Perm.swap _ _ _)
  ⟨m.grow, fun e he => m.led e (p.mem_iff.mp he), (p.map Ent.addr).nodup_iff.mpr m.apart⟩
set_option maxHeartbeats 8000000 in
theorem c_divrem {prog : Program} {w : World} {A : Around} {s : Shared} {h : Heap} {k n : Nat} {Q : Value → Shared → Prop} {a b : Addr} {na nb : List Int} {N ww W : Int} {tn tw : Tok}
    (G : Gd w h) (R : Room A (n + 4)) (ea : (Ent.il a na).on h) (eb : (Ent.il b nb).on h) (hna : na.length ≤ 10000) (hnb : nb.length ≤ 10000) (hnb0 : 0 < nb.length) (hodd : nb.getD 0 0 % 2 = 1) (N0 : 0 ≤ N) (N1 : N ≤ 10000)
    (hW : W = 2 ^ ww.toNat) (hw0 : 2 ≤ ww) (hw1 : ww ≤ 6) (hW1 : 1 < W) (hW6 : W ≤ 64) (la : Limbs W na) (lb : Limbs W nb)
    (q : ∀ t c1 c2 below F left h' k' nf nr, Made h h' [.tup t [.ref c1, .bool below, .ref c2], .il c1 nf, .il c2 nr] → Num W F nf → F < W ^ N.toNat → val W na = F * val W nb + left * W ^ N.toNat →
      ((below = true ∧ left < 0 ∧ Num W (-left) nr) ∨ (below = false ∧ 0 ≤ left ∧ Num W left nr)) → Q (.ref t) (St s h' k')) :
    wpAny (model prog w) A (call (.ref 93) [.ref a, .ref b, .int N tn, .int ww tw]) Q Nope (St s h k) := by
  have hodd' : nb.getD (0 : Int).toNat 0 % 2 = 1 := hodd
  have gb := lb.getD (show 0 < W by (first | lia | omega)) 0
  refine r_enter (n := n+3) (binds := [(Str.ofString "a", .ref a), (Str.ofString "b", .ref b), (Str.ofString "n", .int N tn), (Str.ofString "w", .int ww tw)]) G (Grow.refl _) (Grow.refl _) (Nat.le_refl _) R (by k_is) (by k_is) (BindsTo.of_eq rfl) (by decide) (locs rfl) ?_
  intro L h₁ k₁ m F hm hg hL R'
  have F := Fm.enter (l := [(Str.ofString "w", .int ww), (Str.ofString "n", .int N), (Str.ofString "b", .ref b), (Str.ofString "a", .ref a)]) F hm ⟨rfl, ⟨_, rfl⟩, rfl, ⟨_, rfl⟩, rfl, rfl, rfl, rfl, trivial⟩
  clear hm
  refine r_cut (h₀ := h) (σ := Unit) (fun _ => True) (fun _ => [(Str.ofString "w", .int ww), (Str.ofString "a", .ref a), (Str.ofString "b", .ref b), (Str.ofString "n", .int N)]) (fun _ => []) ?_ ?_
  · ktn_no "ms"
    all_goals first | (exfalso; (first | lia | omega)) | exact Turn.mk () (by assumption) (by ktn_no "names") (by ktn_no "sub") trivial
  rintro _ h₂ k₂ _ F₂
  ktn_no "ms"
  refine c_invlimb (n := n + 2) (d := nb.getD 0 0) (G.grow (Fm.keep (by assumption))) R' hW hw0 hw1 hodd gb.1 (by (first | lia | omega)) ?_
  intro inv t h₃ k₃ g₃ x0 x1 x2
  have F₃ := Fm.grow (by assumption) g₃
  ktn_no "ms"
  refine' r_newIl (ns := [0]) ?x_F ?x_hi ?x_hn ?_
  case x_F => assumption
  case x_hi => exact .cons _ _ .nil
  case x_hn => exact Nat.le_of_ble_eq_true rfl
  intro z h₄ F₄
  ktn_no "ms"
  obtain ⟨NN, hNN⟩ : ∃ NN : Nat, N = NN := ⟨N.toNat, by (first | lia | omega)⟩
  subst hNN
  obtain ⟨sz, hsz⟩ : ∃ sz : Nat, max (na.length : Int) ((NN : Int) + nb.length) = sz := ⟨(max (na.length : Int) ((NN : Int) + nb.length)).toNat, by (first | lia | omega)⟩
  (rename Fm _ _ _ _ _ => F₅)
  rw [hsz] at F₅ ⊢
  have hsz1 : na.length ≤ sz := by (first | lia | omega)
  have hsz2 : NN + nb.length ≤ sz := by (first | lia | omega)
  have hsz3 : sz ≤ 20000 := by (first | lia | omega)
  clear hsz
  refine' r_rep (x := 0) ?x_F1 ?x_e1 ?x_hn1 ?_ ?x_hlo1
  case x_F1 => assumption
  case x_e1 => ktn_no "on"
  case x_hn1 => (first | lia | omega)
  case x_hlo1 => (first | lia | omega)
  intro z2 h₆ F₆
  ktn_no "ms"
  refine' r_cat (ns := na) ?x_F2 ?x_ea2 ?x_eb2 ?x_hn2 ?x_hm2 ?_
  case x_F2 => assumption
  case x_ea2 => ktn_no "on"
  case x_eb2 => ktn_no "on"
  case x_hn2 => (first | lia | omega)
  case x_hm2 => simp; (first | lia | omega)
  intro D h₇ F₇
  ktn_no "ms"
  refine' r_newGl ?x_F3 ?_
  case x_F3 => assumption
  intro D2 h₈ F₈
  ktn_no "ms"
  have hlen : na.length + ((sz : Int) - na.length).toNat = sz := by (first | lia | omega)
  refine' r_forRange (σ := List Int × List Int × Int) (fun i y => y.1.length = sz ∧ Limbs W y.1 ∧ y.2.1.length = i ∧ Limbs W y.2.1 ∧ 0 ≤ y.2.2 ∧ val W y.1 = val W na - val W y.2.1 * val W nb + y.2.2 * W ^ sz ∧ W ^ i ∣ val W y.1)
    (fun y => [(Str.ofString "b", .ref b), (Str.ofString "n", .int (NN : Nat)), (Str.ofString "w", .int ww), (Str.ofString "inverse", .int inv), (Str.ofString "whole", .int W), (Str.ofString "size", .int (sz : Nat)), (Str.ofString "row", .ref D), (Str.ofString "found", .ref D2), (Str.ofString "borrowed", .int y.2.2)])
    (fun y => [.gl D2 y.2.1, .il D y.1]) (na ++ List.replicate ((sz : Int) - na.length).toNat 0, [], 0) ?x_R ?x_e ?x_h1 ?x_h2 ?x_h3 ?x_h4 ?x_F ?x_n ?x_u ?x_j ?x_turn ?x_done
  case x_F => assumption
  case x_R => exact R'.le (Nat.zero_le _)
  case x_e => ktn_no "on"
  case x_h1 => (first | lia | omega)
  case x_h2 => (first | lia | omega)
  case x_h3 => (first | lia | omega)
  case x_h4 => (first | lia | omega)
  case x_n => ktn_no "names"
  case x_u => ktn_no "sub"
  case x_j => exact ⟨by simp; (first | lia | omega), la.append (Limbs.zeros (by (first | lia | omega)) _), rfl, .nil, Int.le_refl _, by rw [val_append, val_zeros]; simp [val], by simp⟩
  case x_turn =>
    rintro i ⟨f, g, β⟩ h₉ k₉ ps hi ⟨j1, j2, j3, j4, j5, j6, j7⟩ F₉
    simp only at j1 j2 j3 j4 j5 j6 j7 F₉
    simp only [Int.zero_add] at F₉
    have gf := j2.getD (show 0 < W by (first | lia | omega)) i
    have hm : IntMulOk (f.getD (i : Int).toNat 0) inv := IntMulOk.of_right (PySem.intBits_le_64 (by (first | lia | omega)) (by (first | lia | omega)))
    ktn_no "ms"
    simp only [Int.toNat_natCast]
    have l0 := Int.emod_nonneg (f.getD i 0 * inv) (show W ≠ 0 by (first | lia | omega))
    have l1 := Int.emod_lt_of_pos (f.getD i 0 * inv) (show 0 < W by (first | lia | omega))
    (rename Fm _ _ _ _ _ => Fx)
    refine c_take (n := n + 2) (hb := h) (nr := f) (nb := nb) G Fx.keep (Fx.fresh (e := .il D f) (by ktn_no "mem")) R' (Fx.on (by ktn_no "mem")) (Fx.base eb) (fun z => ?_) hW hw0 hw1 hW1 hW6 j2 lb (by (first | lia | omega)) l0 l1 (by (first | lia | omega)) (by (first | lia | omega)) ?_
    · have := Fx.fresh (e := .il D f) (by ktn_no "mem")
      obtain ⟨o, ho⟩ := eb.there
      have ho' : h.get? D = some o := z ▸ ho
      rw [show h.get? D = none from this] at ho'; cases ho'
    intro β' tt h' k' f' hk' ef lf' lenf β0 hv
    have Fy := Fx.upd (e := .il D f) (e' := .il D f') (by ktn_no "upd") rfl hk' ef
    rw [Int.toNat_natCast] at hv
    ktn_no "ms"
    have hdig := digit hW1 j2 i
    simp only [Int.toNat_natCast] at *
    refine Turn.mk (f', g ++ [f.getD i 0 * inv % W], β + β') (by assumption) (by ktn_no "names") (by ktn_no "sub") ⟨lenf.trans j1, lf', by simp [j3], j4.append (.cons l0 l1 .nil), by dsimp only; (first | lia | omega), ?_, ?_⟩
    · dsimp only
      rw [j1] at hv
      rw [val_snoc, j3, Int.add_mul, Int.add_mul]
      have : W ^ i * (f.getD i 0 * inv % W) * val W nb = (f.getD i 0 * inv % W) * val W nb * W ^ i := by rw [Int.mul_comm (W ^ i), Int.mul_assoc, Int.mul_comm (W ^ i), ← Int.mul_assoc]
      (first | lia | omega)
    · dsimp only
      have s1 := limb_step (B := val W nb) (b0 := nb.getD 0 0) (inv := inv) (i := i) hW1 (val_mod0 W nb) x2 j7
      rw [← hdig] at s1
      have e1 : val W f' = (val W f - f.getD i 0 * inv % W * val W nb * W ^ i) + β' * W ^ f.length := by (first | lia | omega)
      rw [e1]
      refine Int.dvd_add s1 ?_
      rw [j1]
      refine ⟨W ^ (sz - (i + 1)) * β', ?_⟩
      have e2 : W ^ sz = W ^ (i + 1) * W ^ (sz - (i + 1)) := by rw [← Int.pow_add]; congr 1; (first | lia | omega)
      rw [e2, Int.mul_comm β', Int.mul_assoc]
  case x_done =>
    rintro ⟨f, g, β⟩ h₉ k₉ ⟨j1, j2, j3, j4, j5, j6, j7⟩ F₉
    simp only at j1 j2 j3 j4 j5 j6 j7 F₉
    rw [show ((NN : Int) - 0).toNat = NN by (first | lia | omega)] at j3 j7
    have vd := val_drop (show 0 < W by (first | lia | omega)) j2 NN
    obtain ⟨r, hr⟩ := j7
    have hpN := pow_pos' (show 0 < W by (first | lia | omega)) NN
    rw [hr, Int.mul_ediv_cancel_left _ (by (first | lia | omega))] at vd
    have ld := j2.drop NN
    have dlen : (f.drop NN).length = sz - NN := by rw [List.length_drop]; (first | lia | omega)
    have dr0 := val_nonneg (show 0 < W by (first | lia | omega)) ld
    have dr1 := val_lt (show 0 < W by (first | lia | omega)) ld
    rw [vd] at dr0 dr1
    rw [dlen] at dr1
    have A0 := val_nonneg (show 0 < W by (first | lia | omega)) la
    have A1 : val W na < W ^ sz := by
      have := val_lt (show 0 < W by (first | lia | omega)) la
      have h2 : W ^ na.length ≤ W ^ sz := pow_mono' (by (first | lia | omega)) (by (first | lia | omega))
      (first | lia | omega)
    have gv := val_lt (show 0 < W by (first | lia | omega)) j4
    rw [j3] at gv
    have Gn := Num.of j4
    have En := divrem_end hW1 A0 A1 (val_nonneg (by (first | lia | omega)) lb) (val_lt (by (first | lia | omega)) lb) (val_nonneg (by (first | lia | omega)) j4) gv (show NN + nb.length ≤ sz by (first | lia | omega)) dr0 dr1 j5 (by rw [← hr, j6])
    have hNt : (NN : Int).toNat = NN := Int.toNat_natCast NN
    ktn_no "ms"
    (rename Fm _ _ _ _ _ => Fz)
    rw [hNt] at Fz
    refine c_normal (n := n + 2) (ns := f.drop NN) (G.grow Fz.keep) R' (Fz.on (by ktn_no "mem")) (by (first | lia | omega)) ?_
    intro c1 h1 k1 g1 n1 e1
    have F1 := Fm.add (e := .il _ _) (by assumption) g1 n1 e1
    have nlen : (norm (f.drop NN)).length ≤ 20000 := Nat.le_trans (norm_len _) (by (first | lia | omega))
    ktn_no "ms"
    · refine c_normal (n := n + 2) (ns := g) (G.grow (Fm.keep (by assumption))) R' (by ktn_no "on") (by (first | lia | omega)) ?_
      intro c2 h2 k2 g2 n2 e2
      have F2 := Fm.add (e := .il _ _) (by assumption) g2 n2 e2
      ktn_no "ms"
      rcases En with ⟨z1, _⟩ | ⟨z1, z2, z3, z4, z5⟩
      · exfalso; (first | lia | omega)
      refine c_complement (n := n) (na := norm (f.drop NN)) (G.grow (Fm.keep (by assumption))) R' (by ktn_no "on") (by (first | lia | omega)) (by (first | lia | omega)) (by (first | lia | omega)) hW hw0 hw1 hW1 hW6 ld.norm ?_
      intro c4 h4 k4 m4 g4 n4 e4 M4
      have F4 := Fm.add (e := .il _ _) (by assumption) g4 n4 e4
      ktn_no "ms"
      rw [val_norm, vd, show ((sz : Int) - (NN : Int)).toNat = sz - NN by (first | lia | omega), z3] at M4
      refine q _ c2 c4 true (val W g) (r - W ^ (sz - NN)) _ _ (norm g) m4 (Made.swap (Fm.made (by assumption) (by ktn_no "sub"))) Gn (by rw [hNt]; exact gv) (by rw [hNt]; exact z5) (.inl ⟨rfl, z4, ?_⟩)
      rw [show -(r - W ^ (sz - NN)) = W ^ (sz - NN) - r by (first | lia | omega)]; exact M4
    · refine c_normal (n := n + 2) (ns := g) (G.grow (Fm.keep (by assumption))) R' (by ktn_no "on") (by (first | lia | omega)) ?_
      intro c2 h2 k2 g2 n2 e2
      have F2 := Fm.add (e := .il _ _) (by assumption) g2 n2 e2
      ktn_no "ms"
      rcases En with ⟨z1, z2⟩ | ⟨z1, _⟩
      · refine q _ c2 c1 false (val W g) r _ _ (norm g) (norm (f.drop NN)) (Fm.made (by assumption) (by ktn_no "sub")) Gn (by rw [hNt]; exact gv) (by rw [hNt]; exact z2) (.inr ⟨rfl, dr0, vd ▸ Num.of ld⟩)
      · exfalso; (first | lia | omega)
section
local macro_rules | `(tactic| ktn_no "mB") => `(tactic| with_reducible cell_end w_rep 5 42121)
local macro_rules | `(tactic| ktn_no "mO") => `(tactic| with_reducible cell_end w_newIl 2 1)
theorem head_odd {W B : Int} {nb : List Int} (hW1 : 1 < W) (h2 : (2 : Int) ∣ W) (M : Num W B nb) (hB : B % 2 = 1) : nb.getD 0 0 % 2 = 1 ∧ 0 < nb.length := by
  have h1 : nb.getD 0 0 % 2 = 1 := by
    have := val_mod0 W nb
    rw [M.val] at this
    have e := Int.emod_emod_of_dvd B h2
    have e2 := Int.emod_emod_of_dvd (nb.getD 0 0) h2
    rw [← e2, ← this, e]; exact hB
  refine ⟨h1, ?_⟩
  cases nb with
  | nil => simp at h1
  | cons _ _ => simp
theorem pad_ok {W F : Int} {nf : List Int} {sz : Nat} (hW1 : 1 < W) (M : Num W F nf) (h : F < W ^ sz) : nf.length ≤ sz ∧ Limbs W (nf ++ List.replicate ((sz : Int) - (nf.length : Int)).toNat 0) ∧ (nf ++ List.replicate ((sz : Int) - (nf.length : Int)).toNat 0).length = sz ∧
    val W (nf ++ List.replicate ((sz : Int) - (nf.length : Int)).toNat 0) = F := by
  have hl := M.len hW1 h
  refine ⟨hl, M.limbs.append (Limbs.zeros (by (first | lia | omega)) _), by simp; (first | lia | omega), ?_⟩
  rw [val_append, val_zeros, M.val]; simp
abbrev RowT := Addr × List Int × Int
noncomputable def rowsOk (W A B : Int) (o many : Nat) : Nat → List RowT → Prop
  | 0, [] => True
  | i + 1, z :: r => RowOk W A B (many + i * o) z.2.1 z.2.2 ∧ rowsOk W A B o many i r
  | _, _ => False
noncomputable def rvL : List RowT → List Int
  | [] => []
  | z :: r => rvL r ++ [z.2.2]
noncomputable def rvA : List RowT → List AV
  | [] => []
  | z :: r => rvA r ++ [.ref z.1]
theorem rowsOk.len {W A B : Int} {o many : Nat} : ∀ {i : Nat} {y : List RowT}, rowsOk W A B o many i y → y.length = i ∧ (rvL y).length = i ∧ (rvA y).length = i
  | 0, [], _ => ⟨rfl, rfl, rfl⟩
  | i + 1, z :: r, h => by
    obtain ⟨a, b, c⟩ := rowsOk.len h.2
    simp [rvL, rvA, a, b, c]
section
variable {prog : Program} {w : World} {A : Around} {s : Shared} {h h₀ : Heap} {k : Nat} {env : Env} {L : Addr} {l : List (Str × AV)} {es : List Ent} {Qn : Shared → Prop} {Qr : Value → Shared → Prop} {Q : Value → Shared → Prop}
theorem r_forTupV {σ : Type} (J : Nat → σ → Prop) (Lo : σ → List (Str × AV)) (Le : σ → List Ent) (x₀ : σ) {a : Addr} {ns : List Int} {y : Str} {p : Pos} {body : List Stmt} (R : Room A 0)
    (F : Fm h₀ env.locals h l (.tup a (ns.map .int) :: es)) (n : Names l (Lo x₀)) (u : (Le x₀).Sublist es) (j : J 0 x₀)
    (turn : ∀ i x v h k ps, i < ns.length → ns.getD i 0 = v → J i x → Fm h₀ env.locals h ((y, .int v) :: Lo x) (Le x ++ ps) →
      wpAny (model prog w) A (execs body env) (PF (Turn s h₀ env.locals (J (i + 1)) Lo (fun y => Le y ++ ps)) Qr) Nope (St s h k))
    (done : ∀ x h k, J ns.length x → Fm h₀ env.locals h (Lo x) (Le x) → Qn (St s h k))
    (hk : env.scope.kind = .function := by rfl) (hl : env.kindOf y = some .local := by rfl) :
    wpAny (model prog w) A (pyIter (.ref a)) (fun it s₂ => codeAny (model prog w) A (.forLoop (.Name y p) it body [] env) (LR Qn Qr) s₂) Nope (St s h k) :=
  r_forTup J Lo Le x₀ R F n u j (fun i x h k ps hi => turn i x _ h k ps hi rfl) done hk hl
theorem r_catX {a b : Addr} {ns ms P : List Int} (hP : ns ++ ms = P) (F : Fm h₀ L h l es) (ea : (Ent.il a ns).on h) (eb : (Ent.il b ms).on h) (hn : ns.length ≤ 1000000) (hm : ms.length ≤ 1000000)
    (q : ∀ c h', Fm h₀ L h' l (.il c P :: es) → Q (.ref c) (St s h' k)) : wpAny (model prog w) A (binaryOp .Add (.ref a) (.ref b)) Q Nope (St s h k) := by
  subst hP; exact r_cat F ea eb hn hm q
end
set_option maxHeartbeats 16000000 in
theorem c_round {prog : Program} {w : World} {A : Around} {s : Shared} {h : Heap} {k n : Nat} {Q : Value → Shared → Prop} {AA BB ww W g m' : Int} {o p : Nat} {ta tb tba to tw : Tok}
    (G : Gd w h) (R : Room A (n + 21)) (hW : W = 2 ^ ww.toNat) (hw0 : 2 ≤ ww) (hw1 : ww ≤ 6) (hW1 : 1 < W) (hW6 : W ≤ 64) (S3 : Setup W AA BB g m' o 3 p) (hB : BB < 64) (hB3 : BB < W ^ 3) (ho : o ≤ 64)
    (q : ∀ h' k', Grow h h' → Q (.bool true) (St s h' k')) :
    wpAny (model prog w) A (call (.ref 147) [.int AA ta, .int BB tb, .int W tba, .int (o : Nat) to, .int ww tw]) Q Nope (St s h k) := by
  have h2W : (2 : Int) ∣ W := by
    have : ww = 2 ∨ ww = 3 ∨ ww = 4 ∨ ww = 5 ∨ ww = 6 := by (first | lia | omega)
    rcases this with rfl | rfl | rfl | rfl | rfl <;> simp at hW <;> (first | lia | omega)
  have A0 := S3.A0
  have AW := S3.AW
  have B0 := S3.B0
  have o1 := S3.o1
  refine r_enter (n := n+20) (binds := [(Str.ofString "a", .int AA ta), (Str.ofString "b", .int BB tb), (Str.ofString "base", .int W tba), (Str.ofString "order", .int ↑o to), (Str.ofString "w", .int ww tw)]) G (Grow.refl _) (Grow.refl _) (Nat.le_refl _) R (by k_is) (by k_is) (BindsTo.of_eq rfl) (by decide) (locs rfl) ?_
  intro L h₁ k₁ m F hm hg hL R'
  have F := Fm.enter (l := [(Str.ofString "w", .int ww), (Str.ofString "order", .int ↑o), (Str.ofString "base", .int W), (Str.ofString "b", .int BB), (Str.ofString "a", .int AA)]) F hm ⟨rfl, ⟨_, rfl⟩, rfl, ⟨_, rfl⟩, rfl, ⟨_, rfl⟩, rfl, ⟨_, rfl⟩, rfl, ⟨_, rfl⟩, trivial⟩
  clear hm
  ktn_no "ms"
  refine c_limbs (n := n + 19) (mm := 3) (G.grow (Fm.keep (by assumption))) R' hW hw0 hw1 hW1 hW6 A0 AW (by (first | lia | omega)) ?_
  intro Dr h2 k2 la g2 n2 e2 Ma
  have F2 := Fm.add (e := .il _ _) (by assumption) g2 n2 e2
  ktn_no "ms"
  refine c_limbs (n := n + 19) (mm := 3) (G.grow (Fm.keep (by assumption))) R' hW hw0 hw1 hW1 hW6 A0 AW (by (first | lia | omega)) ?_
  intro Dr2 h3 k3 la2 g3 n3 e3 Ma2
  have F3 := Fm.add (e := .il _ _) (by assumption) g3 n3 e3
  have lla : la.length ≤ 3 := Ma.len hW1 AW
  have lla2 : la2.length ≤ 3 := Ma2.len hW1 AW
  obtain ⟨mn, hmn⟩ : ∃ mn : Nat, la2.length = mn := ⟨_, rfl⟩
  have S : Setup W AA BB g m' o mn p := { S3 with AW := by have := Ma2.lt (show 0 < W by (first | lia | omega)); rw [hmn] at this; exact this }
  ktn_no "ms"
  refine' r_newGa ?x_Fa ?_
  case x_Fa => assumption
  intro DW h4 F4
  ktn_no "ms"
  refine' r_newGl ?x_Fb ?_
  case x_Fb => assumption
  intro DR h5 F5
  ktn_no "ms"
  have hmn3 : mn ≤ 3 := by (first | lia | omega)
  have hm2 : IntMulOk 2 (o : Int) := IntMulOk.of_left (by decide)
  ktn_no "ms"
  (rename Fm _ _ _ _ _ => F6)
  refine' r_forTupV (σ := List RowT) (ns := [(la2.length : Int), (la2.length : Int) + o, (la2.length : Int) + 2 * o]) (fun i y => rowsOk W AA BB o mn i y)
    (fun _ => [(Str.ofString "a", .int AA), (Str.ofString "b", .int BB), (Str.ofString "base", .int W), (Str.ofString "order", .int (o : Nat)), (Str.ofString "w", .int ww), (Str.ofString "row", .ref Dr), (Str.ofString "many", .int (mn : Nat)), (Str.ofString "rows", .ref DW), (Str.ofString "rests", .ref DR)])
    (fun y => .gl DR (rvL y) :: .ga DW (rvA y) :: .il Dr la :: (y.map fun z => .il z.1 z.2.1)) [] ?x_R ?x_F ?x_n ?x_u ?x_j ?x_turn ?x_done
  case x_R => exact R'.le (Nat.zero_le _)
  case x_F => exact F6
  case x_n => ktn_no "names"
  case x_u => ktn_no "sub"
  case x_j => exact trivial
  case x_turn =>
    rintro i y v h₇ k₇ ps hi hv jy F₇
    obtain ⟨sz, hsz, hsz2⟩ : ∃ sz : Nat, v = (sz : Nat) ∧ sz = mn + i * o := by
      have hi' : i < 3 := hi
      refine ⟨mn + i * o, ?_, rfl⟩
      have : i = 0 ∨ i = 1 ∨ i = 2 := by (first | lia | omega)
      rcases this with rfl | rfl | rfl
      · have : v = (la2.length : Int) := hv.symm
        (first | lia | omega)
      · have : v = (la2.length : Int) + o := hv.symm
        (first | lia | omega)
      · have : v = (la2.length : Int) + 2 * o := hv.symm
        (first | lia | omega)
    subst hsz
    have hi3 : i < 3 := hi
    have hsm : mn ≤ sz := by (first | lia | omega)
    have hsb : sz ≤ 200 := by
      have hio : i * o ≤ 2 * 64 := Nat.mul_le_mul (by (first | lia | omega)) ho
      rw [hsz2]; (first | lia | omega)
    obtain ⟨ly1, ly2, ly3⟩ := jy.len
    ktn_no "ms"
    refine c_limbs (n := n + 19) (mm := 3) (G.grow (Fm.keep (by assumption))) R' hW hw0 hw1 hW1 hW6 (Int.le_of_lt B0) hB3 (by (first | lia | omega)) ?_
    intro cb h8 k8 lb g8 n8 e8 Mb
    have F8 := Fm.add (e := .il _ _) (by assumption) g8 n8 e8
    obtain ⟨odd1, odd2⟩ := head_odd hW1 h2W Mb S.odd
    have llb : lb.length ≤ 3 := Mb.len hW1 hB3
    ktn_no "ms"
    refine c_divrem (n := n + 16) (na := la) (nb := lb) (G.grow (Fm.keep (by assumption))) R' (by ktn_no "on") (by ktn_no "on") (by (first | lia | omega)) (by (first | lia | omega)) odd2 odd1 (by (first | lia | omega)) (by (first | lia | omega)) hW hw0 hw1 hW1 hW6 Ma.limbs Mb.limbs ?_
    intro t c1 c2 below FF left h9 k9 nf nr made MF hFF hEq hcase
    have F9 := Fm.adds (by assumption) made
    rw [Int.toNat_natCast] at hFF hEq
    rw [Ma.val, Mb.val] at hEq
    obtain ⟨pad1, pad2, pad3, pad4⟩ := pad_ok hW1 MF hFF
    obtain ⟨P, hP⟩ : ∃ P, nf ++ List.replicate ((sz : Int) - (nf.length : Int)).toNat 0 = P := ⟨_, rfl⟩
    have RO : RowOk W AA BB sz P left := hP ▸ ⟨pad2, pad3, by rw [pad4]; exact hEq⟩
    have bl := RO.left S hsm
    ktn_no "ms"
    (rename Fm _ _ _ _ _ => F10)
    refine r_exprCut F10 left ?_ ?_
    · refine r_ifexp ?_
      ktn_no "ms"
      · rcases hcase with ⟨z1, z2, Mr⟩ | ⟨z1, z2, Mr⟩
        · refine c_worth (n := n + 19) (na := nr) (G.grow (Fm.keep (by assumption))) R' (by ktn_no "on") ?_ hW hw0 hw1 hW1 hW6 Mr.limbs ?_
          · refine Nat.le_trans (Mr.len hW1 (n := 3) (by (first | lia | omega))) (by (first | lia | omega))
          intro tt h11 k11 g11
          have F11 := Fm.grow (by assumption) g11
          ktn_no "ms"
          exact ⟨_, _, _, by rw [Mr.val]; congr 1; (first | lia | omega), rfl, by assumption⟩
        · simp_all
      · rcases hcase with ⟨z1, z2, Mr⟩ | ⟨z1, z2, Mr⟩
        · simp_all
        · refine c_worth (n := n + 19) (na := nr) (G.grow (Fm.keep (by assumption))) R' (by ktn_no "on") ?_ hW hw0 hw1 hW1 hW6 Mr.limbs ?_
          · refine Nat.le_trans (Mr.len hW1 (n := 3) (by (first | lia | omega))) (by (first | lia | omega))
          intro tt h11 k11 g11
          have F11 := Fm.grow (by assumption) g11
          exact ⟨_, _, _, by rw [Mr.val], rfl, by assumption⟩
    intro tt h11 k11 F11
    clear hcase
    have hEq' : AA = val W nf * BB + left * W ^ (sz : Int).toNat := by rw [MF.val, Int.toNat_natCast]; exact hEq
    have hm3 : IntMulOk (val W nf) BB := IntMulOk.of_right (PySem.intBits_le_64 (by (first | lia | omega)) (by (first | lia | omega)))
    have hm4 : IntMulOk left (W ^ (sz : Int).toNat) := IntMulOk.of_left (PySem.intBits_le_64 (by (first | lia | omega)) (by (first | lia | omega)))
    ktn_no "ms"
    refine c_worth (n := n + 19) (na := nf) (G.grow (Fm.keep (by assumption))) R' (by ktn_no "on") (by (first | lia | omega)) hW hw0 hw1 hW1 hW6 MF.limbs ?_
    intro tt2 h12 k12 g12
    have F12 := Fm.grow (by assumption) g12
    ktn_no "ms"
    · exfalso; contradiction
    · exfalso; (first | lia | omega)
    refine' r_catX (ns := nf) hP ?x_Fc ?x_ea3 ?x_eb3 ?x_hn3 ?x_hm3 ?_
    case x_Fc => assumption
    case x_ea3 => ktn_no "on"
    case x_eb3 => ktn_no "on"
    case x_hn3 => (first | lia | omega)
    case x_hm3 => simp only [List.length_replicate]; (first | lia | omega)
    intro cN h13 F13
    ktn_no "ms"
    (rename Fm _ _ _ _ _ => F14)
    have F15 : Fm h L _ _ (.il cN P :: ([.gl DR (rvL y ++ [left]), .ga DW (rvA y ++ [.ref cN]), .il Dr la] ++ ((y.map fun z => .il z.1 z.2.1) ++ ps))) := F14.ents (by ktn_no "sub")
    have F16 := F15.perm (List.perm_middle (l₁ := ([.gl DR (rvL y ++ [left]), .ga DW (rvA y ++ [.ref cN]), .il Dr la] : List Ent)))
    exact Turn.mk ((cN, P, left) :: y) F16 (by ktn_no "names") (by ktn_no "sub") ⟨by rw [hsz2] at RO; exact RO, jy⟩
  case x_done =>
    intro y h₇ k₇ jy F₇
    have jy : rowsOk W AA BB o mn 3 y := jy
    obtain ⟨⟨c2, P2, l2⟩, ⟨c1, P1, l1⟩, ⟨c0, P0, l0⟩, rfl⟩ : ∃ z2 z1 z0 : RowT, y = [z2, z1, z0] := by
      exact three jy.len.1
    obtain ⟨R2, R1, R0, _⟩ := jy
    simp only [Nat.zero_mul, Nat.one_mul, Nat.add_zero] at R2 R1 R0
    have e1 := R0.same S R1 (Nat.le_refl _)
    rw [e1] at R1
    have R2' : RowOk W AA BB (mn + o + o) P2 l2 := by
      have : mn + o + o = mn + 2 * o := by (first | lia | omega)
      rw [this]; exact R2
    have e2 := R1.same S R2' (by (first | lia | omega))
    rw [e2] at R2
    obtain ⟨b1, b2, b3, b4, b5⟩ := blocks S R1 R2 R0
    have bl := R0.left S (Nat.le_refl _)
    have lP2 := R2.len
    have lP1 := R1.len
    have lP0 := R0.len
    have F₇ : Fm h L _ _ [.gl DR [l0, l1, l2], .ga DW [.ref c0, .ref c1, .ref c2], .il Dr la, .il c2 P2, .il c1 P1, .il c0 P0] := F₇
    have hg0 : ([l0, l1, l2] : List Int).getD (0 : Int).toNat 0 = l0 := rfl
    ktn_no "ms"
    · exfalso
      have z : [l0, l1, l2] ≠ List.replicate (Int.toNat 3) ([l0, l1, l2].getD (Int.toNat 0) 0) := by assumption
      exact z (by rw [e2, e1]; rfl)
    · exfalso
      have z : ¬ (0 - BB < [l0, l1, l2].getD (Int.toNat 0) 0) := by assumption
      exact z (by show 0 - BB < l0; (first | lia | omega))
    · exfalso
      have z : ¬ ([l0, l1, l2].getD (Int.toNat 0) 0 ≤ 0) := by assumption
      exact z bl.2
    refine c_limbs (n := n + 19) (mm := 3) (G.grow (Fm.keep (by assumption))) R' hW hw0 hw1 hW1 hW6 A0 AW (by (first | lia | omega)) ?_
    intro c8 h8 k8 l8 g8 n8 e8 M8
    have F8 := Fm.add (e := .il _ _) (by assumption) g8 n8 e8
    have hl8 : l8 = la := M8.ext (by (first | lia | omega)) Ma
    ktn_no "ms"
    · exfalso
      have z : la ≠ l8 := by assumption
      exact z hl8.symm
    · exfalso
      have z : P0 ≠ List.take (mn : Int).toNat P2 := by assumption
      exact z b1
    · exfalso
      have z : P1 ≠ List.take ((mn : Int) + (o : Int)).toNat P2 := by assumption
      exact z b2
    (rename Fm _ _ _ _ _ => F9)
    refine' r_while (σ := Nat) (fun sh => 1 ≤ sh ∧ sh ≤ o) (fun sh => [(Str.ofString "b", .int BB), (Str.ofString "base", .int W), (Str.ofString "order", .int (o : Nat)), (Str.ofString "many", .int (mn : Nat)), (Str.ofString "rests", .ref DR), (Str.ofString "all_limbs", .ref c2), (Str.ofString "shift", .int (sh : Nat))])
      (fun _ => [.gl DR [l0, l1, l2], .il c2 P2]) (fun sh => o - sh) 1 ?x_F3 ?x_n3 ?x_u3 ?x_j3 ?x_turn3
    case x_F3 => exact F9
    case x_n3 => ktn_no "names"
    case x_u3 => ktn_no "sub"
    case x_j3 => exact ⟨Nat.le_refl _, o1⟩
    case x_turn3 =>
      rintro sh h10 k10 ⟨j1, j2⟩ F10
      ktn_no "ms"
      · exfalso; (first | lia | omega)
      · exfalso
        have z : List.take ((mn : Int) + (o : Int) - (mn : Int)).toNat (List.drop (mn : Int).toNat P2) ≠ List.drop ((mn : Int) + (o : Int)).toNat P2 := by assumption
        refine z ?_
        rw [show ((mn : Int) + (o : Int) - (mn : Int)).toNat = o by (first | lia | omega), show ((mn : Int) + (o : Int)).toNat = mn + o by (first | lia | omega), Int.toNat_natCast]
        exact b3
      · refine c_divided (n := n + 19) (G.grow (Fm.keep (by assumption))) R' (by show 0 ≤ 0 - l0; (first | lia | omega)) (by show 0 - l0 < BB; (first | lia | omega)) (by (first | lia | omega)) (by (first | lia | omega)) (by (first | lia | omega)) (by (first | lia | omega)) (by (first | lia | omega)) ?_
        intro c11 h11 k11 g11 n11 e11
        have F11 := Fm.add (e := .il _ _) (by assumption) g11 n11 e11
        ktn_no "ms"
        refine Eq.mpr (congrArg (fun b => Q (Value.bool b) (St s _ _)) (decide_eq_true ?_)) (q _ _ (Fm.keep (by assumption)))
        rw [show ((mn : Int) + (o : Int) - (mn : Int)).toNat = o by (first | lia | omega), Int.toNat_natCast, Int.toNat_natCast]
        show _ = dv BB W o (0 - l0)
        rw [Int.zero_sub]; exact b5
      · exact Turn.mk (sh + 1) (by assumption) (by ktn_no "names") (by ktn_no "sub") ⟨⟨by (first | lia | omega), by (first | lia | omega)⟩, by (first | lia | omega)⟩
      all_goals
        exfalso
        have z : ¬ List.take ((P2.length : Int) - (sh : Int) - (mn : Int)).toNat (List.drop (mn : Int).toNat P2) ≠ List.drop ((mn : Int) + (sh : Int)).toNat P2 := by assumption
        refine z ?_
        rw [show ((P2.length : Int) - (sh : Int) - (mn : Int)).toNat = 2 * o - sh by (first | lia | omega), show ((mn : Int) + (sh : Int)).toNat = mn + sh by (first | lia | omega), Int.toNat_natCast]
        exact no_shift S R0 R1 R2 j1 (by (first | lia | omega))
end
end
section
local macro_rules | `(tactic| ktn_no "mB") => `(tactic| with_reducible cell_end w_rep 5 42121)
local macro_rules | `(tactic| ktn_no "mO") => `(tactic| with_reducible cell_end w_newIl 2 1)
theorem law_frame {H h₁ : Heap} {L c1 c2 c3 sc : Addr} {m : Str → Option Value} {w1 w2 w3 : Obj} (FF : Fr H L h₁ m) (NN : News H L h₁ [(c3, w3), (c2, w2), (c1, w1)]) (d3 : w3.data = .cell none) (d2 : w2.data = .cell none) (d1 : w1.data = .cell none)
    (n32 : c3 ≠ c2) (n31 : c3 ≠ c1) (n21 : c2 ≠ c1) (hm : m (Str.ofString "script") = some (.ref sc)) : Fm H L h₁ [(Str.ofString "script", .ref sc)] [.hole c3, .hole c2, .hole c1] := by
  have g3 := NN (c3, w3) (.head _)
  have g2 := NN (c2, w2) (.tail _ (.head _))
  have g1 := NN (c1, w1) (.tail _ (.tail _ (.head _)))
  refine ⟨⟨m, FF, fun x a e => ?_⟩, fun e he => ?_, ?_⟩
  · rw [List.lookup_cons] at e
    cases q : x == Str.ofString "script" with
    | true => rw [q] at e; cases e; rw [beq_iff_eq.mp q]; exact ⟨_, hm, rfl⟩
    | false => rw [q] at e; cases e
  · rcases List.mem_cons.mp he with rfl | he
    · exact ⟨⟨w3, g3.1, d3⟩, g3.2⟩
    · rcases List.mem_cons.mp he with rfl | he
      · exact ⟨⟨w2, g2.1, d2⟩, g2.2⟩
      · rw [List.mem_singleton.mp he]; exact ⟨⟨w1, g1.1, d1⟩, g1.2⟩
  · show [c3, c2, c1].Nodup
    simp [n32, n31, n21]
theorem pip_step {prog : Program} {w : World} {A : Around} {s : Shared} {H h : Heap} {L : Addr} {k n : Nat} {l : List (Str × AV)} {es es' : List Ent} {Q : Value → Shared → Prop} {fr D : Addr} {ns : List Int} {i many : Int} {tm : Tok}
    (F : Fm H L h l es) (u : Upd (.al fr [.int i, .ref D]) (.al fr [.int (i + 1), .ref D]) es es') (hD : .il D ns ∈ es) (G : Gd w H) (R : Room A (n + 1)) (hne : D ≠ fr) (hn : ns.length ≤ 1000) (i0 : 0 ≤ i) (i1 : i < 1000) (m0 : 0 < many) (m1 : many < 1000)
    (q : ∀ x t h' k', Fm H L h' l es' → 0 ≤ x → x < many → Q (.int x t) (St s h' k')) : wpAny (model prog w) A (call (.ref 107) [.ref fr, .int many tm]) Q Nope (St s h k) :=
  c_pip G F.keep (F.fresh (e := .al fr [.int i, .ref D]) u.mem) R (F.on u.mem) (F.on hD) hne hn i0 i1 m0 m1 fun x t h' k' hk e x0 x1 => q x t h' k' (F.upd u rfl hk e) x0 x1
theorem with_room {α : Type} {M : Model} {A : Around} {m : Sem α} {Q : α → Shared → Prop} {E : Value → Shared → Prop} {s : Shared} (r : Room A 100) (k : Room A 100 → wpAny M A m Q E s) : wpAny M A m Q E s := k r
theorem Fm.snoc {α : Type} {f : α → Ent} {y : List α} {z : α} {qs : List Ent} {H h : Heap} {L : Addr} {l : List (Str × AV)} (F : Fm H L h l (f z :: (y.map f ++ qs))) : Fm H L h l ((y ++ [z]).map f ++ qs) := by
  have := F.perm (List.perm_middle (l₁ := y.map f))
  simpa using this
theorem c_worthX {prog : Program} {w : World} {A : Around} {s : Shared} {h : Heap} {k n : Nat} {Q : Value → Shared → Prop} {a : Addr} {na : List Int} {ww W X : Int} {tw : Tok} (hX : val W na = X)
    (G : Gd w h) (R : Room A (n + 1)) (ea : (Ent.il a na).on h) (hna : na.length ≤ 1000)
    (hW : W = 2 ^ ww.toNat) (hw0 : 2 ≤ ww) (hw1 : ww ≤ 6) (hW1 : 1 < W) (hW6 : W ≤ 64) (la : Limbs W na)
    (q : ∀ t h' k', Grow h h' → Q (.int X t) (St s h' k')) :
    wpAny (model prog w) A (call (.ref 119) [.ref a, .int ww tw]) Q Nope (St s h k) := by
  subst hX; exact c_worth G R ea hna hW hw0 hw1 hW1 hW6 la q
theorem c_commonX {prog : Program} {w : World} {A : Around} {s : Shared} {h : Heap} {k n : Nat} {Q : Value → Shared → Prop} {x y g : Nat} {tx ty : Tok} (hX : Nat.gcd y x = g) (G : Gd w h) (R : Room A (n + 1))
    (q : ∀ t h' k', Grow h h' → Q (.int (g : Nat) t) (St s h' k')) :
    wpAny (model prog w) A (call (.ref 126) [.int (x : Nat) tx, .int (y : Nat) ty]) Q Nope (St s h k) := by
  subst hX; exact c_common G R q
theorem r_cTupV {prog : Program} {w : World} {A : Around} {s : Shared} {h h₀ : Heap} {k : Nat} {env : Env} {l : List (Str × AV)} {es : List Ent} {Q : Value → Shared → Prop}
    {σ : Type} (J : Nat → σ → Prop) (Le : σ → List Ent) (outs : σ → List AV) (y₀ : σ) (ps : List Ent) {use : Option (Value → Sem Unit)} {a : Addr} {ns : List Int} {elt iter : PySem.Expr} {scope : Scope} {cl : List (Str × Addr)} {pos px : Pos} {x : Str} (R : Room A 0)
    (F : Fm h₀ env.locals h l (.tup a (ns.map .int) :: es)) (hn : ns.length ≤ 1000000) (u : (Le y₀ ++ ps).Sublist es) (j : J 0 y₀) (jo : outs y₀ = [])
    (turn : ∀ i y v h k C qs, i < ns.length → ns.getD i 0 = v → J i y → (∀ e ∈ ps, e ∈ qs) → Fm h₀ C h [(x, .int v)] (Le y ++ qs) → wpAny (model prog w) A (eval elt (compEnvC scope cl C env)) (fun v' s' => ∃ y' h' k' a, s' = St s h' k' ∧ a.is v' ∧ J (i + 1) y' ∧ outs y' = outs y ++ [a] ∧ Fm h₀ C h' [(x, .int v)] (Le y' ++ qs)) Nope (St s h k))
    (done : ∀ D C y h k m' oC, J ns.length y → h.Ns C m' → Fm h₀ env.locals h l (.raw C oC :: .ga D (outs y) :: (Le y ++ ps)) → compPost (model prog w) A Nope use Q (.ref D) C (.ok .next) (St s h k))
    (hcell : (scope.names.all fun y => decide (y.2 ≠ .cell)) = true := by rfl) (hkind : scope.kind = .function := by rfl) (hx : scope.names.lookup x = some .local := by rfl) :
    wpAny (model prog w) A (pyIter (.ref a)) (fun it s₂ => CBlk prog w A elt (.Name x px) iter scope cl pos env use Q it s₂) Nope (St s h k) :=
  r_cTup J Le outs y₀ ps R F hn u j jo (fun i y h k C qs hi => turn i y _ h k C qs hi rfl) done hcell hkind hx
set_option maxHeartbeats 40000000 in
theorem fin : PySem.Challenge.rw_sa0335_01.Holds := hd (by
  k_go0
  dsimp only
  (rename Frag.In _ _ => KX)
  (rename Top _ _ _ _ _ _ => TT)
  try (rename Heap.CodeRec _ _ _ => z1; clear z1)
  (rename Fr _ _ _ _ => FF)
  (rename News _ _ _ _ => NN)
  (rename IntsAre _ _ => II)
  (rename Heap.IsList _ _ _ => LL)
  (rename ¬ ((63 : Nat) : Int) < _ => hlen)
  have G : Gd _ _ := ⟨KX, _, _, _, topRead_of TT⟩
  have ea := (⟨_, LL, II⟩ : (Ent.il _ _).on _)
  (rename Shared => s₁)
  refine wpAny_mono (Q := PF (fun _ => False) (fun v s' => v = .bool true ∧ ∃ h' k', s' = St s₁ h' k' ∧ Grow s₁.heap h')) (E := Nope) ?x_h1 ?x_h2 (fun _ _ e => e.elim)
  case x_h1 =>
    have F := law_frame FF NN (by assumption) (by assumption) (by assumption) (Nat.succ_ne_self _) (Nat.ne_of_gt (Nat.lt_succ_of_lt (Nat.lt_succ_self _))) (Nat.succ_ne_self _) rfl
    refine (?_ : wpAny _ _ _ _ _ (St _ _ _))
    refine with_room ⟨by rfl, by show 302 + 100 < 1000; decide, by show 7 + 8 * 100 + 16 < 9900; decide⟩ fun R' => ?_
    clear FF NN LL II
    (rename Shared => s₁)
    (rename List Int => ns)
    have hns : ns.length ≤ 63 := by (first | lia | omega)
    generalize s₁.heap.objs.size = Lz at F R' ⊢
    ktn_no "ms"
    refine r_lcE (cl := _) rfl ?_
    ktn_no "ms"
    (rename Fm _ _ _ _ _ => F1)
    refine' r_cIl (σ := List Int) (ns := ns.take 9) (fun i y => y.length = i) (fun _ => []) (fun y => y.map .int) [] [.hole (Lz + 1 + 1 + 1), .hole (Lz + 1 + 1), .hole (Lz + 1)] ?x_R ?x_F ?x_hn ?x_u ?x_j ?x_jo ?x_turn ?x_done
    case x_R => exact R'.le (by (first | lia | omega))
    case x_F => exact F1
    case x_hn => rw [List.length_take]; (first | lia | omega)
    case x_u => ktn_no "sub"
    case x_j => rfl
    case x_jo => rfl
    case x_turn =>
      rintro i y h₃ k₃ C qs hi j hq F₃
      ktn_no "ms"
      exact ⟨y ++ [if (ns.take 9).getD i 0 < 0 then -(ns.take 9).getD i 0 else (ns.take 9).getD i 0], _, _, .int (if (ns.take 9).getD i 0 < 0 then -(ns.take 9).getD i 0 else (ns.take 9).getD i 0), rfl, ⟨_, rfl⟩, by simp [j], by simp, by assumption⟩
    case x_done =>
      intro D C ys h₃ k₃ m' oC j hNs F₃
      have lys : ys.length ≤ 9 := by rw [j, List.length_take]; (first | lia | omega)
      refine post_none hNs F₃ (fun h₄ F₄ => ?_)
      have F₅ := F₄.gaInts
      clear F₃ F₄ F1
      ktn_no "ms"
      refine' r_newAl (as := [.int 0, .ref D]) ?x_F6 ?x_hi6 ?x_hn6 ?_
      case x_F6 => assumption
      case x_hi6 => ktn_no "avs"
      case x_hn6 => exact Nat.le_of_ble_eq_true rfl
      intro fr h₆ F₆
      have hne : D ≠ fr := Ne.symm (F₆.ne2 (e := .al fr [.int 0, .ref D]) (e' := .il D ys) (by ktn_no "sub"))
      ktn_no "ms"
      (rename Fm _ _ _ _ _ => FN)
      refine' pip_step (n := 90) (D := D) (ns := ys) FN ?x_upw ?x_hDpw ?x_Gpw ?x_Rpw hne ?x_hnpw ?x_ipw ?x_jpw ?x_mpw ?x_npw ?_
      case x_upw => ktn_no "upd"
      case x_hDpw => ktn_no "mem"
      case x_Gpw => assumption
      case x_Rpw => exact R'.le (by (first | lia | omega))
      case x_hnpw => (first | lia | omega)
      case x_ipw => (first | lia | omega)
      case x_jpw => (first | lia | omega)
      case x_mpw => (first | lia | omega)
      case x_npw => (first | lia | omega)
      clear FN
      intro pw t_pw h_pw k_pw F_pw pw0 pw1
      ktn_no "ms"
      (rename Fm _ _ _ _ _ => FN)
      refine' pip_step (n := 90) (D := D) (ns := ys) FN ?x_upb ?x_hDpb ?x_Gpb ?x_Rpb hne ?x_hnpb ?x_ipb ?x_jpb ?x_mpb ?x_npb ?_
      case x_upb => ktn_no "upd"
      case x_hDpb => ktn_no "mem"
      case x_Gpb => assumption
      case x_Rpb => exact R'.le (by (first | lia | omega))
      case x_hnpb => (first | lia | omega)
      case x_ipb => (first | lia | omega)
      case x_jpb => (first | lia | omega)
      case x_mpb => (first | lia | omega)
      case x_npb => (first | lia | omega)
      clear FN
      intro pb t_pb h_pb k_pb F_pb pb0 pb1
      have hww0 : 2 ≤ 2 + pw := by (first | lia | omega)
      have hww1 : 2 + pw ≤ 6 := by (first | lia | omega)
      obtain ⟨W, hW⟩ : ∃ W : Int, W = 2 ^ (2 + pw).toNat := ⟨_, rfl⟩
      have hWv : 4 ≤ W ∧ W ≤ 64 := by
        have : pw = 0 ∨ pw = 1 ∨ pw = 2 ∨ pw = 3 ∨ pw = 4 := by (first | lia | omega)
        rcases this with rfl | rfl | rfl | rfl | rfl <;> simp at hW <;> (first | lia | omega)
      have hW1 : 1 < W := by (first | lia | omega)
      ktn_no "ms"
      obtain ⟨bN, hbN⟩ : ∃ bN : Nat, 2 * pb + 1 = bN := ⟨(2 * pb + 1).toNat, by (first | lia | omega)⟩
      (rename Fm _ _ _ _ _ => FB)
      rw [hbN] at FB
      refine r_lcE (cl := _) rfl ?_
      ktn_no "ms"
      (rename Fm _ _ _ _ _ => FN)
      refine' pip_step (n := 90) (D := D) (ns := ys) FN ?x_upn ?x_hDpn ?x_Gpn ?x_Rpn hne ?x_hnpn ?x_ipn ?x_jpn ?x_mpn ?x_npn ?_
      case x_upn => ktn_no "upd"
      case x_hDpn => ktn_no "mem"
      case x_Gpn => assumption
      case x_Rpn => exact R'.le (by (first | lia | omega))
      case x_hnpn => (first | lia | omega)
      case x_ipn => (first | lia | omega)
      case x_jpn => (first | lia | omega)
      case x_mpn => (first | lia | omega)
      case x_npn => (first | lia | omega)
      clear FN
      intro pn t_pn h_pn k_pn F_pn pn0 pn1
      ktn_no "ms"
      (rename Fm _ _ _ _ _ => F7)
      refine' r_cRange (σ := List Int) (fun i y => y.length = i ∧ Limbs W y) (fun y => [.al fr [.int (0 + 1 + 1 + 1 + (y.length : Nat)), .ref D]]) (fun y => y.map .int) [] [.il D ys, .hole (Lz + 1 + 1 + 1), .cell (Lz + 1 + 1) (.int (2 + pw)), .cell (Lz + 1) (.ref fr)] ?x_R7 ?x_e7 ?x_h17 ?x_h27 ?x_h37 ?x_h47 ?x_h57 ?x_F7 ?x_u7 ?x_j7 ?x_jo7 ?x_turn7 ?x_done7
      case x_F7 => exact F7.ents (by ktn_no "sub")
      case x_R7 => exact R'.le (by (first | lia | omega))
      case x_e7 => ktn_no "on"
      case x_h17 => (first | lia | omega)
      case x_h27 => (first | lia | omega)
      case x_h37 => (first | lia | omega)
      case x_h47 => (first | lia | omega)
      case x_h57 => (first | lia | omega)
      case x_u7 => ktn_no "sub"
      case x_j7 => exact ⟨rfl, .nil⟩
      case x_jo7 => rfl
      case x_turn7 =>
        rintro i y h₃ k₃ C qs hi ⟨j1, j2⟩ hq F₃
        have m1 := hq (.il D ys) (.head _)
        have m2 := hq (.cell (Lz + 1 + 1) (.int (2 + pw))) (.tail _ (.tail _ (.head _)))
        have m3 := hq (.cell (Lz + 1) (.ref fr)) (.tail _ (.tail _ (.tail _ (.head _))))
        have hi4 : i < 4 := by (first | lia | omega)
        ktn_no "ms"
        (rename Fm _ _ _ _ _ => FN)
        refine' pip_step (n := 90) (D := D) (ns := ys) FN ?x_u8 ?x_hD8 ?x_G8 ?x_R8 hne ?x_hn8 ?x_i8 ?x_j8 ?x_m8 ?x_n8 ?_
        case x_u8 => ktn_no "upd"
        case x_hD8 => ktn_no "mem"
        case x_G8 => assumption
        case x_R8 => exact R'.le (by (first | lia | omega))
        case x_hn8 => (first | lia | omega)
        case x_i8 => (first | lia | omega)
        case x_j8 => (first | lia | omega)
        case x_m8 => (first | lia | omega)
        case x_n8 => (first | lia | omega)
        intro x t h' k' F8 x0 x1
        refine ⟨y ++ [x], _, _, .int x, rfl, ⟨_, rfl⟩, ⟨by simp [j1], j2.append (.cons x0 x1 .nil)⟩, by simp, ?_⟩
        have e : (0 + 1 + 1 + 1 + (y.length : Nat) + 1 : Int) = 0 + 1 + 1 + 1 + ((y ++ [x]).length : Nat) := by simp; (first | lia | omega)
        rw [e] at F8
        exact F8
      case x_done7 =>
        rintro D2 C as h₃ k₃ m' oC ⟨j1, j2⟩ hNs F₃
        refine post_none hNs F₃ (fun h₄ F₄ => ?_)
        have F₅ := F₄.gaInts
        clear F₃ F₄ F7
        ktn_no "ms"
        have las : as.length ≤ 3 := by (first | lia | omega)
        obtain ⟨aN, haN⟩ : ∃ aN : Nat, val W as = aN := ⟨(val W as).toNat, by have := val_nonneg (show 0 < W by (first | lia | omega)) j2; (first | lia | omega)⟩
        have haW : (aN : Int) < W ^ 3 := by
          rw [← haN]
          have h1 := val_lt (show 0 < W by (first | lia | omega)) j2
          have h2 : W ^ as.length ≤ W ^ 3 := pow_mono' (by (first | lia | omega)) las
          (first | lia | omega)
        refine c_worthX (n := 90) (na := as) (W := W) haN (G.grow (Fm.keep (by assumption))) (R'.le (by (first | lia | omega))) (by ktn_no "on") (by (first | lia | omega)) hW hww0 hww1 hW1 (by (first | lia | omega)) j2 ?_
        intro t9 h9 k9 g9
        have F9 := Fm.grow (by assumption) g9
        ktn_no "ms"
        (rename Fm _ _ _ _ _ => FN)
        refine' pip_step (n := 90) (D := D) (ns := ys) FN ?x_upc ?x_hDpc ?x_Gpc ?x_Rpc hne ?x_hnpc ?x_ipc ?x_jpc ?x_mpc ?x_npc ?_
        case x_upc => ktn_no "upd"
        case x_hDpc => ktn_no "mem"
        case x_Gpc => assumption
        case x_Rpc => exact R'.le (by (first | lia | omega))
        case x_hnpc => (first | lia | omega)
        case x_ipc => (first | lia | omega)
        case x_jpc => (first | lia | omega)
        case x_mpc => (first | lia | omega)
        case x_npc => (first | lia | omega)
        clear FN
        intro pc t_pc h_pc k_pc F_pc pc0 pc1
        ktn_no "ms"
        (rename Fm _ _ _ _ _ => FN)
        refine' pip_step (n := 90) (D := D) (ns := ys) FN ?x_ups ?x_hDps ?x_Gps ?x_Rps hne ?x_hnps ?x_ips ?x_jps ?x_mps ?x_nps ?_
        case x_ups => ktn_no "upd"
        case x_hDps => ktn_no "mem"
        case x_Gps => assumption
        case x_Rps => exact R'.le (by (first | lia | omega))
        case x_hnps => (first | lia | omega)
        case x_ips => (first | lia | omega)
        case x_jps => (first | lia | omega)
        case x_mps => (first | lia | omega)
        case x_nps => (first | lia | omega)
        clear FN
        intro ps t_ps h_ps k_ps F_ps ps0 ps1
        ktn_no "ms"
        have qq := gcd_facts (aN := aN) (bN := bN) (by (first | lia | omega)) (by (first | lia | omega)) (by (first | lia | omega))
        obtain ⟨gN, hgN⟩ : ∃ gN, Nat.gcd bN aN = gN ∧ True := ⟨_, rfl, trivial⟩
        rw [hgN.1] at qq
        refine c_commonX (n := 90) hgN.1 (G.grow (Fm.keep (by assumption))) (R'.le (by (first | lia | omega))) ?_
        intro t10 h10 k10 g10
        have F10 := Fm.grow (by assumption) g10
        have q1 : (0 : Int) < (gN : Int) := by have := qq.1; (first | lia | omega)
        have q1' : (gN : Int) < 1073741824 := by have := qq.2.1; (first | lia | omega)
        ktn_no "ms"
        obtain ⟨_, q2, q3, q4, q5⟩ := qq
        refine c_order (n := 90) (G.grow (Fm.keep (by assumption))) (R'.le (by (first | lia | omega))) (by (first | lia | omega)) (by (first | lia | omega)) q3 (by (first | lia | omega)) (has_order hW q3 q4 q5) ?_
        intro o t11 h11 k11 g11 o1 o2 o3 o4
        have F11 := Fm.grow (by assumption) g11
        have bb0 : 0 < bN := by (first | lia | omega)
        have bb1 : bN % 2 = 1 := by (first | lia | omega)
        have S3 : Setup W aN bN gN ((bN : Int) / (gN : Int)) o 3 (2 + pw).toNat := by
          obtain ⟨rfl, _⟩ := hgN
          exact setup_of hW1 hW haW bb0 bb1 o1 o3 o4
        have hB3 : (bN : Int) < W ^ 3 := by
          have : (4 : Int) ^ 3 ≤ W ^ 3 := by
            have h1 : (4 : Int) * 4 ≤ W * W := Int.mul_le_mul hWv.1 hWv.1 (by (first | lia | omega)) (by (first | lia | omega))
            have h2 : (4 : Int) * 4 * 4 ≤ W * W * W := Int.mul_le_mul h1 hWv.1 (by (first | lia | omega)) (by (first | lia | omega))
            have e : W ^ 3 = W * W * W := by simp [Int.pow_succ]
            rw [e]; simpa using h2
          have e4 : (4 : Int) ^ 3 = 64 := by decide
          (first | lia | omega)
        ktn_no "ms"
        refine c_round (n := 79) (G.grow (Fm.keep (by assumption))) R' hW hww0 hww1 hW1 hWv.2 S3 (by (first | lia | omega)) hB3 o2 ?_
        intro h12 k12 g12
        have F12 := Fm.grow (by assumption) g12
        clear F9 F10 F11
        ktn_no "ms"
        (rename Fm _ _ _ _ _ => F12')
        refine r_asgL3 (F12') (R'.le (by (first | lia | omega))) ?_
        refine r_lcE (cl := _) rfl ?_
        have hm5 : IntMulOk (bN : Int) (2 * pc + 1) := IntMulOk.of_left (PySem.intBits_le_64 (by (first | lia | omega)) (by (first | lia | omega)))
        ktn_no "ms"
        have hcc : 0 ≤ 2 * pc + 1 := by (first | lia | omega)
        have hsz1 : 1 ≤ 1 + ps := by (first | lia | omega)
        (rename Fm _ _ _ _ _ => F13)
        refine' r_cTupV (σ := List (Addr × List Int)) (ns := [(bN : Int), 2 * pc + 1, (bN : Int) * (2 * pc + 1)]) (fun i y => y.length = i ∧ ∀ j, j < i → ∀ z, y[j]? = some z → ∃ X, Num W X z.2 ∧ X < W ^ (1 + ps).toNat ∧ (([(bN : Int), 2 * pc + 1, (bN : Int) * (2 * pc + 1)] : List Int).getD j 0 * X) % W ^ (1 + ps).toNat = 1)
          (fun y => y.map fun z => .il z.1 z.2) (fun y => y.map fun z => .ref z.1) [] [.cell (Lz + 1 + 1 + 1) (.int (1 + ps)), .cell (Lz + 1 + 1) (.int (2 + pw))] ?x_R14 ?x_F14 ?x_hn14 ?x_u14 ?x_j14 ?x_jo14 ?x_turn14 ?x_done14
        case x_F14 => exact F13
        case x_R14 => exact R'.le (by (first | lia | omega))
        case x_hn14 => exact Nat.le_of_ble_eq_true rfl
        case x_u14 => ktn_no "sub"
        case x_j14 => exact ⟨rfl, fun j hj => by (first | lia | omega)⟩
        case x_jo14 => rfl
        case x_turn14 =>
          rintro i y v h₁₄ k₁₄ C qs hi hv ⟨j1, j2'⟩ hq F₁₄
          have m1 := hq (.cell (Lz + 1 + 1 + 1) (.int (1 + ps))) (.head _)
          have m2 := hq (.cell (Lz + 1 + 1) (.int (2 + pw))) (.tail _ (.head _))
          have hbc : (0 : Int) ≤ (bN : Int) * (2 * pc + 1) ∧ (bN : Int) * (2 * pc + 1) ≤ 63 * 63 ∧ ((bN : Int) * (2 * pc + 1)) % 2 = 1 := by
            refine ⟨Int.mul_nonneg (by (first | lia | omega)) hcc, Int.mul_le_mul (by (first | lia | omega)) (by (first | lia | omega)) hcc (by (first | lia | omega)), ?_⟩
            rw [Int.mul_emod, show (bN : Int) % 2 = 1 by (first | lia | omega), show (2 * pc + 1) % 2 = 1 by (first | lia | omega)]; rfl
          have hvv : 0 ≤ v ∧ v ≤ 63 * 63 ∧ v % 2 = 1 := by
            have hi' : i < 3 := hi
            have : i = 0 ∨ i = 1 ∨ i = 2 := by (first | lia | omega)
            rcases this with rfl | rfl | rfl
            · have : v = bN := by rw [← hv]; rfl
              (first | lia | omega)
            · have : v = 2 * pc + 1 := by rw [← hv]; rfl
              (first | lia | omega)
            · have : v = (bN : Int) * (2 * pc + 1) := by rw [← hv]; rfl
              (first | lia | omega)
          have hv6 : v < W ^ 6 := by
            have h3 : (64 : Int) ≤ W ^ 3 := by
              have h1 : (4 : Int) * 4 ≤ W * W := Int.mul_le_mul hWv.1 hWv.1 (by (first | lia | omega)) (by (first | lia | omega))
              have h2 : (4 : Int) * 4 * 4 ≤ W * W * W := Int.mul_le_mul h1 hWv.1 (by (first | lia | omega)) (by (first | lia | omega))
              have e : W ^ 3 = W * W * W := by simp [Int.pow_succ]
              rw [e]; simpa using h2
            have h6 : (64 : Int) * 64 ≤ W ^ 3 * W ^ 3 := Int.mul_le_mul h3 h3 (by (first | lia | omega)) (by (first | lia | omega))
            rw [← Int.pow_add] at h6
            have h6' : (64 : Int) * 64 ≤ W ^ 6 := h6
            (first | lia | omega)
          ktn_no "ms"
          refine c_limbs (n := 80) (mm := 6) (G.grow (Fm.keep (by assumption))) (R'.le (by (first | lia | omega))) hW hww0 hww1 hW1 hWv.2 hvv.1 hv6 (by (first | lia | omega)) ?_
          intro ca h15 k15 lv g15 n15 e15 Mv
          have F15 := Fm.add (e := .il _ _) (by assumption) g15 n15 e15
          have h2W : (2 : Int) ∣ W := by
            have : pw = 0 ∨ pw = 1 ∨ pw = 2 ∨ pw = 3 ∨ pw = 4 := by (first | lia | omega)
            rcases this with rfl | rfl | rfl | rfl | rfl <;> simp at hW <;> (first | lia | omega)
          obtain ⟨od1, od2⟩ := head_odd hW1 h2W Mv hvv.2.2
          have llv : lv.length ≤ 6 := Mv.len hW1 hv6
          ktn_no "ms"
          refine c_invlow (n := 80) (nb := lv) (G.grow (Fm.keep (by assumption))) (R'.le (by (first | lia | omega))) (by ktn_no "on") (by (first | lia | omega)) od2 od1 (by (first | lia | omega)) (by (first | lia | omega)) hW hww0 hww1 hW1 hWv.2 Mv.limbs ?_
          intro cx h16 k16 nc X g16 n16 e16 MX X1 X2
          have F16 := Fm.add (e := .il _ _) (by assumption) g16 n16 e16
          rw [Mv.val, ← hv] at X2
          refine ⟨y ++ [(cx, nc)], _, _, .ref cx, rfl, rfl, ⟨by simp [j1], fun j hj z hz => ?_⟩, by simp, ?_⟩
          · by_cases c : j < i
            · rw [List.getElem?_append_left (by (first | lia | omega))] at hz
              exact j2' j c z hz
            · have : j = i := by (first | lia | omega)
              subst this
              rw [List.getElem?_append_right (by (first | lia | omega)), j1] at hz
              simp at hz
              subst hz
              exact ⟨X, MX, X1, X2⟩
          · exact Fm.snoc (f := fun z : Addr × List Int => Ent.il z.1 z.2) (z := (cx, nc)) (F16.ents (by ktn_no "sub"))
        case x_done14 =>
          rintro D C y h15 k15 m' oC ⟨hJ1, hJ2⟩ hNs F15
          have hJ1 : y.length = 3 := hJ1
          obtain ⟨⟨a1, n1⟩, ⟨a2, n2⟩, ⟨a3, n3⟩, rfl⟩ : ∃ z1 z2 z3 : Addr × List Int, y = [z1, z2, z3] := by
            exact three hJ1
          obtain ⟨X1, M1, X1b, X1e⟩ := hJ2 0 (Nat.le_of_ble_eq_true rfl) _ rfl
          obtain ⟨X2, M2, X2b, X2e⟩ := hJ2 1 (Nat.le_of_ble_eq_true rfl) _ rfl
          obtain ⟨X3, M3, X3b, X3e⟩ := hJ2 2 (Nat.le_of_ble_eq_true rfl) _ rfl
          have X1e : ((bN : Int) * X1) % W ^ (1 + ps).toNat = 1 := X1e
          have X2e : ((2 * pc + 1) * X2) % W ^ (1 + ps).toNat = 1 := X2e
          have X3e : ((bN : Int) * (2 * pc + 1) * X3) % W ^ (1 + ps).toNat = 1 := X3e
          have M1 : Num W X1 n1 := M1
          have M2 : Num W X2 n2 := M2
          have M3 : Num W X3 n3 := M3
          have h2W : (2 : Int) ∣ W := by
            have : pw = 0 ∨ pw = 1 ∨ pw = 2 ∨ pw = 3 ∨ pw = 4 := by (first | lia | omega)
            rcases this with rfl | rfl | rfl | rfl | rfl <;> simp at hW <;> (first | lia | omega)
          have hn14 : 1 ≤ (1 + ps).toNat ∧ (1 + ps).toNat ≤ 4 := by (first | lia | omega)
          have hPW : W ≤ W ^ (1 + ps).toNat ∧ W ^ (1 + ps).toNat ≤ 16777216 ∧ W ∣ W ^ (1 + ps).toNat := by
            have e1 : W ^ 1 = W := by rw [Int.pow_succ, Int.pow_zero, Int.one_mul]
            have h1 : W ^ 1 ≤ W ^ (1 + ps).toNat := pow_mono' (by (first | lia | omega)) hn14.1
            have h2 : W ^ (1 + ps).toNat ≤ W ^ 4 := pow_mono' (by (first | lia | omega)) hn14.2
            have h3 : W * W ≤ 64 * 64 := Int.mul_le_mul hWv.2 hWv.2 (by (first | lia | omega)) (by (first | lia | omega))
            have h4 : (W * W) * (W * W) ≤ (64 * 64) * (64 * 64) := Int.mul_le_mul h3 h3 (Int.mul_nonneg (by (first | lia | omega)) (by (first | lia | omega))) (by (first | lia | omega))
            have e4 : W ^ 4 = (W * W) * (W * W) := by simp [Int.pow_succ, Int.mul_assoc]
            refine ⟨by (first | lia | omega), by (first | lia | omega), ?_⟩
            obtain ⟨mm, hmm⟩ : ∃ mm, (1 + ps).toNat = mm + 1 := ⟨(1 + ps).toNat - 1, by (first | lia | omega)⟩
            rw [hmm, Int.pow_succ]
            exact Int.dvd_mul_left _ _
          obtain ⟨hP1, hP2, hP3⟩ := hPW
          have hP0 : 0 < W ^ (1 + ps).toNat := by (first | lia | omega)
          have hP00 : 1 < W ^ (1 + ps).toNat := by (first | lia | omega)
          have hX1 : X1 % 2 = 1 := odd_of_inv (Int.dvd_trans h2W hP3) X1e
          have hX10 := M1.nonneg (show 0 < W by (first | lia | omega))
          have hX20 := M2.nonneg (show 0 < W by (first | lia | omega))
          have hX30 := M3.nonneg (show 0 < W by (first | lia | omega))
          have hbc2 : ((bN : Int) * (2 * pc + 1)) % 2 = 1 := by
            rw [Int.mul_emod, show (bN : Int) % 2 = 1 by (first | lia | omega), show (2 * pc + 1) % 2 = 1 by (first | lia | omega)]; rfl
          have ln1 : n1.length ≤ 4 := Nat.le_trans (M1.len hW1 X1b) hn14.2
          have ln2 : n2.length ≤ 4 := Nat.le_trans (M2.len hW1 X2b) hn14.2
          have hm6 : IntMulOk X1 X2 := IntMulOk.of_left (PySem.intBits_le_64 (by (first | lia | omega)) (by (first | lia | omega)))
          clear hJ1 hJ2
          refine post_none hNs F15 (fun h16 F16 => ?_)
          have F17 := F16.gaAl
          clear F12' F13 F15 F16
          refine ⟨D, .ref a1, .ref a2, .ref a3, _, _, _, _, rfl, rfl, F17, F17.on (.head _), fun h18 k18 F18 => ?_⟩
          clear F17
          have F18 : Fm _ _ _ _ [.al D [.ref a1, .ref a2, .ref a3], .il a1 n1, .il a2 n2, .il a3 n3, .cell (Lz + 1 + 1 + 1) (.int (1 + ps)), .cell (Lz + 1 + 1) (.int (2 + pw))] := F18
          ktn_no "ms"
          refine c_worthX (n := 90) (na := n1) (W := W) M1.val (G.grow (Fm.keep (by assumption))) (R'.le (by (first | lia | omega))) (by ktn_no "on") (by (first | lia | omega)) hW hww0 hww1 hW1 (by (first | lia | omega)) M1.limbs ?_
          intro t19 h19 k19 g19
          have F19 := Fm.grow (by assumption) g19
          ktn_no "ms"
          refine c_worthX (n := 90) (na := n2) (W := W) M2.val (G.grow (Fm.keep (by assumption))) (R'.le (by (first | lia | omega))) (by ktn_no "on") (by (first | lia | omega)) hW hww0 hww1 hW1 (by (first | lia | omega)) M2.limbs ?_
          intro t20 h20 k20 g20
          have F20 := Fm.grow (by assumption) g20
          ktn_no "ms"
          refine c_limbs (n := 80) (mm := (1 + ps).toNat) (G.grow (Fm.keep (by assumption))) (R'.le (by (first | lia | omega))) hW hww0 hww1 hW1 hWv.2 (Int.emod_nonneg _ (by (first | lia | omega))) (Int.emod_lt_of_pos _ hP0) (by (first | lia | omega)) ?_
          intro c21 h21 k21 n4 g21 nn21 e21 M4
          have F21 := Fm.add (e := .il _ _) (by assumption) g21 nn21 e21
          have e34 : n3 = n4 := by
            have := inv_uniq hW hbc2 hX30 X3b (Int.emod_nonneg _ (by (first | lia | omega))) (Int.emod_lt_of_pos _ hP0) X3e (inv_prod hP00 X1e X2e)
            rw [← this] at M4
            exact M3.ext (by (first | lia | omega)) M4
          ktn_no "ms"
          · exfalso
            have z : n3 ≠ n4 := by assumption
            exact z e34
          obtain ⟨od1, od2⟩ := head_odd hW1 h2W M1 hX1
          refine c_invlow (n := 80) (nb := n1) (G.grow (Fm.keep (by assumption))) (R'.le (by (first | lia | omega))) (by ktn_no "on") (by (first | lia | omega)) od2 od1 (by (first | lia | omega)) (by (first | lia | omega)) hW hww0 hww1 hW1 hWv.2 M1.limbs ?_
          intro c22 h22 k22 n5 Y g22 nn22 e22 M5 Y1 Y2
          have F22 := Fm.add (e := .il _ _) (by assumption) g22 nn22 e22
          rw [M1.val] at Y2
          have hYb := inv_uniq hW hX1 (M5.nonneg (show 0 < W by (first | lia | omega))) Y1 (Int.emod_nonneg _ (by (first | lia | omega))) (Int.emod_lt_of_pos _ hP0) Y2 (inv_back X1e)
          rw [hYb] at M5
          ktn_no "ms"
          refine c_limbs (n := 80) (mm := (1 + ps).toNat) (G.grow (Fm.keep (by assumption))) (R'.le (by (first | lia | omega))) hW hww0 hww1 hW1 hWv.2 (Int.emod_nonneg _ (by (first | lia | omega))) (Int.emod_lt_of_pos _ hP0) (by (first | lia | omega)) ?_
          intro c23 h23 k23 n6 g23 nn23 e23 M6
          have F23 := Fm.add (e := .il _ _) (by assumption) g23 nn23 e23
          have e56 : n5 = n6 := M5.ext (by (first | lia | omega)) M6
          ktn_no "ms"
          · exfalso
            have z : n5 ≠ n6 := by assumption
            exact z e56
          refine c_limbs (n := 80) (mm := 3) (G.grow (Fm.keep (by assumption))) (R'.le (by (first | lia | omega))) hW hww0 hww1 hW1 hWv.2 (by (first | lia | omega)) hB3 (by (first | lia | omega)) ?_
          intro c24 h24 k24 lb g24 nn24 e24 Mb
          have F24 := Fm.add (e := .il _ _) (by assumption) g24 nn24 e24
          obtain ⟨od3, od4⟩ := head_odd hW1 h2W Mb (show (bN : Int) % 2 = 1 by (first | lia | omega))
          have llb : lb.length ≤ 3 := Mb.len hW1 hB3
          ktn_no "ms"
          refine c_divrem (n := 80) (na := [1]) (nb := lb) (G.grow (Fm.keep (by assumption))) (R'.le (by (first | lia | omega))) (by ktn_no "on") (by ktn_no "on") (Nat.le_of_ble_eq_true rfl) (by (first | lia | omega)) od4 od3 (by (first | lia | omega)) (by (first | lia | omega)) hW hww0 hww1 hW1 hWv.2 (.cons (by decide) (by (first | lia | omega)) .nil) Mb.limbs ?_
          intro t25 c25 c26 below Fq left h25 k25 nf nr made MF hFF hEq hcase
          have F25 := Fm.adds (by assumption) made
          rw [Mb.val] at hEq
          have hEq : (1 : Int) = Fq * bN + left * W ^ (1 + ps).toNat := by simpa [val] using hEq
          have hFX := inv_uniq hW (show (bN : Int) % 2 = 1 by (first | lia | omega)) (MF.nonneg (show 0 < W by (first | lia | omega))) hFF hX10 X1b (inv_quot hP00 hEq) X1e
          rw [hFX] at MF
          have e71 : nf = n1 := MF.ext (by (first | lia | omega)) M1
          clear hcase
          ktn_no "ms"
          refine r_itemTR (i := 0) (by ktn_no "on") (Nat.le_of_ble_eq_true rfl) rfl ?_
          ktn_no "ms"
          exact ⟨congrArg Value.bool (decide_eq_true e71), _, _, rfl, Fm.keep (by assumption)⟩
  case x_h2 =>
    intro fl s' z
    cases fl with
    | next => exact z.elim
    | brk => exact z.elim
    | cont => exact z.elim
    | ret v =>
      obtain ⟨rfl, h', k', rfl, g⟩ := z
      dsimp only
      refine ⟨.inl ⟨.bool true, .bool true, [], rfl, raisesW_false ?_, .bool true, ?_, unshared_nil⟩, g, rfl, by assumption⟩
      · wrow_none_raised
      · kc_post)
end
end
end Mine
theorem PySem.Challenge.cw_sa0335_01_holds : PySem.Challenge.rw_sa0335_01.Holds :=
  Mine.fin
