import PyProof.Rows.All
import HandS.ForMost
import HandS.ForExc
import HandS.IsInst
import HandS.Zip
import HandS.CallSlots
import HandS.TupAny
import HandS.TupMul
import HandS.TupLe
import HandS.Flow
import HandS.Text
import HandS.SortInts
import HandS.Conv
import HandS.Iter
import HandS.Comp
import HandS.Exc
import HandS.ExcOwn
import HandS.WordsExc
import HandS.Ends
import HandS.Style
import HandS.Wide
import HandS.Deep
import HandS.TupSets
import KE.KTupSum
import KE.GoesEnum
import PySem.Challenge.RW_lineasks_k73_whole_frames_held
set_option Elab.async false
set_option linter.all false
set_option maxRecDepth 100000
set_option maxHeartbeats 4000000
/-! Data, store, worlds: what a value of the machine stands for. -/
namespace Ly
open PySem PySem.Spec PyProof.Rows L2

inductive D where
  | non | bl (b : Bool) | int (i : Int) | str (s : Str)
  | tup (xs : List D) | lst (xs : List D) | dic (ks : List Key) (xs : List D)
  | ref (i : Nat) | exc (c : Str) | scr (ns : List Int)
  deriving Inhabited

mutual
def D.beq : D → D → Bool
  | .non, .non => true
  | .bl a, .bl b => a == b
  | .int a, .int b => a == b
  | .str a, .str b => decide (a = b)
  | .tup a, .tup b => D.beqL a b
  | .lst a, .lst b => D.beqL a b
  | .dic k a, .dic l b => decide (k = l) && D.beqL a b
  | .ref a, .ref b => a == b
  | .exc a, .exc b => decide (a = b)
  | .scr a, .scr b => decide (a = b)
  | _, _ => false
def D.beqL : List D → List D → Bool
  | [], [] => true
  | x :: xs, y :: ys => D.beq x y && D.beqL xs ys
  | _, _ => false
end
mutual
theorem D.eq_of_beq : ∀ {a b : D}, D.beq a b = true → a = b
  | .non, b, h => by cases b <;> simp [D.beq] at h <;> rfl
  | .bl x, b, h => by cases b <;> simp [D.beq] at h; rw [h]
  | .int x, b, h => by cases b <;> simp [D.beq] at h; rw [h]
  | .str x, b, h => by cases b <;> simp [D.beq] at h; rw [h]
  | .tup x, b, h => by cases b <;> simp [D.beq] at h; rw [D.eq_of_beqL h]
  | .lst x, b, h => by cases b <;> simp [D.beq] at h; rw [D.eq_of_beqL h]
  | .dic k x, b, h => by cases b <;> simp [D.beq] at h; rw [h.1, D.eq_of_beqL h.2]
  | .ref x, b, h => by cases b <;> simp [D.beq] at h; rw [h]
  | .exc x, b, h => by cases b <;> simp [D.beq] at h; rw [h]
  | .scr x, b, h => by cases b <;> simp [D.beq] at h; rw [h]
theorem D.eq_of_beqL : ∀ {a b : List D}, D.beqL a b = true → a = b
  | [], b, h => by cases b <;> simp [D.beqL] at h; rfl
  | x :: xs, b, h => by
    cases b with
    | nil => simp [D.beqL] at h
    | cons y ys =>
      simp [D.beqL] at h
      rw [D.eq_of_beq h.1, D.eq_of_beqL h.2]
end
mutual
theorem D.beq_self : ∀ a : D, D.beq a a = true
  | .non => by simp [D.beq]
  | .bl x => by simp [D.beq]
  | .int x => by simp [D.beq]
  | .str x => by simp [D.beq]
  | .tup x => by simp [D.beq, D.beqL_self x]
  | .lst x => by simp [D.beq, D.beqL_self x]
  | .dic k x => by simp [D.beq, D.beqL_self x]
  | .ref x => by simp [D.beq]
  | .exc x => by simp [D.beq]
  | .scr x => by simp [D.beq]
theorem D.beqL_self : ∀ a : List D, D.beqL a a = true
  | [] => by simp [D.beqL]
  | x :: xs => by simp [D.beqL, D.beq_self x, D.beqL_self xs]
end
instance : DecidableEq D := fun a b => if h : D.beq a b = true then .isTrue (D.eq_of_beq h) else .isFalse (fun e => h (e ▸ D.beq_self a))

/- no place at or beyond n is named -/
mutual
def D.cl (n : Nat) : D → Bool
  | .ref i => decide (i < n)
  | .tup xs => D.clL n xs
  | .lst xs => D.clL n xs
  | .dic _ xs => D.clL n xs
  | _ => true
def D.clL (n : Nat) : List D → Bool
  | [] => true
  | x :: xs => D.cl n x && D.clL n xs
end

/-- what stands at a place -/
inductive Cell where
  | lst (xs : List D)
  | ins (c : Str) (ks : List Str) (xs : List D)
  | dct (ks : List Key) (xs : List D)
  | dtt (ks : List (List Key)) (xs : List D)
  deriving DecidableEq, Inhabited
def Cell.cl (n : Nat) : Cell → Bool
  | .lst xs => D.clL n xs
  | .ins _ _ xs => D.clL n xs
  | .dct _ xs => D.clL n xs
  | .dtt _ xs => D.clL n xs
abbrev Sto := List Cell
abbrev Ev := List (Option D)

/-- what is fixed: the written part, the module's names, the script's place and its ints -/
structure Ctx where
  K : PySem.W.Frag
  mg : Str → Option Value
  S : Addr
  ns : List Int
/-- a heap with the places' addresses and the addresses of the lists that nobody changes -/
structure Bd where
  H : Hp
  m : List Addr
  F : Addr → Prop
  /-- what stands where nobody of ours looks -/
  Z : List (Addr × HO) := []

mutual
def Rep (C : Ctx) (B : Bd) : D → V → Prop
  | .non, v => v = .non
  | .bl b, v => v = .bl b
  | .int i, v => v = .int i
  | .str s, v => v = .str s
  | .tup ds, v => ∃ a vs, v = .ref a ∧ vs.length ≤ sizeLine ∧ SqT C.K B.H a vs ∧ RepL C B ds vs
  | .lst ds, v => ∃ a vs, v = .ref a ∧ vs.length ≤ sizeLine ∧ (B.F a ∧ B.H a = some (.lst vs)) ∧ RepL C B ds vs
  | .dic ks ds, v => ∃ a kvs, v = .ref a ∧ B.F a ∧ B.H a = some (.dK kvs) ∧ kvs.map (·.1) = ks ∧ RepL C B ds (kvs.map (·.2))
  | .ref i, v => ∃ a, B.m[i]? = some a ∧ v = .ref a
  | .exc c, v => ∃ a φ, v = .ref a ∧ B.H a = some (.ext φ) ∧ False ∧ c = c
  | .scr ns, v => ns = C.ns ∧ v = .ref C.S
def RepL (C : Ctx) (B : Bd) : List D → List V → Prop
  | [], vs => vs = []
  | d :: ds, vs => ∃ v r, vs = v :: r ∧ Rep C B d v ∧ RepL C B ds r
end

structure Kp (C : Ctx) (B B' : Bd) : Prop where
  tup : ∀ a vs, SqT C.K B.H a vs → SqT C.K B'.H a vs
  fz : ∀ a, B.F a → B'.F a ∧ ∀ o, B.H a = some o → B'.H a = some o
  mm : ∀ (i : Nat) (a : Addr), B.m[i]? = some a → B'.m[i]? = some a
structure Ext (C : Ctx) (B B' : Bd) : Prop where
  tup : ∀ a vs, SqT C.K B.H a vs → SqT C.K B'.H a vs
  fz : ∀ a, B.F a → B'.F a ∧ ∀ o, B.H a = some o → B'.H a = some o
  mm : ∀ (i : Nat) (a : Addr), B.m[i]? = some a → B'.m[i]? = some a
  zz : B'.Z = B.Z
theorem Ext.refl (C : Ctx) (B : Bd) : Ext C B B := ⟨fun _ _ h => h, fun _ h => ⟨h, fun _ h => h⟩, fun _ _ h => h, rfl⟩
theorem Ext.trans {C : Ctx} {A B D : Bd} (a : Ext C A B) (b : Ext C B D) : Ext C A D :=
  ⟨fun x v h => b.tup x v (a.tup x v h), fun x h => ⟨(b.fz x (a.fz x h).1).1, fun o e => (b.fz x (a.fz x h).1).2 o ((a.fz x h).2 o e)⟩, fun i x h => b.mm i x (a.mm i x h), b.zz.trans a.zz⟩

section
variable {C : Ctx} {B B' : Bd}
mutual
theorem Rep.monoK (x : Kp C B B') : ∀ {d : D} {v : V}, Rep C B d v → Rep C B' d v
  | .non, v, h => by unfold Rep at h ⊢; exact h
  | .bl b, v, h => by unfold Rep at h ⊢; exact h
  | .int b, v, h => by unfold Rep at h ⊢; exact h
  | .str b, v, h => by unfold Rep at h ⊢; exact h
  | .tup ds, v, h => by
    unfold Rep at h ⊢
    obtain ⟨a, vs, e, z, q, r⟩ := h
    exact ⟨a, vs, e, z, x.tup _ _ q, RepL.monoK x r⟩
  | .lst ds, v, h => by
    unfold Rep at h ⊢
    obtain ⟨a, vs, e, z, q, r⟩ := h
    exact ⟨a, vs, e, z, ⟨(x.fz a q.1).1, (x.fz a q.1).2 _ q.2⟩, RepL.monoK x r⟩
  | .dic ks ds, v, h => by
    unfold Rep at h ⊢
    obtain ⟨a, kvs, e, q, q2, k, r⟩ := h
    exact ⟨a, kvs, e, (x.fz a q).1, (x.fz a q).2 _ q2, k, RepL.monoK x r⟩
  | .ref i, v, h => by
    unfold Rep at h ⊢
    obtain ⟨a, q, e⟩ := h
    exact ⟨a, x.mm i a q, e⟩
  | .exc c, v, h => by
    unfold Rep at h
    obtain ⟨_, _, _, _, q, _⟩ := h
    exact q.elim
  | .scr c, v, h => by unfold Rep at h ⊢; exact h
theorem RepL.monoK (x : Kp C B B') : ∀ {ds : List D} {vs : List V}, RepL C B ds vs → RepL C B' ds vs
  | [], vs, h => by unfold RepL at h ⊢; exact h
  | d :: ds, vs, h => by
    unfold RepL at h ⊢
    obtain ⟨v, r, e, q, t⟩ := h
    exact ⟨v, r, e, Rep.monoK x q, RepL.monoK x t⟩
end

theorem Rep.mono (x : Ext C B B') {d : D} {v : V} (h : Rep C B d v) : Rep C B' d v := h.monoK ⟨x.tup, x.fz, x.mm⟩
theorem RepL.mono (x : Ext C B B') {d : List D} {v : List V} (h : RepL C B d v) : RepL C B' d v := h.monoK ⟨x.tup, x.fz, x.mm⟩
theorem RepL.nil : RepL C B [] [] := by unfold RepL; rfl
theorem RepL.cons {d : D} {v : V} {ds : List D} {vs : List V} (h : Rep C B d v) (t : RepL C B ds vs) : RepL C B (d :: ds) (v :: vs) := by
  unfold RepL; exact ⟨v, vs, rfl, h, t⟩
theorem RepL.nil_inv {vs : List V} (h : RepL C B [] vs) : vs = [] := by unfold RepL at h; exact h
theorem RepL.cons_inv {d : D} {ds : List D} {vs : List V} (h : RepL C B (d :: ds) vs) : ∃ v r, vs = v :: r ∧ Rep C B d v ∧ RepL C B ds r := by unfold RepL at h; exact h
theorem RepL.length : ∀ {ds : List D} {vs : List V}, RepL C B ds vs → vs.length = ds.length
  | [], _, h => by rw [h.nil_inv]; rfl
  | _ :: _, _, h => by
    obtain ⟨v, r, e, _, t⟩ := h.cons_inv
    rw [e, List.length_cons, List.length_cons, RepL.length t]
theorem RepL.get : ∀ {ds : List D} {vs : List V} {i : Nat} {d : D}, RepL C B ds vs → ds[i]? = some d → ∃ v, vs[i]? = some v ∧ Rep C B d v
  | [], _, i, d, _, e => by simp at e
  | x :: xs, _, 0, d, h, e => by
    obtain ⟨v, r, rfl, q, _⟩ := h.cons_inv
    simp at e; subst e
    exact ⟨v, rfl, q⟩
  | x :: xs, _, i + 1, d, h, e => by
    obtain ⟨v, r, rfl, _, t⟩ := h.cons_inv
    obtain ⟨u, e1, q⟩ := RepL.get (i := i) t (by simpa using e)
    exact ⟨u, by simpa using e1, q⟩
theorem RepL.get' : ∀ {ds : List D} {vs : List V} {i : Nat} {v : V}, RepL C B ds vs → vs[i]? = some v → ∃ d, ds[i]? = some d ∧ Rep C B d v
  | [], _, i, d, h, e => by rw [h.nil_inv] at e; simp at e
  | x :: xs, _, 0, d, h, e => by
    obtain ⟨v, r, rfl, q, _⟩ := h.cons_inv
    simp at e; subst e
    exact ⟨x, rfl, q⟩
  | x :: xs, _, i + 1, d, h, e => by
    obtain ⟨v, r, rfl, _, t⟩ := h.cons_inv
    obtain ⟨u, e1, q⟩ := RepL.get' (i := i) t (by simpa using e)
    exact ⟨u, by simpa using e1, q⟩
theorem RepL.append : ∀ {ds es : List D} {vs us : List V}, RepL C B ds vs → RepL C B es us → RepL C B (ds ++ es) (vs ++ us)
  | [], _, _, _, h, t => by rw [h.nil_inv]; exact t
  | x :: xs, _, _, _, h, t => by
    obtain ⟨v, r, rfl, q, h⟩ := h.cons_inv
    exact .cons q (RepL.append h t)
theorem RepL.take : ∀ {ds : List D} {vs : List V} (n : Nat), RepL C B ds vs → RepL C B (ds.take n) (vs.take n)
  | _, _, 0, _ => by rw [List.take_zero, List.take_zero]; exact .nil
  | [], _, n + 1, h => by rw [h.nil_inv, List.take_nil, List.take_nil]; exact .nil
  | x :: xs, _, n + 1, h => by
    obtain ⟨v, r, rfl, q, h⟩ := h.cons_inv
    exact .cons q (RepL.take n h)
theorem RepL.drop : ∀ {ds : List D} {vs : List V} (n : Nat), RepL C B ds vs → RepL C B (ds.drop n) (vs.drop n)
  | _, _, 0, h => h
  | [], _, n + 1, h => by rw [h.nil_inv, List.drop_nil, List.drop_nil]; exact .nil
  | x :: xs, _, n + 1, h => by
    obtain ⟨v, r, rfl, q, h⟩ := h.cons_inv
    exact RepL.drop n h
theorem RepL.set : ∀ {ds : List D} {vs : List V} {d : D} {v : V} (i : Nat), RepL C B ds vs → Rep C B d v → RepL C B (ds.set i d) (vs.set i v)
  | [], _, _, _, i, h, q => by rw [h.nil_inv]; exact .nil
  | x :: xs, _, _, _, 0, h, q => by
    obtain ⟨v, r, rfl, _, h⟩ := h.cons_inv
    exact .cons q h
  | x :: xs, _, _, _, i + 1, h, q => by
    obtain ⟨v, r, rfl, q0, h⟩ := h.cons_inv
    exact .cons q0 (RepL.set i h q)
theorem RepL.rep {ds : List D} {vs : List V} (h : RepL C B ds vs) : ∀ k : Nat, RepL C B (List.replicate k ds).flatten (List.replicate k vs).flatten
  | 0 => .nil
  | k + 1 => by
    rw [List.replicate_succ, List.replicate_succ, List.flatten_cons, List.flatten_cons]
    exact h.append (h.rep k)
theorem RepL.reverse : ∀ {ds : List D} {vs : List V}, RepL C B ds vs → RepL C B ds.reverse vs.reverse
  | [], _, h => by rw [h.nil_inv]; exact .nil
  | x :: xs, _, h => by
    obtain ⟨v, r, rfl, q, h⟩ := h.cons_inv
    rw [List.reverse_cons, List.reverse_cons]
    exact (RepL.reverse h).append (.cons q .nil)
theorem RepL.dropLast {ds : List D} {vs : List V} (h : RepL C B ds vs) : RepL C B ds.dropLast vs.dropLast := by
  rw [List.dropLast_eq_take, List.dropLast_eq_take, h.length]; exact h.take _
theorem RepL.ints : ∀ {ns : List Int} {vs : List V}, RepL C B (ns.map D.int) vs → vs = ns.map V.int
  | [], _, h => h.nil_inv
  | n :: ns, _, h => by
    obtain ⟨v, r, rfl, q, h⟩ := h.cons_inv
    unfold Rep at q
    rw [q, RepL.ints h]; rfl
theorem RepL.of_ints : ∀ (ns : List Int), RepL C B (ns.map D.int) (ns.map V.int)
  | [] => .nil
  | n :: ns => .cons (by unfold Rep; rfl) (RepL.of_ints ns)
theorem RepL.bls : ∀ {ns : List Bool} {vs : List V}, RepL C B (ns.map D.bl) vs → vs = ns.map V.bl
  | [], _, h => h.nil_inv
  | n :: ns, _, h => by
    obtain ⟨v, r, rfl, q, h⟩ := h.cons_inv
    unfold Rep at q
    rw [q, RepL.bls h]; rfl
theorem RepL.strs : ∀ {ns : List Str} {vs : List V}, RepL C B (ns.map D.str) vs → vs = ns.map V.str
  | [], _, h => h.nil_inv
  | n :: ns, _, h => by
    obtain ⟨v, r, rfl, q, h⟩ := h.cons_inv
    unfold Rep at q
    rw [q, RepL.strs h]; rfl
theorem RepL.of_strs : ∀ (ns : List Str), RepL C B (ns.map D.str) (ns.map V.str)
  | [] => .nil
  | n :: ns => .cons (by unfold Rep; rfl) (RepL.of_strs ns)
theorem rep_int {i : Int} : Rep C B (.int i) (.int i) := by unfold Rep; rfl
theorem rep_bl {i : Bool} : Rep C B (.bl i) (.bl i) := by unfold Rep; rfl
theorem rep_str {i : Str} : Rep C B (.str i) (.str i) := by unfold Rep; rfl
theorem rep_non : Rep C B .non .non := by unfold Rep; rfl
theorem Rep.int_inv {i : Int} {v : V} (h : Rep C B (.int i) v) : v = .int i := by unfold Rep at h; exact h
theorem Rep.bl_inv {i : Bool} {v : V} (h : Rep C B (.bl i) v) : v = .bl i := by unfold Rep at h; exact h
theorem Rep.str_inv {i : Str} {v : V} (h : Rep C B (.str i) v) : v = .str i := by unfold Rep at h; exact h
theorem Rep.non_inv {v : V} (h : Rep C B .non v) : v = .non := by unfold Rep at h; exact h
theorem Rep.tup_inv {ds : List D} {v : V} (h : Rep C B (.tup ds) v) : ∃ a vs, v = .ref a ∧ vs.length ≤ sizeLine ∧ SqT C.K B.H a vs ∧ RepL C B ds vs := by unfold Rep at h; exact h
theorem rep_tup {a : Addr} {ds : List D} {vs : List V} (hz : vs.length ≤ sizeLine) (h : SqT C.K B.H a vs) (r : RepL C B ds vs) : Rep C B (.tup ds) (.ref a) := by unfold Rep; exact ⟨a, vs, rfl, hz, h, r⟩
theorem rep_lst {a : Addr} {ds : List D} {vs : List V} (hz : vs.length ≤ sizeLine) (hF : B.F a) (h : B.H a = some (.lst vs)) (r : RepL C B ds vs) : Rep C B (.lst ds) (.ref a) := by unfold Rep; exact ⟨a, vs, rfl, hz, ⟨hF, h⟩, r⟩
theorem rep_ref {a : Addr} {i : Nat} (h : B.m[i]? = some a) : Rep C B (.ref i) (.ref a) := by unfold Rep; exact ⟨a, h, rfl⟩
theorem Rep.ref_inv {i : Nat} {v : V} (h : Rep C B (.ref i) v) : ∃ a, B.m[i]? = some a ∧ v = .ref a := by unfold Rep at h; exact h
end

def CellRep (C : Ctx) (B : Bd) (a : Addr) : Cell → Prop
  | .lst ds => ∃ vs, B.H a = some (.lst vs) ∧ vs.length ≤ sizeLine ∧ RepL C B ds vs
  | .ins c ks ds => ∃ Ca dx fvs, C.mg c = some (.ref Ca) ∧ B.H a = some (.ins Ca dx fvs) ∧ fvs.map (·.1) = ks ∧ RepL C B ds (fvs.map (·.2))
  | .dct ks ds => ∃ kvs, B.H a = some (.dK kvs) ∧ kvs.map (·.1) = ks ∧ RepL C B ds (kvs.map (·.2))
  | .dtt ks ds => ∃ kvs, B.H a = some (.dT kvs) ∧ kvs.map (·.1) = ks ∧ RepL C B ds (kvs.map (·.2))
/-- the script, known to the object or one of the module's own -/
def ScrOk (C : Ctx) (H : Hp) : Prop := C.ns.length ≤ sizeLine ∧ ((∃ o, H C.S = some (.frz o (.lst (C.ns.map V.int)))) ∨
  ∃ (o : Obj) (its : Array Value) (n : Nat), C.K.lookup C.S = some o ∧ o.cls = .type "list" ∧ o.dict = none ∧ o.data = .seq its n ∧ its.size ≤ sizeLine ∧ Vals (C.ns.map V.int) its.toList)
theorem ScrOk.sq {C : Ctx} {H : Hp} (h : ScrOk C H) : SqL C.K H C.S (C.ns.map V.int) := by
  obtain ⟨_, h⟩ := h
  rcases h with ⟨o, h⟩ | h
  · exact .inl (.inr ⟨o, h⟩)
  · exact .inr h
structure RelH (C : Ctx) (B : Bd) (st : Sto) : Prop where
  len : B.m.length = st.length
  nd : B.m.Nodup
  sep : ∀ a ∈ B.m, ¬ B.F a
  cell : ∀ (i : Nat) (c : Cell) (a : Addr), st[i]? = some c → B.m[i]? = some a → CellRep C B a c
  fz : ∀ a, B.F a → B.H a ≠ none
  scr : ScrOk C B.H
  zz : ∀ p ∈ B.Z, B.H p.1 = some p.2 ∧ p.1 ∉ B.m ∧ ¬ B.F p.1

section
variable {C : Ctx} {B B' : Bd} {st : Sto}
theorem CellRep.monoK {a : Addr} {c : Cell} (x : Kp C B B') (e : B'.H a = B.H a) (h : CellRep C B a c) : CellRep C B' a c := by
  cases c with
  | lst ds => obtain ⟨vs, q, z, r⟩ := h; exact ⟨vs, by rw [e]; exact q, z, r.monoK x⟩
  | ins c ks ds => obtain ⟨Ca, dx, fvs, g, q, k, r⟩ := h; exact ⟨Ca, dx, fvs, g, by rw [e]; exact q, k, r.monoK x⟩
  | dct ks ds => obtain ⟨kvs, q, k, r⟩ := h; exact ⟨kvs, by rw [e]; exact q, k, r.monoK x⟩
  | dtt ks ds => obtain ⟨kvs, q, k, r⟩ := h; exact ⟨kvs, by rw [e]; exact q, k, r.monoK x⟩
theorem CellRep.mono {a : Addr} {c : Cell} (x : Ext C B B') (e : B'.H a = B.H a) (h : CellRep C B a c) : CellRep C B' a c := by
  cases c with
  | lst ds => obtain ⟨vs, q, z, r⟩ := h; exact ⟨vs, by rw [e]; exact q, z, r.mono x⟩
  | ins c ks ds => obtain ⟨Ca, dx, fvs, g, q, k, r⟩ := h; exact ⟨Ca, dx, fvs, g, by rw [e]; exact q, k, r.mono x⟩
  | dct ks ds => obtain ⟨kvs, q, k, r⟩ := h; exact ⟨kvs, by rw [e]; exact q, k, r.mono x⟩
  | dtt ks ds => obtain ⟨kvs, q, k, r⟩ := h; exact ⟨kvs, by rw [e]; exact q, k, r.mono x⟩
theorem CellRep.there {a : Addr} {c : Cell} (h : CellRep C B a c) : ∃ o, B.H a = some o ∧ Mut (some o) := by
  cases c with
  | lst ds => obtain ⟨vs, q, _⟩ := h; exact ⟨_, q, trivial⟩
  | ins c ks ds => obtain ⟨Ca, dx, fvs, _, q, _⟩ := h; exact ⟨_, q, trivial⟩
  | dct ks ds => obtain ⟨kvs, q, _⟩ := h; exact ⟨_, q, trivial⟩
  | dtt ks ds => obtain ⟨kvs, q, _⟩ := h; exact ⟨_, q, trivial⟩
theorem nodupIx {α : Type} {N : List α} (hN : N.Nodup) {i j : Nat} {x : α} (a : N[i]? = some x) (b : N[j]? = some x) : i = j := by
  obtain ⟨h1, e1⟩ := List.getElem?_eq_some_iff.mp a
  obtain ⟨h2, e2⟩ := List.getElem?_eq_some_iff.mp b
  exact (List.getElem_inj hN).mp (e1.trans e2.symm)
theorem RelH.at (R : RelH C B st) {i : Nat} {a : Addr} (h : B.m[i]? = some a) : ∃ c, st[i]? = some c ∧ CellRep C B a c := by
  have hi : i < B.m.length := (List.getElem?_eq_some_iff.mp h).1
  rw [R.len] at hi
  exact ⟨st[i], List.getElem?_eq_getElem hi, R.cell i _ a (List.getElem?_eq_getElem hi) h⟩
theorem RelH.mut (R : RelH C B st) {a : Addr} (h : a ∈ B.m) : ∃ o, B.H a = some o ∧ Mut (some o) := by
  obtain ⟨i, hi⟩ := List.mem_iff_getElem?.mp h
  obtain ⟨c, _, q⟩ := R.at hi
  exact q.there
theorem sqT_new {K : PySem.W.Frag} {H : Hp} {p a : Addr} {o : HO} {vs : List V} (hp : H p = none) (h : SqT K H a vs) : SqT K (upd H p o) a vs := by
  rcases h with (h | ⟨ob, h⟩) | h
  · exact .inl (.inl (by rw [upd_ne (ne_of_none h hp)]; exact h))
  · exact .inl (.inr ⟨ob, by rw [upd_ne (ne_of_none h hp)]; exact h⟩)
  · exact .inr h
theorem sqT_mut {K : PySem.W.Frag} {H : Hp} {p a : Addr} {o u : HO} {vs : List V} (hp : H p = some u) (mu : Mut (some u)) (h : SqT K H a vs) : SqT K (upd H p o) a vs := by
  have ne : ∀ z, H a = some z → ¬ Mut (some z) → a ≠ p := fun z e nm q => by
    subst q; rw [hp] at e; cases e; exact nm mu
  rcases h with (h | ⟨ob, h⟩) | h
  · exact .inl (.inl (by rw [upd_ne (ne _ h (fun z => z))]; exact h))
  · exact .inl (.inr ⟨ob, by rw [upd_ne (ne _ h (fun z => z))]; exact h⟩)
  · exact .inr h
theorem ScrOk.new {H : Hp} {p : Addr} {o : HO} (h : ScrOk C H) (hp : H p = none) : ScrOk C (upd H p o) := by
  refine ⟨h.1, ?_⟩
  rcases h.2 with ⟨ob, h⟩ | h
  · exact .inl ⟨ob, by rw [upd_ne (ne_of_none h hp)]; exact h⟩
  · exact .inr h
theorem ScrOk.mut {H : Hp} {p : Addr} {o u : HO} (h : ScrOk C H) (hp : H p = some u) (mu : Mut (some u)) : ScrOk C (upd H p o) := by
  refine ⟨h.1, ?_⟩
  rcases h.2 with ⟨ob, h⟩ | h
  · exact .inl ⟨ob, by rw [upd_ne (fun q => by rw [q, hp] at h; cases h; exact mu)]; exact h⟩
  · exact .inr h

/-- something new at p -/
theorem RelH.new (R : RelH C B st) {p : Addr} {o : HO} (hp : B.H p = none) : Ext C B ⟨upd B.H p o, B.m, B.F, B.Z⟩ ∧ RelH C ⟨upd B.H p o, B.m, B.F, B.Z⟩ st := by
  have x : Ext C B ⟨upd B.H p o, B.m, B.F, B.Z⟩ := ⟨fun _ _ h => sqT_new hp h, fun a h => ⟨h, fun u e => by show upd B.H p o a = _; rw [upd_ne (ne_of_none e hp)]; exact e⟩, fun _ _ h => h, rfl⟩
  refine ⟨x, R.len, R.nd, R.sep, fun i c a h1 h2 => ?_, fun a h => ?_, R.scr.new hp, fun q hq => ⟨(upd_ne (ne_of_none (R.zz q hq).1 hp)).trans (R.zz q hq).1, (R.zz q hq).2⟩⟩
  · have q := R.cell i c a h1 h2
    obtain ⟨u, e, _⟩ := q.there
    exact q.mono x (upd_ne (ne_of_none e hp))
  · show upd B.H p o a ≠ none
    unfold upd
    split
    · intro z; cases z
    · exact R.fz a h
/-- a new thing that nobody changes -/
theorem RelH.newF (R : RelH C B st) {p : Addr} {o : HO} (hp : B.H p = none) : Ext C B ⟨upd B.H p o, B.m, fun a => B.F a ∨ a = p, B.Z⟩ ∧ RelH C ⟨upd B.H p o, B.m, fun a => B.F a ∨ a = p, B.Z⟩ st := by
  obtain ⟨x, r⟩ := R.new (o := o) hp
  have x2 : Ext C ⟨upd B.H p o, B.m, B.F, B.Z⟩ ⟨upd B.H p o, B.m, fun a => B.F a ∨ a = p, B.Z⟩ := ⟨fun _ _ h => h, fun a h => ⟨.inl h, fun _ e => e⟩, fun _ _ h => h, rfl⟩
  refine ⟨x.trans x2, R.len, R.nd, fun a ha hF => ?_, fun i c a h1 h2 => (r.cell i c a h1 h2).mono x2 rfl, fun a h => ?_, r.scr, fun q hq => ⟨(r.zz q hq).1, (r.zz q hq).2.1, fun hF => hF.elim (r.zz q hq).2.2 fun e => by
    have h1 := (R.zz q hq).1
    rw [e, hp] at h1; cases h1⟩⟩
  · rcases hF with hF | hF
    · exact R.sep a ha hF
    · obtain ⟨u, e, _⟩ := R.mut ha
      rw [hF, hp] at e; cases e
  · rcases h with h | h
    · exact r.fz a h
    · show upd B.H p o a ≠ none
      rw [h, upd_same]; intro z; cases z
/-- a new place -/
theorem RelH.newC (R : RelH C B st) {p : Addr} {o : HO} {c : Cell} (hp : B.H p = none) (hc : ∀ B' : Bd, Ext C B B' → B'.H p = some o → CellRep C B' p c) :
    Ext C B ⟨upd B.H p o, B.m ++ [p], B.F, B.Z⟩ ∧ RelH C ⟨upd B.H p o, B.m ++ [p], B.F, B.Z⟩ (st ++ [c]) ∧ (B.m ++ [p])[st.length]? = some p := by
  obtain ⟨x, r⟩ := R.new (o := o) hp
  have x2 : Ext C ⟨upd B.H p o, B.m, B.F, B.Z⟩ ⟨upd B.H p o, B.m ++ [p], B.F, B.Z⟩ := ⟨fun _ _ h => h, fun a h => ⟨h, fun _ e => e⟩, fun i a h => by
    show (B.m ++ [p])[i]? = some a
    have h : B.m[i]? = some a := h
    rw [List.getElem?_append_left (List.getElem?_eq_some_iff.mp h).1]; exact h, rfl⟩
  have nF : ¬ B.F p := fun h => R.fz p h hp
  have nm : p ∉ B.m := fun h => by
    obtain ⟨u, e, _⟩ := R.mut h
    rw [hp] at e; cases e
  have nZ : ∀ q ∈ B.Z, q.1 ∉ B.m ++ [p] := fun q hq hm => by
    rcases List.mem_append.mp hm with hm | hm
    · exact (R.zz q hq).2.1 hm
    · have h1 := (R.zz q hq).1
      rw [List.mem_singleton.mp hm, hp] at h1
      cases h1
  refine ⟨x.trans x2, ⟨by show (B.m ++ [p]).length = _; rw [List.length_append, List.length_append, R.len]; rfl, ?_, fun a ha => ?_, fun i c' a h1 h2 => ?_, r.fz, r.scr, fun q hq => ⟨(r.zz q hq).1, nZ q hq, (r.zz q hq).2.2⟩⟩, ?_⟩
  · show (B.m ++ [p]).Nodup
    rw [List.nodup_append]
    exact ⟨R.nd, by simp, fun a ha b hb e => by simp at hb; subst hb; subst e; exact nm ha⟩
  · have ha : a ∈ B.m ++ [p] := ha
    rcases List.mem_append.mp ha with ha | ha
    · exact R.sep a ha
    · simp at ha; rw [ha]; exact nF
  · have h2 : (B.m ++ [p])[i]? = some a := h2
    by_cases hi : i < st.length
    · rw [List.getElem?_append_left hi] at h1
      rw [List.getElem?_append_left (by rw [R.len]; exact hi)] at h2
      exact (r.cell i c' a h1 h2).mono x2 rfl
    · have hi2 : i = st.length := by
        have := (List.getElem?_eq_some_iff.mp h1).1
        simp at this; omega
      subst hi2
      rw [List.getElem?_append_right (Nat.le_refl _)] at h1
      rw [← R.len, List.getElem?_append_right (Nat.le_refl _)] at h2
      simp at h1 h2
      subst h1; subst h2
      exact hc _ (x.trans x2) upd_same
  · rw [← R.len, List.getElem?_append_right (Nat.le_refl _)]; simp
/-- a place is written -/
theorem RelH.write (R : RelH C B st) {i : Nat} {a : Addr} {c : Cell} {o : HO} (hm : B.m[i]? = some a) (hc : ∀ B' : Bd, Ext C B B' → B'.H a = some o → CellRep C B' a c) :
    Ext C B ⟨upd B.H a o, B.m, B.F, B.Z⟩ ∧ RelH C ⟨upd B.H a o, B.m, B.F, B.Z⟩ (st.set i c) := by
  have ha : a ∈ B.m := List.mem_of_getElem? hm
  obtain ⟨u, hu, mu⟩ := R.mut ha
  have hi : i < st.length := by rw [← R.len]; exact (List.getElem?_eq_some_iff.mp hm).1
  have x : Ext C B ⟨upd B.H a o, B.m, B.F, B.Z⟩ := ⟨fun _ _ h => sqT_mut hu mu h, fun b h => ⟨h, fun w e => by
    show upd B.H a o b = _
    rw [upd_ne (fun q => by subst q; exact R.sep _ ha h)]; exact e⟩, fun _ _ h => h, rfl⟩
  refine ⟨x, by rw [List.length_set]; exact R.len, R.nd, R.sep, fun j c' b h1 h2 => ?_, fun b h => ?_, R.scr.mut hu mu, fun q hq => ⟨(upd_ne (fun e => (R.zz q hq).2.1 (by rw [e]; exact ha))).trans (R.zz q hq).1, (R.zz q hq).2⟩⟩
  · have h2 : B.m[j]? = some b := h2
    by_cases hj : j = i
    · subst hj
      rw [hm] at h2; cases h2
      rw [List.getElem?_set_self hi] at h1
      cases h1
      exact hc _ x upd_same
    · rw [List.getElem?_set_ne (Ne.symm hj)] at h1
      refine (R.cell j c' b h1 h2).mono x (upd_ne fun e => ?_)
      subst e
      exact hj (nodupIx R.nd h2 hm)
  · show upd B.H a o b ≠ none
    unfold upd
    split
    · intro z; cases z
    · exact R.fz b h
end
end Ly
/-! Computations over the store; what an expression's computation says of the machine's run. -/
namespace Ly
open PySem PySem.Spec PyProof.Rows L2

abbrev Sl := L2.St
inductive R (α : Type) where
  | ok (a : α) (st : Sto) | exc (x : Str) (st : Sto) | bad
abbrev M (α : Type) := Ev → Sto → R α
def ret {α : Type} (a : α) : M α := fun _ st => .ok a st
def bnd {α β : Type} (c : M α) (f : α → M β) : M β := fun e st => match c e st with
  | .ok a st' => f a e st'
  | .exc x st' => .exc x st'
  | .bad => .bad
/-- a step on the store that may fail -/
def lift {α : Type} (f : Sto → Option (α × Sto)) : M α := fun _ st => match f st with
  | some (a, st') => .ok a st'
  | none => .bad

def RelE (C : Ctx) (B : Bd) (env : Ev) (σ : Sl) : Prop := env.length = σ.length ∧ ∀ (i : Nat) (d : D), env[i]? = some (some d) → ∃ v, σ[i]? = some (some v) ∧ Rep C B d v
structure Rel (C : Ctx) (B : Bd) (env : Ev) (σ : Sl) (st : Sto) : Prop where
  h : RelH C B st
  e : RelE C B env σ
theorem RelE.mono {C : Ctx} {B B' : Bd} {env : Ev} {σ : Sl} (x : Ext C B B') (h : RelE C B env σ) : RelE C B' env σ :=
  ⟨h.1, fun i d e => let ⟨v, h1, h2⟩ := h.2 i d e; ⟨v, h1, h2.mono x⟩⟩
theorem RelE.set {C : Ctx} {B : Bd} {env : Ev} {σ : Sl} {d : D} {v : V} (h : RelE C B env σ) (i : Nat) (r : Rep C B d v) : RelE C B (env.set i (some d)) (σ.set i (some v)) := by
  refine ⟨by rw [List.length_set, List.length_set]; exact h.1, fun j d' e => ?_⟩
  by_cases hj : i = j
  · subst hj
    by_cases hi : i < env.length
    · rw [List.getElem?_set_self hi] at e
      cases e
      exact ⟨v, by rw [List.getElem?_set_self (by rw [← h.1]; exact hi)], r⟩
    · rw [List.getElem?_eq_none (by rw [List.length_set]; omega)] at e; cases e
  · rw [List.getElem?_set_ne hj] at e ⊢
    exact h.2 j d' e
theorem RelE.unset {C : Ctx} {B : Bd} {env : Ev} {σ : Sl} (h : RelE C B env σ) (i : Nat) : RelE C B (env.set i none) (σ.set i none) := by
  refine ⟨by rw [List.length_set, List.length_set]; exact h.1, fun j d' e => ?_⟩
  by_cases hj : i = j
  · subst hj
    by_cases hi : i < env.length
    · rw [List.getElem?_set_self hi] at e; cases e
    · rw [List.getElem?_eq_none (by rw [List.length_set]; omega)] at e; cases e
  · rw [List.getElem?_set_ne hj] at e ⊢
    exact h.2 j d' e

section
variable (C : Ctx) (W : WX) {α β : Type}
/-- what is wanted behind a computation -/
def post (rep : Bd → α → β → Prop) (σ : Sl) (env : Ev) (B : Bd) (Q : β → Hp → Prop) : R α → Prop
  | .ok d st' => ∀ v B', Ext C B B' → Rel C B' env σ st' → rep B' d v → Q v B'.H
  | .exc x st' => ∀ cls B', C.mg x = some cls → Ext C B B' → Rel C B' env σ st' → W cls none σ B'.H
  | .bad => False
/-- the reading that a computation is -/
def rd (rep : Bd → α → β → Prop) (c : M α) : Sl → Hp → (β → Hp → Prop) → Prop := fun σ H Q =>
  ∃ env st B, B.H = H ∧ Rel C B env σ st ∧ post C W rep σ env B Q (c env st)
abbrev te (c : M D) : TE := rd C W (fun B => Rep C B) c
abbrev ta (c : M (List D)) : TA := rd C W (fun B => RepL C B) c
abbrev tb (c : M Bool) : TT := rd C W (fun _ a b => a = b) c
abbrev to (c : M (Option Int)) : TO := rd C W (fun _ a b => a = b) c
/-- a list that was just made: at an address that nobody else names -/
def repN (B : Bd) (ds : List D) (v : V) : Prop := ∃ p vs, v = .ref p ∧ B.H p = some (.lst vs) ∧ vs.length ≤ sizeLine ∧ RepL C B ds vs ∧ p ∉ B.m ∧ ¬ B.F p ∧ ∀ q ∈ B.Z, q.1 ≠ p
abbrev tn (c : M (List D)) : TE := rd C W (repN C) c
end

section
variable {C : Ctx} {W : WX} {α β γ δ : Type} {rep : Bd → α → β → Prop} {rep2 : Bd → γ → δ → Prop} {σ : Sl} {env : Ev} {B B' : Bd} {st : Sto}
theorem post.mono {Q Q' : β → Hp → Prop} {r : R α} (h : post C W rep σ env B Q r) (k : ∀ v H, Q v H → Q' v H) : post C W rep σ env B Q' r := by
  cases r with
  | ok d st' => exact fun v B' x r p => k _ _ (h v B' x r p)
  | exc x st' => exact h
  | bad => exact h
theorem post.later {Q : β → Hp → Prop} {r : R α} (x : Ext C B B') (h : post C W rep σ env B Q r) : post C W rep σ env B' Q r := by
  cases r with
  | ok d st' => exact fun v B2 x2 r p => h v B2 (x.trans x2) r p
  | exc e st' => exact fun cls B2 g x2 r => h cls B2 g (x.trans x2) r
  | bad => exact h
theorem rd.mono {c : M α} {H : Hp} {Q Q' : β → Hp → Prop} (h : rd C W rep c σ H Q) (k : ∀ v H, Q v H → Q' v H) : rd C W rep c σ H Q' := by
  obtain ⟨env, st, B, e, r, p⟩ := h
  exact ⟨env, st, B, e, r, p.mono k⟩
/-- one computation, then another -/
theorem seq {c : M α} {f : α → M γ} {Q : δ → Hp → Prop} (R : Rel C B env σ st) (h : post C W rep2 σ env B Q (bnd c f env st)) :
    rd C W rep c σ B.H fun v H1 => ∃ d st1 B1, B1.H = H1 ∧ Ext C B B1 ∧ Rel C B1 env σ st1 ∧ rep B1 d v ∧ post C W rep2 σ env B1 Q (f d env st1) := by
  refine ⟨env, st, B, rfl, R, ?_⟩
  unfold bnd at h
  cases e : c env st with
  | ok d st1 =>
    rw [e] at h
    exact fun v B1 x r p => ⟨d, st1, B1, rfl, x, r, p, h.later x⟩
  | exc x st1 => rw [e] at h; exact h
  | bad => rw [e] at h; exact h
/-- a step that may fail, at the end -/
theorem post_lift {f : Sto → Option (α × Sto)} {Q : β → Hp → Prop} (h : post C W rep σ env B Q (lift f env st)) :
    ∃ d st', f st = some (d, st') ∧ ∀ v B', Ext C B B' → Rel C B' env σ st' → rep B' d v → Q v B'.H := by
  unfold lift at h
  cases e : f st with
  | none => rw [e] at h; exact h.elim
  | some p => obtain ⟨d, st'⟩ := p; rw [e] at h; exact ⟨d, st', rfl, h⟩
theorem Rel.of (R : Rel C B env σ st) {st' : Sto} (x : Ext C B B') (h : RelH C B' st') : Rel C B' env σ st' := ⟨h, R.e.mono x⟩
end

theorem _root_.L2.PE.imp {X : Cx} {e : Expr} {t t' : TE} (h : PE X e t) (k : ∀ σ H Q, t' σ H Q → t σ H Q) : PE X e t' := ⟨fun pins s σ H Q I q => h.run pins s σ H Q I (k σ H Q q)⟩
theorem _root_.L2.PT.imp {X : Cx} {e : Expr} {t t' : TT} (h : PT X e t) (k : ∀ σ H Q, t' σ H Q → t σ H Q) : PT X e t' := ⟨fun pins s σ H Q I q => h.run pins s σ H Q I (k σ H Q q)⟩
theorem _root_.L2.PW.imp {X : Cx} {e : Expr} {t t' : TT} (h : PW X e t) (k : ∀ σ H Q, t' σ H Q → t σ H Q) : PW X e t' := ⟨fun wh pins s σ H Q I q => h.run wh pins s σ H Q I (k σ H Q q)⟩
theorem _root_.L2.PA.imp {X : Cx} {e : List Expr} {t t' : TA} (h : PA X e t) (k : ∀ σ H Q, t' σ H Q → t σ H Q) : PA X e t' := ⟨fun pos pins s σ H Q I q => h.run pos pins s σ H Q I (k σ H Q q)⟩
theorem _root_.L2.PO.imp {X : Cx} {e : Option Expr} {t t' : TO} (h : PO X e t) (k : ∀ σ H Q, t' σ H Q → t σ H Q) : PO X e t' := ⟨fun pins s σ H Q I q => h.run pins s σ H Q I (k σ H Q q)⟩
theorem _root_.L2.PI.imp {X : Cx} {tg e : Expr} {t t' : TI} (h : PI X tg e t) (k : ∀ σ H R, t' σ H R → t σ H R) : PI X tg e t' := ⟨fun pins s σ H R I q => h.run pins s σ H R I (k σ H R q)⟩

/-! ### names, constants -/
def mvar (i : Nat) : M D := fun env st => match env[i]? with
  | some (some d) => .ok d st
  | _ => .bad
section
variable {X : Cx} {C : Ctx} {W : WX} {pos : Pos}
theorem e_var (i : Nat) {x : Str} (hN : X.N[i]? = some x := by rfl) (hv : Vis X.env.scope x := by first | exact Or.inl rfl | exact Or.inr (Or.inl rfl) | exact Or.inr (Or.inr rfl)) (hd : (x == ("__debug__" : Str)) = false := by decide)
    (hcd : (x == ("__classdict__" : Str)) = false := by decide) : PE X (.Name x pos) (te C W (mvar i)) := by
  refine (pe_var hN hv hd hcd).imp fun σ H Q ⟨env, st, B, e, r, p⟩ => ?_
  subst e
  unfold mvar at p
  cases q : env[i]? with
  | none => rw [q] at p; exact p.elim
  | some o =>
    cases o with
    | none => rw [q] at p; exact p.elim
    | some d =>
      rw [q] at p
      obtain ⟨v, h1, h2⟩ := r.e.2 i d q
      exact ⟨v, h1, p v B (Ext.refl _ _) r h2⟩
theorem te_ret {d : D} {v : V} {t : TE} (h : ∀ σ H Q, Q v H → t σ H Q) (hr : ∀ B, Rep C B d v) : ∀ σ H Q, te C W (ret d) σ H Q → t σ H Q := fun σ H Q ⟨env, st, B, e, r, p⟩ => by
  subst e
  exact h σ _ Q (p v B (Ext.refl _ _) r (hr B))
theorem e_int {i j pos} : PE X (.Constant (.int i) j pos) (te C W (ret (.int i))) := pe_int.imp (te_ret (fun _ _ _ h => h) fun _ => rep_int)
theorem e_bl {b j pos} : PE X (.Constant (.bool b) j pos) (te C W (ret (.bl b))) := pe_bl.imp (te_ret (fun _ _ _ h => h) fun _ => rep_bl)
theorem e_non {j pos} : PE X (.Constant .none j pos) (te C W (ret .non)) := pe_non.imp (te_ret (fun _ _ _ h => h) fun _ => rep_non)
theorem e_str {x j pos} : PE X (.Constant (.str x) j pos) (te C W (ret (.str x))) := pe_str.imp (te_ret (fun _ _ _ h => h) fun _ => rep_str)
/-- a constant of the module -/
theorem e_glob {x : Str} {v : V} {u : Value} {d : D} (hg : Gl X x) (hm : X.mg x = some u) (r : RelV v u) (hr : ∀ B, Rep C B d v) (hd : (x == ("__debug__" : Str)) = false := by decide) : PE X (.Name x pos) (te C W (ret d)) :=
  (pe_glob hg hm r hd).imp (te_ret (fun _ _ _ h => h) hr)
end

/-! ### argument lists -/
def args : List (M D) → M (List D)
  | [] => ret []
  | c :: cs => bnd c fun d => bnd (args cs) fun ds => ret (d :: ds)
section
variable {X : Cx} {C : Ctx} {W : WX} {e : Expr} {es : List Expr} {c : M D} {cs : List (M D)}
theorem a_nil : PA X [] (ta C W (args [])) := pa_nil.imp fun σ H Q ⟨env, st, B, e, r, p⟩ => by
  subst e
  exact p [] B (Ext.refl _ _) r .nil
theorem a_cons (ha : PE X e (te C W c)) (hr : PA X es (ta C W (args cs))) (hs : starEach (e :: es) X.env = (false, eval e X.env) :: starEach es X.env := by rfl) : PA X (e :: es) (ta C W (args (c :: cs))) := by
  refine (pa_cons ha hr hs).imp fun σ H Q ⟨env, st, B, e, r, p⟩ => ?_
  subst e
  refine (seq r p).mono fun v H1 ⟨d, st1, B1, e1, x1, r1, p1, k1⟩ => ?_
  subst e1
  refine (seq r1 k1).mono fun vs H2 ⟨ds, st2, B2, e2, x2, r2, p2, k2⟩ => ?_
  subst e2
  exact k2 (v :: vs) B2 (Ext.refl _ _) r2 (.cons (p1.mono x2) p2)
end

/-! ### lists just made -/
def tree (c : M (List D)) : M D := bnd c fun ds => ret (.lst ds)
def box (c : M (List D)) : M D := bnd c fun ds => lift fun st => some (.ref st.length, st ++ [.lst ds])
section
variable {X : Cx} {C : Ctx} {W : WX} {e : Expr} {es : List Expr} {c : M (List D)}
theorem Bd.freeze {B : Bd} {st : Sto} {p : Addr} (R : RelH C B st) (hn : B.H p ≠ none) (hm : p ∉ B.m) (hZ : ∀ q ∈ B.Z, q.1 ≠ p) : Ext C B ⟨B.H, B.m, fun a => B.F a ∨ a = p, B.Z⟩ ∧ RelH C ⟨B.H, B.m, fun a => B.F a ∨ a = p, B.Z⟩ st := by
  have x : Ext C B ⟨B.H, B.m, fun a => B.F a ∨ a = p, B.Z⟩ := ⟨fun _ _ h => h, fun a h => ⟨.inl h, fun _ e => e⟩, fun _ _ h => h, rfl⟩
  refine ⟨x, R.len, R.nd, fun a ha hF => ?_, fun i c a h1 h2 => (R.cell i c a h1 h2).mono x rfl, fun a h => ?_, R.scr, fun q hq => ⟨(R.zz q hq).1, (R.zz q hq).2.1, fun hF => hF.elim (R.zz q hq).2.2 (hZ q hq)⟩⟩
  · rcases hF with hF | hF
    · exact R.sep a ha hF
    · exact hm (hF ▸ ha)
  · rcases h with h | h
    · exact R.fz a h
    · rw [h]; exact hn
theorem e_tree (h : PE X e (tn C W c)) : PE X e (te C W (tree c)) := h.imp fun σ H Q ⟨env, st, B, e, r, p⟩ => by
  subst e
  refine (seq r p).mono fun v H1 ⟨ds, st1, B1, e1, x1, r1, p1, k1⟩ => ?_
  subst e1
  obtain ⟨a, vs, rfl, hH, hz, rl, nm, nF, nZ⟩ := p1
  obtain ⟨x2, r2⟩ := Bd.freeze (p := a) r1.h (by rw [hH]; intro z; cases z) nm nZ
  exact k1 (.ref a) ⟨B1.H, B1.m, fun b => B1.F b ∨ b = a, B1.Z⟩ x2 (r1.of x2 r2) (rep_lst hz (.inr rfl) hH (rl.mono x2))
theorem Bd.place {B : Bd} {st : Sto} {p : Addr} {c : Cell} (R : RelH C B st) (hc : CellRep C B p c) (hm : p ∉ B.m) (nF : ¬ B.F p) (hZ : ∀ q ∈ B.Z, q.1 ≠ p) :
    Ext C B ⟨B.H, B.m ++ [p], B.F, B.Z⟩ ∧ RelH C ⟨B.H, B.m ++ [p], B.F, B.Z⟩ (st ++ [c]) ∧ (B.m ++ [p])[st.length]? = some p := by
  have x : Ext C B ⟨B.H, B.m ++ [p], B.F, B.Z⟩ := ⟨fun _ _ h => h, fun a h => ⟨h, fun _ e => e⟩, fun i a h => by
    show (B.m ++ [p])[i]? = some a
    rw [List.getElem?_append_left (List.getElem?_eq_some_iff.mp h).1]; exact h, rfl⟩
  refine ⟨x, ⟨by show (B.m ++ [p]).length = _; rw [List.length_append, List.length_append, R.len]; rfl, ?_, fun a ha => ?_, fun i c' a h1 h2 => ?_, R.fz, R.scr, fun q hq => ⟨(R.zz q hq).1, fun hm => (List.mem_append.mp hm).elim (R.zz q hq).2.1 fun h => hZ q hq (List.mem_singleton.mp h), (R.zz q hq).2.2⟩⟩, ?_⟩
  · show (B.m ++ [p]).Nodup
    rw [List.nodup_append]
    exact ⟨R.nd, by simp, fun a ha b hb e => by simp at hb; subst hb; subst e; exact hm ha⟩
  · have ha : a ∈ B.m ++ [p] := ha
    rcases List.mem_append.mp ha with ha | ha
    · exact R.sep a ha
    · simp at ha; rw [ha]; exact nF
  · have h2 : (B.m ++ [p])[i]? = some a := h2
    by_cases hi : i < st.length
    · rw [List.getElem?_append_left hi] at h1
      rw [List.getElem?_append_left (by rw [R.len]; exact hi)] at h2
      exact (R.cell i c' a h1 h2).mono x rfl
    · have hi2 : i = st.length := by
        have := (List.getElem?_eq_some_iff.mp h1).1
        simp at this; omega
      subst hi2
      rw [List.getElem?_append_right (Nat.le_refl _)] at h1
      rw [← R.len, List.getElem?_append_right (Nat.le_refl _)] at h2
      simp at h1 h2
      subst h1; subst h2
      exact hc.mono x rfl
  · rw [← R.len, List.getElem?_append_right (Nat.le_refl _)]; simp
theorem e_box (h : PE X e (tn C W c)) : PE X e (te C W (box c)) := h.imp fun σ H Q ⟨env, st, B, e, r, p⟩ => by
  subst e
  refine (seq r p).mono fun v H1 ⟨ds, st1, B1, e1, x1, r1, p1, k1⟩ => ?_
  subst e1
  obtain ⟨a, vs, rfl, hH, hz, rl, nm, nF, nZ⟩ := p1
  obtain ⟨x2, r2, g⟩ := Bd.place (c := .lst ds) r1.h ⟨vs, hH, hz, rl⟩ nm nF nZ
  obtain ⟨d, st', e, k⟩ := post_lift k1
  cases e
  exact k (.ref a) ⟨B1.H, B1.m ++ [a], B1.F, B1.Z⟩ x2 (r1.of x2 r2) (rep_ref g)
/-- a new list object at p -/
theorem new_list {B : Bd} {st : Sto} {p : Addr} {vs : List V} {ds : List D} (R : RelH C B st) (hp : B.H p = none) (hz : vs.length ≤ sizeLine) (rl : RepL C B ds vs) :
    Ext C B ⟨upd B.H p (.lst vs), B.m, B.F, B.Z⟩ ∧ RelH C ⟨upd B.H p (.lst vs), B.m, B.F, B.Z⟩ st ∧ repN C ⟨upd B.H p (.lst vs), B.m, B.F, B.Z⟩ ds (.ref p) := by
  obtain ⟨x, r⟩ := R.new (o := .lst vs) hp
  refine ⟨x, r, p, vs, rfl, upd_same, hz, rl.mono x, fun h => ?_, fun h => R.fz p h hp, fun q hq e => by
    have h1 := (R.zz q hq).1
    rw [e, hp] at h1; cases h1⟩
  obtain ⟨u, e, _⟩ := R.mut h
  rw [hp] at e; cases e
theorem new_tuple {B : Bd} {st : Sto} {p : Addr} {vs : List V} {ds : List D} (R : RelH C B st) (hp : B.H p = none) (hz : vs.length ≤ sizeLine) (rl : RepL C B ds vs) :
    Ext C B ⟨upd B.H p (.tup vs), B.m, B.F, B.Z⟩ ∧ RelH C ⟨upd B.H p (.tup vs), B.m, B.F, B.Z⟩ st ∧ Rep C ⟨upd B.H p (.tup vs), B.m, B.F, B.Z⟩ (.tup ds) (.ref p) := by
  obtain ⟨x, r⟩ := R.new (o := .tup vs) hp
  exact ⟨x, r, rep_tup hz (SqT.of upd_same) (rl.mono x)⟩
/-- a written list -/
def dlst (cs : List (M D)) : M (List D) := bnd (args cs) fun ds => lift fun st => if ds.length ≤ sizeLine then some (ds, st) else none
def dtup (cs : List (M D)) : M D := bnd (args cs) fun ds => lift fun st => if ds.length ≤ sizeLine then some (.tup ds, st) else none
variable {cs : List (M D)} {pos : Pos}
theorem n_lst (h : PA X es (ta C W (args cs))) : PE X (.List es pos) (tn C W (dlst cs)) := (pe_lst h).imp fun σ H Q ⟨env, st, B, e, r, p⟩ => by
  subst e
  refine (seq r p).mono fun vs H1 ⟨ds, st1, B1, e1, x1, r1, p1, k1⟩ => ?_
  subst e1
  obtain ⟨d, st', e, k⟩ := post_lift k1
  split at e
  · rename_i hz
    cases e
    have hz' : vs.length ≤ sizeLine := by rw [p1.length]; exact hz
    refine ⟨hz', fun a ha => ?_⟩
    obtain ⟨x2, r2, q⟩ := new_list r1.h ha hz' p1
    exact k (.ref a) _ x2 (r1.of x2 r2) q
  · cases e
theorem e_tup {x1} (h : PA X es (ta C W (args cs))) : PE X (.Tuple es x1 pos) (te C W (dtup cs)) := (pe_tup h).imp fun σ H Q ⟨env, st, B, e, r, p⟩ => by
  subst e
  refine (seq r p).mono fun vs H1 ⟨ds, st1, B1, e1, x1, r1, p1, k1⟩ => ?_
  subst e1
  obtain ⟨d, st', e, k⟩ := post_lift k1
  split at e
  · rename_i hz
    cases e
    have hz' : vs.length ≤ sizeLine := by rw [p1.length]; exact hz
    refine ⟨hz', fun a ha => ?_⟩
    obtain ⟨x2, r2, q⟩ := new_tuple r1.h ha hz' p1
    exact k (.ref a) _ x2 (r1.of x2 r2) q
  · cases e
end

/-! ### what may be read as a list -/
def lstOf (st : Sto) : D → Option (List D)
  | .lst xs => some xs
  | .ref i => match st[i]? with
    | some (.lst xs) => some xs
    | _ => none
  | _ => none
def rdOf (st : Sto) : D → Option (List D)
  | .scr ns => some (ns.map D.int)
  | d => lstOf st d
def tupOf : D → Option (List D)
  | .tup xs => some xs
  | _ => none
section
variable {C : Ctx} {B : Bd} {st : Sto} {d : D} {v : V} {ds : List D}
theorem lstOf_rep (R : RelH C B st) (h : lstOf st d = some ds) (r : Rep C B d v) : ∃ a vs, v = .ref a ∧ B.H a = some (.lst vs) ∧ vs.length ≤ sizeLine ∧ RepL C B ds vs := by
  unfold lstOf at h
  split at h
  · cases h
    unfold Rep at r
    obtain ⟨a, vs, e, hz, ⟨_, q⟩, t⟩ := r
    exact ⟨a, vs, e, q, hz, t⟩
  · rename_i i
    cases e : st[i]? with
    | none => rw [e] at h; cases h
    | some c =>
      rw [e] at h
      cases c with
      | lst xs =>
        cases h
        obtain ⟨a, q, rfl⟩ := r.ref_inv
        obtain ⟨vs, q2, hz, t⟩ := R.cell i _ a e q
        exact ⟨a, vs, rfl, q2, hz, t⟩
      | ins _ _ _ => cases h
      | dct _ _ => cases h
      | dtt _ _ => cases h
  · cases h
theorem rdOf_rep (R : RelH C B st) (h : rdOf st d = some ds) (r : Rep C B d v) : ∃ a vs, v = .ref a ∧ SqL C.K B.H a vs ∧ vs.length ≤ sizeLine ∧ RepL C B ds vs := by
  unfold rdOf at h
  split at h
  · rename_i ns
    cases h
    unfold Rep at r
    obtain ⟨e1, e2⟩ := r
    subst e1
    exact ⟨C.S, C.ns.map V.int, e2, R.scr.sq, by rw [List.length_map]; exact R.scr.1, RepL.of_ints _⟩
  · obtain ⟨a, vs, e, q, hz, t⟩ := lstOf_rep R h r
    exact ⟨a, vs, e, SqL.of q, hz, t⟩
theorem tupOf_rep (h : tupOf d = some ds) (r : Rep C B d v) : ∃ a vs, v = .ref a ∧ SqT C.K B.H a vs ∧ vs.length ≤ sizeLine ∧ RepL C B ds vs := by
  unfold tupOf at h
  split at h
  · cases h
    obtain ⟨a, vs, e, hz, q, t⟩ := r.tup_inv
    exact ⟨a, vs, e, q, hz, t⟩
  · cases h
end

/-! ### two-place operations -/
/-- a rule's reading follows from what a store step says -/
def BinOk (C : Ctx) (f : D → D → Sto → Option (D × Sto)) (r : R2) : Prop := ∀ (B : Bd) (st : Sto) (x y : D) (v u : V) (Q : VK) (d : D) (st' : Sto), RelH C B st → Rep C B x v → Rep C B y u → f x y st = some (d, st') →
  (∀ v' B', Ext C B B' → RelH C B' st' → Rep C B' d v' → Q v' B'.H) → r v u B.H Q
def BinOkN (C : Ctx) (f : D → D → Sto → Option (List D × Sto)) (r : R2) : Prop := ∀ (B : Bd) (st : Sto) (x y : D) (v u : V) (Q : VK) (ds : List D) (st' : Sto), RelH C B st → Rep C B x v → Rep C B y u → f x y st = some (ds, st') →
  (∀ v' B', Ext C B B' → RelH C B' st' → repN C B' ds v' → Q v' B'.H) → r v u B.H Q
def UnOk (C : Ctx) (f : D → Sto → Option (D × Sto)) (r : V → Hp → VK → Prop) : Prop := ∀ (B : Bd) (st : Sto) (x : D) (v : V) (Q : VK) (d : D) (st' : Sto), RelH C B st → Rep C B x v → f x st = some (d, st') →
  (∀ v' B', Ext C B B' → RelH C B' st' → Rep C B' d v' → Q v' B'.H) → r v B.H Q
/-- a call's rule by the arguments -/
def CallOk (C : Ctx) (f : List D → Sto → Option (D × Sto)) (r : List V → Hp → VK → Prop) : Prop := ∀ (B : Bd) (st : Sto) (xs : List D) (vs : List V) (Q : VK) (d : D) (st' : Sto), RelH C B st → RepL C B xs vs → f xs st = some (d, st') →
  (∀ v' B', Ext C B B' → RelH C B' st' → Rep C B' d v' → Q v' B'.H) → r vs B.H Q
def CallOkN (C : Ctx) (f : List D → Sto → Option (List D × Sto)) (r : List V → Hp → VK → Prop) : Prop := ∀ (B : Bd) (st : Sto) (xs : List D) (vs : List V) (Q : VK) (ds : List D) (st' : Sto), RelH C B st → RepL C B xs vs → f xs st = some (ds, st') →
  (∀ v' B', Ext C B B' → RelH C B' st' → repN C B' ds v' → Q v' B'.H) → r vs B.H Q
def un (f : D → Sto → Option (D × Sto)) (a : M D) : M D := bnd a fun x => lift (f x)
def bin {α : Type} (f : D → D → Sto → Option (α × Sto)) (a b : M D) : M α := bnd a fun x => bnd b fun y => lift (f x y)
def calls {α : Type} (f : List D → Sto → Option (α × Sto)) (as : M (List D)) : M α := bnd as fun xs => lift (f xs)

section
variable {X : Cx} {C : Ctx} {W : WX} {a b : Expr} {ca cb : M D} {pos : Pos}
theorem bin_rd {f : D → D → Sto → Option (D × Sto)} {r : R2} (hb : BinOk C f r) : ∀ σ H Q, te C W (bin f ca cb) σ H Q → tOp r (te C W ca) (te C W cb) σ H Q := fun σ H Q ⟨env, st, B, e, rr, p⟩ => by
  subst e
  refine (seq rr p).mono fun v H1 ⟨x, st1, B1, e1, x1, r1, p1, k1⟩ => ?_
  subst e1
  refine (seq r1 k1).mono fun u H2 ⟨y, st2, B2, e2, x2, r2, p2, k2⟩ => ?_
  subst e2
  obtain ⟨d, st', e, k⟩ := post_lift k2
  exact hb B2 st2 x y v u Q d st' r2.h (p1.mono x2) p2 e fun v' B' x' h' q => k v' B' x' (r2.of x' h') q
theorem bin_rdN {f : D → D → Sto → Option (List D × Sto)} {r : R2} (hb : BinOkN C f r) : ∀ σ H Q, tn C W (bin f ca cb) σ H Q → tOp r (te C W ca) (te C W cb) σ H Q := fun σ H Q ⟨env, st, B, e, rr, p⟩ => by
  subst e
  refine (seq rr p).mono fun v H1 ⟨x, st1, B1, e1, x1, r1, p1, k1⟩ => ?_
  subst e1
  refine (seq r1 k1).mono fun u H2 ⟨y, st2, B2, e2, x2, r2, p2, k2⟩ => ?_
  subst e2
  obtain ⟨d, st', e, k⟩ := post_lift k2
  exact hb B2 st2 x y v u Q d st' r2.h (p1.mono x2) p2 e fun v' B' x' h' q => k v' B' x' (r2.of x' h') q
theorem e_bin {op : Operator} {f : D → D → Sto → Option (D × Sto)} {r : R2} (ho : OpR X (binaryOp op) r) (hb : BinOk C f r) (ha : PE X a (te C W ca)) (hb' : PE X b (te C W cb)) : PE X (.BinOp a op b pos) (te C W (bin f ca cb)) := (pe_op ho ha hb').imp (bin_rd hb)
theorem n_bin {op : Operator} {f : D → D → Sto → Option (List D × Sto)} {r : R2} (ho : OpR X (binaryOp op) r) (hb : BinOkN C f r) (ha : PE X a (te C W ca)) (hb' : PE X b (te C W cb)) : PE X (.BinOp a op b pos) (tn C W (bin f ca cb)) := (pe_op ho ha hb').imp (bin_rdN hb)
theorem e_cmp {op : CmpOp} {f : D → D → Sto → Option (D × Sto)} {r : R2} (ho : OpR X (compareOp op) r) (hb : BinOk C f r) (ha : PE X a (te C W ca)) (hb' : PE X b (te C W cb)) (hm : behindInMarks op b = false) : PE X (.Compare a [op] [b] pos) (te C W (bin f ca cb)) := (pe_cmpR ho ha hb' hm).imp (bin_rd hb)
theorem un_rd {f : D → Sto → Option (D × Sto)} {r : V → Hp → VK → Prop} (hb : UnOk C f r) : ∀ σ H Q, te C W (un f ca) σ H Q → tUn r (te C W ca) σ H Q := fun σ H Q ⟨env, st, B, e, rr, p⟩ => by
  subst e
  refine (seq rr p).mono fun v H1 ⟨x, st1, B1, e1, x1, r1, p1, k1⟩ => ?_
  subst e1
  obtain ⟨d, st', e, k⟩ := post_lift k1
  exact hb B1 st1 x v Q d st' r1.h p1 e fun v' B' x' h' q => k v' B' x' (r1.of x' h') q
theorem e_un {op : UnaryOp} {f : D → Sto → Option (D × Sto)} {r : V → Hp → VK → Prop} (ho : UnR X (unaryOp op) r) (hb : UnOk C f r) (ha : PE X a (te C W ca)) : PE X (.UnaryOp op a pos) (te C W (un f ca)) := (pe_un ho ha).imp (un_rd hb)
theorem calls_rd {f : List D → Sto → Option (D × Sto)} {r : List V → Hp → VK → Prop} {as : M (List D)} (hb : CallOk C f r) : ∀ σ H Q, te C W (calls f as) σ H Q → tCB r (ta C W as) σ H Q := fun σ H Q ⟨env, st, B, e, rr, p⟩ => by
  subst e
  refine (seq rr p).mono fun v H1 ⟨x, st1, B1, e1, x1, r1, p1, k1⟩ => ?_
  subst e1
  obtain ⟨d, st', e, k⟩ := post_lift k1
  exact hb B1 st1 x v Q d st' r1.h p1 e fun v' B' x' h' q => k v' B' x' (r1.of x' h') q
theorem calls_rdN {f : List D → Sto → Option (List D × Sto)} {r : List V → Hp → VK → Prop} {as : M (List D)} (hb : CallOkN C f r) : ∀ σ H Q, tn C W (calls f as) σ H Q → tCB r (ta C W as) σ H Q := fun σ H Q ⟨env, st, B, e, rr, p⟩ => by
  subst e
  refine (seq rr p).mono fun v H1 ⟨x, st1, B1, e1, x1, r1, p1, k1⟩ => ?_
  subst e1
  obtain ⟨d, st', e, k⟩ := post_lift k1
  exact hb B1 st1 x v Q d st' r1.h p1 e fun v' B' x' h' q => k v' B' x' (r1.of x' h') q
end
end Ly
/-! Operators, comparisons, tests. -/
namespace Ly
open PySem PySem.Spec PyProof.Rows L2

/-! ### arithmetic -/
def opAdd (x y : D) (st : Sto) : Option (D × Sto) := match x, y with
  | .int i, .int j => some (.int (i + j), st)
  | .str a, .str b => if a.length + b.length ≤ sizeLine then some (.str (a ++ b), st) else none
  | .tup xs, .tup ys => if xs.length + ys.length ≤ sizeLine then some (.tup (xs ++ ys), st) else none
  | x, y => match lstOf st x, lstOf st y with
    | some xs, some ys => if xs.length + ys.length ≤ sizeLine then some (.lst (xs ++ ys), st) else none
    | _, _ => none
def catN (x y : D) (st : Sto) : Option (List D × Sto) := match lstOf st x, lstOf st y with
  | some xs, some ys => if xs.length + ys.length ≤ sizeLine then some (xs ++ ys, st) else none
  | _, _ => none
abbrev rAddAll (K : PySem.W.Frag) : R2 := fun x y H Q => rI0 (fun i j => .int (i + j)) x y H Q ∨ (∃ i j, x = .str i ∧ y = .str j ∧ i.length + j.length ≤ sizeLine ∧ Q (.str (i ++ j)) H) ∨ rCatA K x y H Q ∨ rCat x y H Q
theorem repN.tree {C : Ctx} {B : Bd} {st : Sto} {ds : List D} {v : V} (R : RelH C B st) (h : repN C B ds v) : ∃ B', B'.H = B.H ∧ Ext C B B' ∧ RelH C B' st ∧ Rep C B' (.lst ds) v := by
  obtain ⟨a, vs, rfl, hH, hz, rl, nm, nF, nZ⟩ := h
  obtain ⟨x2, r2⟩ := Bd.freeze (p := a) R (by rw [hH]; intro z; cases z) nm nZ
  exact ⟨⟨B.H, B.m, fun b => B.F b ∨ b = a, B.Z⟩, rfl, x2, r2, rep_lst hz (.inr rfl) hH (rl.mono x2)⟩
theorem catN_ok {C : Ctx} : BinOkN C catN rCat := fun B st x y v u Q ds st' R rx ry e k => by
  unfold catN at e
  cases ex : lstOf st x with
  | none => rw [ex] at e; cases e
  | some xs =>
    cases ey : lstOf st y with
    | none => rw [ex, ey] at e; cases e
    | some ys =>
      rw [ex, ey] at e
      dsimp only at e
      split at e
      · rename_i hz
        cases e
        obtain ⟨a, vs, rfl, hA, hzA, tA⟩ := lstOf_rep R ex rx
        obtain ⟨b, us, rfl, hB, hzB, tB⟩ := lstOf_rep R ey ry
        have hz' : vs.length + us.length ≤ sizeLine := by rw [tA.length, tB.length]; exact hz
        refine ⟨a, b, vs, us, rfl, rfl, hA, hB, hz', fun p hp => ?_⟩
        obtain ⟨x2, r2, q⟩ := new_list R hp (by rw [List.length_append]; exact hz') (tA.append tB)
        exact k (.ref p) _ x2 r2 q
      · cases e
theorem opAdd_ok {C : Ctx} : BinOk C opAdd (rAddAll C.K) := fun B st x y v u Q d st' R rx ry e k => by
  unfold opAdd at e
  split at e
  · cases e
    rw [rx.int_inv, ry.int_inv]
    exact .inl ⟨_, _, rfl, rfl, k _ B (Ext.refl _ _) R rep_int⟩
  · split at e
    · rename_i hz
      cases e
      rw [rx.str_inv, ry.str_inv]
      exact .inr (.inl ⟨_, _, rfl, rfl, hz, k _ B (Ext.refl _ _) R rep_str⟩)
    · cases e
  · split at e
    · rename_i xs ys hz
      cases e
      obtain ⟨a, vs, rfl, hzA, hA, tA⟩ := rx.tup_inv
      obtain ⟨b, us, rfl, hzB, hB, tB⟩ := ry.tup_inv
      have hz' : vs.length + us.length ≤ sizeLine := by rw [tA.length, tB.length]; exact hz
      refine .inr (.inr (.inl ⟨a, b, vs, us, rfl, rfl, hA, hB, hz', fun e => ?_, fun _ e => ?_, fun _ _ p hp => ?_⟩))
      · have e2 : xs = [] := by have := tA.length; rw [e] at this; exact List.length_eq_zero_iff.mp this.symm
        rw [e2] at k
        exact k _ B (Ext.refl _ _) R (rep_tup hzB hB tB)
      · have e2 : ys = [] := by have := tB.length; rw [e] at this; exact List.length_eq_zero_iff.mp this.symm
        rw [e2, List.append_nil] at k
        exact k _ B (Ext.refl _ _) R (rep_tup hzA hA tA)
      · obtain ⟨x2, r2, q⟩ := new_tuple R hp (by rw [List.length_append]; exact hz') (tA.append tB)
        exact k (.ref p) _ x2 r2 q
    · cases e
  · split at e
    · rename_i xs ys ex ey
      split at e
      · rename_i hz
        cases e
        refine .inr (.inr (.inr (catN_ok B st x y v u Q (xs ++ ys) st R rx ry (by unfold catN; rw [ex, ey]; dsimp only; rw [if_pos hz]) fun v' B' x' r' q => ?_)))
        obtain ⟨B2, e2, x2, r2, q2⟩ := q.tree r'
        rw [← e2]
        exact k v' B2 (x'.trans x2) r2 q2
      · cases e
    · cases e

def opSub (x y : D) (st : Sto) : Option (D × Sto) := match x, y with
  | .int i, .int j => some (.int (i - j), st)
  | _, _ => none
theorem opSub_ok {C : Ctx} : BinOk C opSub (rI0 fun i j => .int (i - j)) := fun B st x y v u Q d st' R rx ry e k => by
  unfold opSub at e
  split at e
  · cases e
    rw [rx.int_inv, ry.int_inv]
    exact ⟨_, _, rfl, rfl, k _ B (Ext.refl _ _) R rep_int⟩
  · cases e
def smallI (i : Int) : Bool := decide (-(2 ^ 64) < i) && decide (i < 2 ^ 64)
def repD (st : Sto) (x : D) (k : Int) : Option (List D × Sto) := match lstOf st x with
  | some xs => if -(2 ^ 63) ≤ k ∧ k < 2 ^ 63 ∧ xs.length * k.toNat ≤ sizeLine then some ((List.replicate k.toNat xs).flatten, st) else none
  | none => none
def opMul (x y : D) (st : Sto) : Option (D × Sto) := match x, y with
  | .int i, .int j => if smallI i || smallI j then some (.int (i * j), st) else none
  | .tup xs, .int k => if xs ≠ [] ∧ 2 ≤ k ∧ k ≤ 1000 ∧ xs.length ≤ 1000 then some (.tup (List.replicate k.toNat xs).flatten, st) else none
  | x, .int k => (repD st x k).map fun p => (.lst p.1, p.2)
  | _, _ => none
def repN2 (x y : D) (st : Sto) : Option (List D × Sto) := match y with
  | .int k => repD st x k
  | _ => none
theorem smallI_ok {i : Int} (h : smallI i = true) : -(2 ^ 64) < i ∧ i < 2 ^ 64 := by
  unfold smallI at h
  simpa [Bool.and_eq_true] using h
theorem repN2_ok {C : Ctx} : BinOkN C repN2 rRep := fun B st x y v u Q ds st' R rx ry e k => by
  unfold repN2 at e
  split at e
  · rename_i i
    unfold repD at e
    split at e
    · rename_i xs ex
      split at e
      · rename_i hz
        cases e
        obtain ⟨a, vs, rfl, hA, hzA, tA⟩ := lstOf_rep R ex rx
        rw [ry.int_inv]
        have hz' : vs.length * i.toNat ≤ sizeLine := by rw [tA.length]; exact hz.2.2
        refine ⟨a, i, vs, rfl, rfl, hA, hz.1, hz.2.1, hz', fun p hp => ?_⟩
        obtain ⟨x2, r2, q⟩ := new_list R hp (by rw [List.length_flatten]; simp [List.map_replicate]; rw [Nat.mul_comm]; exact hz') (tA.rep i.toNat)
        exact k (.ref p) _ x2 r2 q
      · cases e
    · cases e
  · cases e
abbrev rMulAll (K : PySem.W.Frag) : R2 := fun x y H Q => rI CMul (fun i j => .int (i * j)) x y H Q ∨ rRepT K x y H Q ∨ rRep x y H Q
theorem opMul_ok {C : Ctx} : BinOk C opMul (rMulAll C.K) := fun B st x y v u Q d st' R rx ry e k => by
  unfold opMul at e
  split at e
  · split at e
    · rename_i i j hz
      cases e
      rw [rx.int_inv, ry.int_inv]
      have hc : CMul i j := by
        rcases Bool.or_eq_true_iff.mp hz with h | h
        · exact .inl (smallI_ok h)
        · exact .inr (smallI_ok h)
      exact .inl ⟨_, _, rfl, rfl, hc, k _ B (Ext.refl _ _) R rep_int⟩
    · cases e
  · split at e
    · rename_i xs i hz
      cases e
      obtain ⟨a, vs, rfl, hzA, hA, tA⟩ := rx.tup_inv
      rw [ry.int_inv]
      have hl := tA.length
      have hne : vs ≠ [] := fun e => hz.1 (by rw [e] at hl; exact List.length_eq_zero_iff.mp hl.symm)
      refine .inr (.inl ⟨a, i, vs, rfl, rfl, hA, hne, hz.2.1, hz.2.2.1, by rw [hl]; exact hz.2.2.2, fun p hp => ?_⟩)
      have hb : (List.replicate i.toNat vs).flatten.length ≤ sizeLine := by
        rw [List.length_flatten]; simp [List.map_replicate]; rw [hl]
        have h1 : i.toNat ≤ 1000 := by omega
        have h2 := hz.2.2.2
        calc i.toNat * xs.length ≤ 1000 * 1000 := Nat.mul_le_mul h1 h2
          _ ≤ sizeLine := by decide
      obtain ⟨x2, r2, q⟩ := new_tuple R hp hb (tA.rep i.toNat)
      exact k (.ref p) _ x2 r2 q
    · cases e
  · rename_i i _ _
    cases er : repD st x i with
    | none => rw [er] at e; cases e
    | some p =>
      rw [er] at e
      obtain ⟨xs, st1⟩ := p
      cases e
      refine .inr (.inr (repN2_ok B st x (.int i) v u Q xs st1 R rx ry (by unfold repN2; exact er) fun v' B' x' r' q => ?_))
      obtain ⟨B2, e2, x2, r2, q2⟩ := q.tree r'
      rw [← e2]
      exact k v' B2 (x'.trans x2) r2 q2
  · cases e
def opDiv (x y : D) (st : Sto) : Option (D × Sto) := match x, y with
  | .int i, .int j => if 0 < j ∧ j < 1073741824 then some (.int (i / j), st) else none
  | _, _ => none
theorem opDiv_ok {C : Ctx} : BinOk C opDiv (rI CDiv fun i j => .int (i / j)) := fun B st x y v u Q d st' R rx ry e k => by
  unfold opDiv at e
  split at e
  · split at e
    · rename_i hz
      cases e
      rw [rx.int_inv, ry.int_inv]
      exact ⟨_, _, rfl, rfl, hz, k _ B (Ext.refl _ _) R rep_int⟩
    · cases e
  · cases e
def opMod (x y : D) (st : Sto) : Option (D × Sto) := match x, y with
  | .int i, .int j => if 0 < j then some (.int (i % j), st) else none
  | _, _ => none
theorem opMod_ok {C : Ctx} : BinOk C opMod (rI (fun _ j => 0 < j) fun i j => .int (i % j)) := fun B st x y v u Q d st' R rx ry e k => by
  unfold opMod at e
  split at e
  · split at e
    · rename_i hz
      cases e
      rw [rx.int_inv, ry.int_inv]
      exact ⟨_, _, rfl, rfl, hz, k _ B (Ext.refl _ _) R rep_int⟩
    · cases e
  · cases e
def opNeg (x : D) (st : Sto) : Option (D × Sto) := match x with
  | .int i => some (.int (-i), st)
  | _ => none
theorem opNeg_ok {C : Ctx} : UnOk C opNeg (rU fun i => .int (-i)) := fun B st x v Q d st' R rx e k => by
  unfold opNeg at e
  split at e
  · cases e
    rw [rx.int_inv]
    exact ⟨_, rfl, k _ B (Ext.refl _ _) R rep_int⟩
  · cases e

/-! ### comparisons -/
def opCmp (p : Int → Int → Bool) (x y : D) (st : Sto) : Option (D × Sto) := match x, y with
  | .int i, .int j => some (.bl (p i j), st)
  | _, _ => none
theorem opCmp_ok {C : Ctx} {p : Int → Int → Bool} : BinOk C (opCmp p) (rI0 fun i j => .bl (p i j)) := fun B st x y v u Q d st' R rx ry e k => by
  unfold opCmp at e
  split at e
  · cases e
    rw [rx.int_inv, ry.int_inv]
    exact ⟨_, _, rfl, rfl, k _ B (Ext.refl _ _) R rep_bl⟩
  · cases e
abbrev opLt := opCmp fun i j => decide (i < j)
abbrev opLe := opCmp fun i j => decide (i ≤ j)
abbrev opGt := opCmp fun i j => decide (j < i)
abbrev opGe := opCmp fun i j => decide (j ≤ i)

mutual
/-- a datum: no place in it, texts of signs, so deep at most -/
def D.ok (n : Nat) : D → Bool
  | .non => true
  | .bl _ => true
  | .int _ => true
  | .str s => PyData.strOk s
  | .tup xs => decide (0 < n) && D.okL (n - 1) xs
  | .lst xs => decide (0 < n) && D.okL (n - 1) xs
  | .scr _ => decide (0 < n)
  | _ => false
def D.okL (n : Nat) : List D → Bool
  | [] => true
  | x :: xs => D.ok n x && D.okL n xs
end
mutual
def D.py : D → PyData
  | .non => .none
  | .bl b => .bool b
  | .int i => .int i
  | .str s => .str s
  | .tup xs => .tuple (D.pyL xs)
  | .lst xs => .list (D.pyL xs)
  | .scr ns => .list (ns.map .int)
  | _ => .none
def D.pyL : List D → List PyData
  | [] => []
  | x :: xs => D.py x :: D.pyL xs
end
mutual
/-- == of data -/
def D.eq : D → D → Bool
  | .non, .non => true
  | .bl a, .bl b => a == b
  | .bl a, .int j => (if a then 1 else 0) == j
  | .int i, .bl b => i == (if b then 1 else 0)
  | .int i, .int j => i == j
  | .str a, .str b => a == b
  | .lst a, .lst b => D.eqL a b
  | .tup a, .tup b => D.eqL a b
  | _, _ => false
def D.eqL : List D → List D → Bool
  | [], [] => true
  | x :: xs, y :: ys => D.eq x y && D.eqL xs ys
  | _, _ => false
end
/-- a place's list, the script's, as a datum -/
def top (st : Sto) (d : D) : D := match rdOf st d with
  | some xs => .lst xs
  | none => d
/- no script within -/
mutual
def D.ns : D → Bool
  | .tup xs => D.nsL xs
  | .lst xs => D.nsL xs
  | .scr _ => false
  | .ref _ => false
  | .dic _ _ => false
  | .exc _ => false
  | _ => true
def D.nsL : List D → Bool
  | [] => true
  | x :: xs => D.ns x && D.nsL xs
end
mutual
theorem D.eqv_py : ∀ (x y : D), D.ns x = true → D.ns y = true → PyData.eqv (D.py x) (D.py y) = D.eq x y
  | .non, y, _, hy => by cases y <;> simp [D.py, D.eq, PyData.eqv] <;> simp [D.ns] at hy
  | .bl b, y, _, hy => by cases y <;> simp [D.py, D.eq, PyData.eqv] <;> simp [D.ns] at hy
  | .int i, y, _, hy => by cases y <;> simp [D.py, D.eq, PyData.eqv] <;> simp [D.ns] at hy
  | .str s, y, _, hy => by cases y <;> simp [D.py, D.eq, PyData.eqv] <;> simp [D.ns] at hy
  | .tup xs, y, hx, hy => by
    cases y <;> simp [D.py, D.eq, PyData.eqv] <;> simp [D.ns] at hx hy
    exact D.eqv_pyL _ _ hx hy
  | .lst xs, y, hx, hy => by
    cases y <;> simp [D.py, D.eq, PyData.eqv] <;> simp [D.ns] at hx hy
    exact D.eqv_pyL _ _ hx hy
  | .dic _ _, y, hx, _ => by simp [D.ns] at hx
  | .ref _, y, hx, _ => by simp [D.ns] at hx
  | .exc _, y, hx, _ => by simp [D.ns] at hx
  | .scr _, y, hx, _ => by simp [D.ns] at hx
theorem D.eqv_pyL : ∀ (xs ys : List D), D.nsL xs = true → D.nsL ys = true → PyData.eqvAll (D.pyL xs) (D.pyL ys) = D.eqL xs ys
  | [], [], _, _ => by simp [D.pyL, D.eqL, PyData.eqvAll]
  | [], y :: ys, _, _ => by simp [D.pyL, D.eqL, PyData.eqvAll]
  | x :: xs, [], _, _ => by simp [D.pyL, D.eqL, PyData.eqvAll]
  | x :: xs, y :: ys, hx, hy => by
    simp [D.nsL] at hx hy
    simp [D.pyL, D.eqL, PyData.eqvAll]
    rw [D.eqv_py x y hx.1 hy.1, D.eqv_pyL xs ys hx.2 hy.2]
end
mutual
theorem D.ok_shape : ∀ (n : Nat) (x : D), D.ok n x = true → PyData.canLay0 (D.py x) = true ∧ PyData.depth (D.py x) ≤ n
  | n, .non, _ => by simp [D.py, PyData.canLay0, PyData.depth]
  | n, .bl _, _ => by simp [D.py, PyData.canLay0, PyData.depth]
  | n, .int _, _ => by simp [D.py, PyData.canLay0, PyData.depth]
  | n, .str s, h => by
    simp [D.ok] at h
    simp [D.py, PyData.canLay0, PyData.depth, h]
  | n, .tup xs, h => by
    simp [D.ok] at h
    obtain ⟨h1, h2⟩ := D.ok_shapeL (n - 1) xs h.2
    simp [D.py, PyData.canLay0, PyData.depth, h1]
    omega
  | n, .lst xs, h => by
    simp [D.ok] at h
    obtain ⟨h1, h2⟩ := D.ok_shapeL (n - 1) xs h.2
    simp [D.py, PyData.canLay0, PyData.depth, h1]
    omega
  | n, .scr ns, h => by
    simp [D.ok] at h
    have : ∀ ns : List Int, PyData.canLayAll0 (ns.map PyData.int) = true ∧ PyData.depthAll (ns.map PyData.int) = 0 := fun ns => by
      induction ns with
      | nil => simp [PyData.canLayAll0, PyData.depthAll]
      | cons a r ih => simp [PyData.canLayAll0, PyData.depthAll, PyData.canLay0, PyData.depth, ih]
    simp [D.py, PyData.canLay0, PyData.depth, this]
    omega
  | n, .dic _ _, h => by simp [D.ok] at h
  | n, .ref _, h => by simp [D.ok] at h
  | n, .exc _, h => by simp [D.ok] at h
theorem D.ok_shapeL : ∀ (n : Nat) (xs : List D), D.okL n xs = true → PyData.canLayAll0 (D.pyL xs) = true ∧ PyData.depthAll (D.pyL xs) ≤ n
  | n, [], _ => by simp [D.pyL, PyData.canLayAll0, PyData.depthAll]
  | n, x :: xs, h => by
    simp [D.okL] at h
    obtain ⟨h1, h2⟩ := D.ok_shape n x h.1
    obtain ⟨h3, h4⟩ := D.ok_shapeL n xs h.2
    simp [D.pyL, PyData.canLayAll0, PyData.depthAll, h1, h3]
    omega
end
theorem D.ok_shaped {x : D} (h : D.ok 60 x = true) : SeqAt.shaped (D.py x) = true := by
  obtain ⟨h1, h2⟩ := D.ok_shape 60 x h
  unfold SeqAt.shaped
  simp [h1]; omega
section
variable {C : Ctx} {B : Bd} {st : Sto}
mutual
theorem D.dp (R : RelH C B st) : ∀ (n : Nat) (x : D) (v : V), D.ok n x = true → D.ns x = true → Rep C B x v → Dp C.K B.H v (D.py x)
  | _, .non, v, _, _, r => by rw [r.non_inv]; simp only [D.py]; exact .non
  | _, .bl _, v, _, _, r => by rw [r.bl_inv]; simp only [D.py]; exact .bl _
  | _, .int _, v, _, _, r => by rw [r.int_inv]; simp only [D.py]; exact .int _
  | _, .str _, v, _, _, r => by rw [r.str_inv]; simp only [D.py]; exact .str _
  | n, .tup xs, v, h, hn, r => by
    simp [D.ok] at h
    simp [D.ns] at hn
    obtain ⟨a, vs, rfl, _, q, t⟩ := r.tup_inv
    simp only [D.py]
    exact .tup q (D.dpL R (n - 1) xs vs h.2 hn t)
  | n, .lst xs, v, h, hn, r => by
    simp [D.ok] at h
    simp [D.ns] at hn
    obtain ⟨a, vs, rfl, q, _, t⟩ := lstOf_rep R (d := .lst xs) rfl r
    simp only [D.py]
    exact .lst (SqL.of q) (D.dpL R (n - 1) xs vs h.2 hn t)
  | _, .scr ns, v, _, hn, r => by simp [D.ns] at hn
  | _, .dic _ _, v, h, _, r => by simp [D.ok] at h
  | _, .ref _, v, h, _, r => by simp [D.ok] at h
  | _, .exc _, v, h, _, r => by simp [D.ok] at h
theorem D.dpL (R : RelH C B st) : ∀ (n : Nat) (xs : List D) (vs : List V), D.okL n xs = true → D.nsL xs = true → RepL C B xs vs → DpAll C.K B.H vs (D.pyL xs)
  | _, [], vs, _, _, r => by rw [r.nil_inv]; simp only [D.pyL]; exact .nil
  | n, x :: xs, vs, h, hn, r => by
    simp [D.okL] at h
    simp [D.nsL] at hn
    obtain ⟨v, u, rfl, q, t⟩ := r.cons_inv
    simp only [D.pyL]
    exact .cons (D.dp R n x v h.1 hn.1 q) (D.dpL R n xs u h.2 hn.2 t)
end
/-- a datum, or a place's list -/
theorem top_dp (R : RelH C B st) {d : D} {v : V} (h : D.ok 60 (top st d) = true) (hn : D.ns (top st d) = true) (r : Rep C B d v) : Dp C.K B.H v (D.py (top st d)) := by
  unfold top at h hn ⊢
  cases e : rdOf st d with
  | none => rw [e] at h hn; exact D.dp R 60 d v h hn r
  | some xs =>
    rw [e] at h hn
    obtain ⟨a, vs, rfl, q, _, t⟩ := rdOf_rep R e r
    simp [D.ok] at h
    simp [D.ns] at hn
    show Dp C.K B.H (.ref a) (D.py (.lst xs))
    simp only [D.py]
    exact .lst q (D.dpL R 59 xs vs h hn t)
end
/-- two flat things that == tells apart as data does -/
def flat2 : D → D → Option Bool
  | .non, .non => some true
  | .int i, .int j => some (decide (i = j))
  | .str a, .str b => some (decide (a = b))
  | .bl a, .bl b => some (decide (a = b))
  | .int _, .str _ => some false
  | .str _, .int _ => some false
  | _, _ => none
def eqOf (st : Sto) (x y : D) : Option Bool := match flat2 x y with
  | some b => some b
  | none => if D.ok 60 (top st x) && D.ns (top st x) && (D.ok 60 (top st y) && D.ns (top st y)) then some (D.eq (top st x) (top st y)) else none
def opEq (x y : D) (st : Sto) : Option (D × Sto) := (eqOf st x y).map fun b => (.bl b, st)
def opNe (x y : D) (st : Sto) : Option (D × Sto) := (eqOf st x y).map fun b => (.bl !b, st)
theorem flat2_scal {C : Ctx} {B : Bd} {x y : D} {v u : V} {b : Bool} (h : flat2 x y = some b) (rx : Rep C B x v) (ry : Rep C B y u) : scal v u = true ∧ decide (v = u) = b := by
  unfold flat2 at h
  split at h <;> cases h
  · rw [rx.non_inv, ry.non_inv]; exact ⟨rfl, by simp⟩
  · rw [rx.int_inv, ry.int_inv]; exact ⟨rfl, by simp⟩
  · rw [rx.str_inv, ry.str_inv]; exact ⟨rfl, by simp⟩
  · rw [rx.bl_inv, ry.bl_inv]; exact ⟨rfl, by simp⟩
  · rw [rx.int_inv, ry.str_inv]; exact ⟨rfl, by simp⟩
  · rw [rx.str_inv, ry.int_inv]; exact ⟨rfl, by simp⟩
abbrev rEqAll (K : PySem.W.Frag) : R2 := fun x y H Q => rEq x y H Q ∨ rEqD K x y H Q
abbrev rNeAll (K : PySem.W.Frag) : R2 := fun x y H Q => rNe x y H Q ∨ rNeD K x y H Q
theorem opEq_ok {C : Ctx} : BinOk C opEq (rEqAll C.K) := fun B st x y v u Q d st' R rx ry e k => by
  unfold opEq eqOf at e
  cases f : flat2 x y with
  | some b =>
    rw [f] at e; cases e
    obtain ⟨h1, h2⟩ := flat2_scal f rx ry
    exact .inl ⟨h1, by rw [h2]; exact k _ B (Ext.refl _ _) R rep_bl⟩
  | none =>
    rw [f] at e
    dsimp only at e
    split at e
    · rename_i h
      cases e
      simp only [Bool.and_eq_true] at h
      exact .inr ⟨_, _, top_dp R h.1.1 h.1.2 rx, top_dp R h.2.1 h.2.2 ry, D.ok_shaped h.1.1, D.ok_shaped h.2.1, by rw [D.eqv_py _ _ h.1.2 h.2.2]; exact k _ B (Ext.refl _ _) R rep_bl⟩
    · cases e
theorem opNe_ok {C : Ctx} : BinOk C opNe (rNeAll C.K) := fun B st x y v u Q d st' R rx ry e k => by
  unfold opNe eqOf at e
  cases f : flat2 x y with
  | some b =>
    rw [f] at e; cases e
    obtain ⟨h1, h2⟩ := flat2_scal f rx ry
    exact .inl ⟨h1, by rw [h2]; exact k _ B (Ext.refl _ _) R rep_bl⟩
  | none =>
    rw [f] at e
    dsimp only at e
    split at e
    · rename_i h
      cases e
      simp only [Bool.and_eq_true] at h
      exact .inr ⟨_, _, top_dp R h.1.1 h.1.2 rx, top_dp R h.2.1 h.2.2 ry, D.ok_shaped h.1.1, D.ok_shaped h.2.1, by rw [D.eqv_py _ _ h.1.2 h.2.2]; exact k _ B (Ext.refl _ _) R rep_bl⟩
    · cases e
theorem Rep.non_iff {C : Ctx} {B : Bd} {x : D} {v : V} (r : Rep C B x v) : decide (v = .non) = decide (x = .non) := by
  cases x with
  | non => rw [r.non_inv]; simp
  | bl b => rw [r.bl_inv]; simp
  | int b => rw [r.int_inv]; simp
  | str b => rw [r.str_inv]; simp
  | tup b => obtain ⟨a, vs, rfl, _⟩ := r.tup_inv; simp
  | lst b => unfold Rep at r; obtain ⟨a, vs, rfl, _⟩ := r; simp
  | dic k b => unfold Rep at r; obtain ⟨a, vs, rfl, _⟩ := r; simp
  | ref i => obtain ⟨a, _, rfl⟩ := r.ref_inv; simp
  | exc c => unfold Rep at r; obtain ⟨_, _, _, _, q, _⟩ := r; exact q.elim
  | scr ns => unfold Rep at r; rw [r.2]; simp
def opIsN (x y : D) (st : Sto) : Option (D × Sto) := if y = .non then some (.bl (decide (x = .non)), st) else none
def opNotN (x y : D) (st : Sto) : Option (D × Sto) := if y = .non then some (.bl (!decide (x = .non)), st) else none
theorem opIsN_ok {C : Ctx} : BinOk C opIsN (fun x y H Q => y = .non ∧ Q (.bl (decide (x = .non))) H) := fun B st x y v u Q d st' R rx ry e k => by
  unfold opIsN at e
  split at e
  · rename_i hy
    subst hy
    cases e
    exact ⟨ry.non_inv, by rw [rx.non_iff]; exact k _ B (Ext.refl _ _) R rep_bl⟩
  · cases e
theorem opNotN_ok {C : Ctx} : BinOk C opNotN (fun x y H Q => y = .non ∧ Q (.bl (!decide (x = .non))) H) := fun B st x y v u Q d st' R rx ry e k => by
  unfold opNotN at e
  split at e
  · rename_i hy
    subst hy
    cases e
    exact ⟨ry.non_inv, by rw [rx.non_iff]; exact k _ B (Ext.refl _ _) R rep_bl⟩
  · cases e

/-! ### the rules -/
section
variable {X : Cx} {C : Ctx} {W : WX} {a b c : Expr} {ca cb cc : M D} {pos : Pos}
theorem e_add (hK : C.K = X.K := by rfl) (ha : PE X a (te C W ca)) (hb : PE X b (te C W cb)) : PE X (.BinOp a .Add b pos) (te C W (bin opAdd ca cb)) :=
  e_bin (op_add.or (op_add_str.or ((hK ▸ op_catA).or op_cat))) opAdd_ok ha hb
theorem n_cat (ha : PE X a (te C W ca)) (hb : PE X b (te C W cb)) : PE X (.BinOp a .Add b pos) (tn C W (bin catN ca cb)) := n_bin op_cat catN_ok ha hb
theorem e_sub (ha : PE X a (te C W ca)) (hb : PE X b (te C W cb)) : PE X (.BinOp a .Sub b pos) (te C W (bin opSub ca cb)) := e_bin op_sub opSub_ok ha hb
theorem e_mul (hK : C.K = X.K := by rfl) (ha : PE X a (te C W ca)) (hb : PE X b (te C W cb)) : PE X (.BinOp a .Mult b pos) (te C W (bin opMul ca cb)) := e_bin (op_mul.or ((hK ▸ op_repT).or op_rep)) opMul_ok ha hb
theorem n_rep (ha : PE X a (te C W ca)) (hb : PE X b (te C W cb)) : PE X (.BinOp a .Mult b pos) (tn C W (bin repN2 ca cb)) := n_bin op_rep repN2_ok ha hb
theorem e_div (ha : PE X a (te C W ca)) (hb : PE X b (te C W cb)) : PE X (.BinOp a .FloorDiv b pos) (te C W (bin opDiv ca cb)) := e_bin op_fdiv opDiv_ok ha hb
theorem e_mod (ha : PE X a (te C W ca)) (hb : PE X b (te C W cb)) : PE X (.BinOp a .Mod b pos) (te C W (bin opMod ca cb)) := e_bin op_mod opMod_ok ha hb
theorem e_neg (ha : PE X a (te C W ca)) : PE X (.UnaryOp .USub a pos) (te C W (un opNeg ca)) := e_un un_neg opNeg_ok ha
theorem e_lt (ha : PE X a (te C W ca)) (hb : PE X b (te C W cb)) : PE X (.Compare a [.Lt] [b] pos) (te C W (bin opLt ca cb)) := e_cmp op_lt opCmp_ok ha hb (nomark _)
theorem e_le (ha : PE X a (te C W ca)) (hb : PE X b (te C W cb)) : PE X (.Compare a [.LtE] [b] pos) (te C W (bin opLe ca cb)) := e_cmp op_le opCmp_ok ha hb (nomark _)
theorem e_gt (ha : PE X a (te C W ca)) (hb : PE X b (te C W cb)) : PE X (.Compare a [.Gt] [b] pos) (te C W (bin opGt ca cb)) := e_cmp op_gt opCmp_ok ha hb (nomark _)
theorem e_ge (ha : PE X a (te C W ca)) (hb : PE X b (te C W cb)) : PE X (.Compare a [.GtE] [b] pos) (te C W (bin opGe ca cb)) := e_cmp op_ge opCmp_ok ha hb (nomark _)
theorem e_eq (hK : C.K = X.K := by rfl) (hu : X.A.units + 64 < cLine) (ha : PE X a (te C W ca)) (hb : PE X b (te C W cb)) : PE X (.Compare a [.Eq] [b] pos) (te C W (bin opEq ca cb)) := e_cmp (op_eq.or (hK ▸ op_eqD hu)) opEq_ok ha hb (nomark _)
theorem e_ne (hK : C.K = X.K := by rfl) (hu : X.A.units + 64 < cLine) (ha : PE X a (te C W ca)) (hb : PE X b (te C W cb)) : PE X (.Compare a [.NotEq] [b] pos) (te C W (bin opNe ca cb)) := e_cmp (op_ne.or (hK ▸ op_neD hu)) opNe_ok ha hb (nomark _)
theorem e_isN (ha : PE X a (te C W ca)) (hb : PE X b (te C W cb)) : PE X (.Compare a [.Is] [b] pos) (te C W (bin opIsN ca cb)) := e_cmp op_isN opIsN_ok ha hb (nomark _)
theorem e_notN (ha : PE X a (te C W ca)) (hb : PE X b (te C W cb)) : PE X (.Compare a [.IsNot] [b] pos) (te C W (bin opNotN ca cb)) := e_cmp op_notN opNotN_ok ha hb (nomark _)

/-- a op b op' c -/
def chain (f g : D → D → Sto → Option (D × Sto)) (a b c : M D) : M D := bnd a fun x => bnd b fun y => bnd (lift (f x y)) fun k => match k with
  | .bl true => bnd c fun z => lift (g y z)
  | .bl false => ret (.bl false)
  | _ => fun _ _ => .bad
theorem e_chain {op op' : CmpOp} {r r' : R2} {f g : D → D → Sto → Option (D × Sto)} (ho : OpR X (compareOp op) r) (ho' : OpR X (compareOp op') r') (hf : BinOk C f r) (hg : BinOk C g r')
    (ha : PE X a (te C W ca)) (hb : PE X b (te C W cb)) (hc : PE X c (te C W cc)) (hm : lastMarks [op, op'] [b, c] = false := by with_unfolding_all rfl) : PE X (.Compare a [op, op'] [b, c] pos) (te C W (chain f g ca cb cc)) := by
  refine (pe_chain ho ho' ha hb hc hm).imp fun σ H Q ⟨env, st, B, e, rr, p⟩ => ?_
  subst e
  refine (seq rr p).mono fun v H1 ⟨x, st1, B1, e1, x1, r1, p1, k1⟩ => ?_
  subst e1
  refine (seq r1 k1).mono fun u H2 ⟨y, st2, B2, e2, x2, r2, p2, k2⟩ => ?_
  subst e2
  cases ef : f x y st2 with
  | none => unfold bnd lift at k2; rw [ef] at k2; exact k2.elim
  | some q =>
    obtain ⟨d, st3⟩ := q
    unfold bnd lift at k2
    rw [ef] at k2
    dsimp only at k2
    refine hf B2 st2 x y v u _ d st3 r2.h (p1.mono x2) p2 ef fun v' B3 x3 r3 q3 => ?_
    have rr3 := r2.of x3 r3
    split at k2
    · refine ⟨true, q3.bl_inv, ?_⟩
      rw [if_pos rfl]
      have k2 : post C W (fun B => Rep C B) σ env B2 Q (bnd cc (fun z => lift (g y z)) env st3) := k2
      refine (seq rr3 (k2.later x3)).mono fun w H4 ⟨z, st4, B4, e4, x4, r4, p4, k4⟩ => ?_
      subst e4
      obtain ⟨d', st', e, k⟩ := post_lift k4
      exact hg B4 st4 y z u w Q d' st' r4.h (p2.mono (x3.trans x4)) p4 e fun v' B' x' h' q => k v' B' x' (r4.of x' h') q
    · refine ⟨false, q3.bl_inv, ?_⟩
      rw [if_neg Bool.false_ne_true]
      exact k2 (.bl false) B3 x3 rr3 rep_bl
    · exact k2.elim
theorem e_le_le (ha : PE X a (te C W ca)) (hb : PE X b (te C W cb)) (hc : PE X c (te C W cc)) (hm : lastMarks [.LtE, .LtE] [b, c] = false := by with_unfolding_all rfl) : PE X (.Compare a [.LtE, .LtE] [b, c] pos) (te C W (chain opLe opLe ca cb cc)) := e_chain op_le op_le opCmp_ok opCmp_ok ha hb hc hm
theorem e_le_lt (ha : PE X a (te C W ca)) (hb : PE X b (te C W cb)) (hc : PE X c (te C W cc)) (hm : lastMarks [.LtE, .Lt] [b, c] = false := by with_unfolding_all rfl) : PE X (.Compare a [.LtE, .Lt] [b, c] pos) (te C W (chain opLe opLt ca cb cc)) := e_chain op_le op_lt opCmp_ok opCmp_ok ha hb hc hm

/-! ### tests -/
/-- a value that is True or False, as a test -/
def tst (c : M D) : M Bool := bnd c fun d => match d with
  | .bl b => ret b
  | _ => fun _ _ => .bad
def mnot (c : M Bool) : M Bool := bnd c fun b => ret !b
def mand (a b : M Bool) : M Bool := bnd a fun x => if x = true then b else ret false
def mor (a b : M Bool) : M Bool := bnd a fun x => if x = true then ret true else b
variable {ta' tb' : M Bool} {rest : List Expr}
theorem t_val {e : Expr} (h : PE X e (te C W ca)) (he : ∀ whole, isTrue e X.env whole = (do let v ← whole; standAt e.pos; holding [v] (truthy v)) := by intro _; rfl) : PT X e (tb C W (tst ca)) :=
  (pt_val h he).imp fun σ H Q ⟨env, st, B, e, rr, p⟩ => by
    subst e
    refine (seq rr p).mono fun v H1 ⟨x, st1, B1, e1, x1, r1, p1, k1⟩ => ?_
    subst e1
    split at k1
    · exact ⟨_, p1.bl_inv, k1 _ B1 (Ext.refl _ _) r1 rfl⟩
    · exact k1.elim
/-- a comparison as a test -/
theorem t_cmp {op : List CmpOp} {bs : List Expr} (h : PE X (.Compare a op bs pos) (te C W ca)) (ht : ∀ {t}, PE X (.Compare a op bs pos) t → PT X (.Compare a op bs pos) (tTest t)) : PT X (.Compare a op bs pos) (tb C W (tst ca)) :=
  (ht h).imp fun σ H Q ⟨env, st, B, e, rr, p⟩ => by
    subst e
    refine (seq rr p).mono fun v H1 ⟨x, st1, B1, e1, x1, r1, p1, k1⟩ => ?_
    subst e1
    split at k1
    · exact ⟨_, p1.bl_inv, k1 _ B1 (Ext.refl _ _) r1 rfl⟩
    · exact k1.elim
theorem t_not (h : PT X a (tb C W ta')) : PT X (.UnaryOp .Not a pos) (tb C W (mnot ta')) := (pt_not h).imp fun σ H Q ⟨env, st, B, e, rr, p⟩ => by
  subst e
  refine (seq rr p).mono fun v H1 ⟨x, st1, B1, e1, x1, r1, p1, k1⟩ => ?_
  subst e1
  subst p1
  exact k1 _ B1 (Ext.refl _ _) r1 rfl
theorem w_and1 (h : PT X a (tb C W ta')) : PW X (.BoolOp .And [a] pos) (tb C W ta') := pw_and1 h
theorem w_or1 (h : PT X a (tb C W ta')) : PW X (.BoolOp .Or [a] pos) (tb C W ta') := pw_or1 h
theorem w_and (ha : PT X a (tb C W ta')) (hb : PW X (.BoolOp .And (b :: rest) pos) (tb C W tb')) : PW X (.BoolOp .And (a :: b :: rest) pos) (tb C W (mand ta' tb')) := (pw_and ha hb).imp fun σ H Q ⟨env, st, B, e, rr, p⟩ => by
  subst e
  refine (seq rr p).mono fun v H1 ⟨x, st1, B1, e1, x1, r1, p1, k1⟩ => ?_
  subst e1
  subst p1
  cases x with
  | true => rw [if_pos rfl] at k1 ⊢; exact ⟨env, st1, B1, rfl, r1, k1⟩
  | false => rw [if_neg Bool.false_ne_true] at k1 ⊢; exact k1 _ B1 (Ext.refl _ _) r1 rfl
theorem w_or (ha : PT X a (tb C W ta')) (hb : PW X (.BoolOp .Or (b :: rest) pos) (tb C W tb')) : PW X (.BoolOp .Or (a :: b :: rest) pos) (tb C W (mor ta' tb')) := (pw_or ha hb).imp fun σ H Q ⟨env, st, B, e, rr, p⟩ => by
  subst e
  refine (seq rr p).mono fun v H1 ⟨x, st1, B1, e1, x1, r1, p1, k1⟩ => ?_
  subst e1
  subst p1
  cases x with
  | true => rw [if_pos rfl] at k1 ⊢; exact k1 _ B1 (Ext.refl _ _) r1 rfl
  | false => rw [if_neg Bool.false_ne_true] at k1 ⊢; exact ⟨env, st1, B1, rfl, r1, k1⟩
theorem t_w (h : PW X a (tb C W ta')) : PT X a (tb C W ta') := h.pt
/-- and, or as values: all but the last True or False -/
def vand (a b : M D) : M D := bnd a fun x => match x with
  | .bl true => b
  | .bl false => ret (.bl false)
  | _ => fun _ _ => .bad
def vor (a b : M D) : M D := bnd a fun x => match x with
  | .bl true => ret (.bl true)
  | .bl false => b
  | _ => fun _ _ => .bad
def vnot (a : M D) : M D := bnd a fun x => match x with
  | .bl b => ret (.bl !b)
  | _ => fun _ _ => .bad
theorem e_one {op} (h : PE X a (te C W ca)) : PE X (.BoolOp op [a] pos) (te C W ca) := pe_one h
theorem e_and (ha : PE X a (te C W ca)) (hb : PE X (.BoolOp .And (b :: rest) pos) (te C W cb)) : PE X (.BoolOp .And (a :: b :: rest) pos) (te C W (vand ca cb)) := (pe_and ha hb).imp fun σ H Q ⟨env, st, B, e, rr, p⟩ => by
  subst e
  refine (seq rr p).mono fun v H1 ⟨x, st1, B1, e1, x1, r1, p1, k1⟩ => ?_
  subst e1
  split at k1
  · refine ⟨true, p1.bl_inv, ?_⟩
    rw [if_pos rfl]; exact ⟨env, st1, B1, rfl, r1, k1⟩
  · refine ⟨false, p1.bl_inv, ?_⟩
    rw [if_neg Bool.false_ne_true]; exact k1 _ B1 (Ext.refl _ _) r1 rep_bl
  · exact k1.elim
theorem e_or (ha : PE X a (te C W ca)) (hb : PE X (.BoolOp .Or (b :: rest) pos) (te C W cb)) : PE X (.BoolOp .Or (a :: b :: rest) pos) (te C W (vor ca cb)) := (pe_or ha hb).imp fun σ H Q ⟨env, st, B, e, rr, p⟩ => by
  subst e
  refine (seq rr p).mono fun v H1 ⟨x, st1, B1, e1, x1, r1, p1, k1⟩ => ?_
  subst e1
  split at k1
  · refine ⟨true, p1.bl_inv, ?_⟩
    rw [if_pos rfl]; exact k1 _ B1 (Ext.refl _ _) r1 rep_bl
  · refine ⟨false, p1.bl_inv, ?_⟩
    rw [if_neg Bool.false_ne_true]; exact ⟨env, st1, B1, rfl, r1, k1⟩
  · exact k1.elim
theorem e_not (ha : PE X a (te C W ca)) : PE X (.UnaryOp .Not a pos) (te C W (vnot ca)) := (pe_not ha).imp fun σ H Q ⟨env, st, B, e, rr, p⟩ => by
  subst e
  refine (seq rr p).mono fun v H1 ⟨x, st1, B1, e1, x1, r1, p1, k1⟩ => ?_
  subst e1
  split at k1
  · exact ⟨_, p1.bl_inv, k1 _ B1 (Ext.refl _ _) r1 rep_bl⟩
  · exact k1.elim
def mif {α : Type} (t : M Bool) (a b : M α) : M α := bnd t fun x => if x = true then a else b
theorem e_if {t : Expr} (ht : PT X t (tb C W ta')) (ha : PE X a (te C W ca)) (hb : PE X b (te C W cb)) : PE X (.IfExp t a b pos) (te C W (mif ta' ca cb)) := (pe_ifExp ht ha hb).imp fun σ H Q ⟨env, st, B, e, rr, p⟩ => by
  subst e
  refine (seq rr p).mono fun v H1 ⟨x, st1, B1, e1, x1, r1, p1, k1⟩ => ?_
  subst e1
  subst p1
  cases x with
  | true => rw [if_pos rfl] at k1 ⊢; exact ⟨env, st1, B1, rfl, r1, k1⟩
  | false => rw [if_neg Bool.false_ne_true] at k1 ⊢; exact ⟨env, st1, B1, rfl, r1, k1⟩
end
end Ly
/-! Subscripts, slices, built-ins. -/
namespace Ly
open PySem PySem.Spec PyProof.Rows L2

/-! ### subscripts -/
theorem RepL.atI {C : Ctx} {B : Bd} {ds : List D} {vs : List V} {i : Int} {d : D} (h : RepL C B ds vs) (e : L2.atI ds i = some d) : ∃ v, L2.atI vs i = some v ∧ Rep C B d v := by
  unfold L2.atI at e ⊢
  rw [h.length]
  cases q : ixN ds.length i with
  | none => rw [q] at e; cases e
  | some j =>
    rw [q] at e
    exact h.get e
def opIx (x y : D) (st : Sto) : Option (D × Sto) := match y with
  | .int i => match x with
    | .tup xs => (atI xs i).map fun d => (d, st)
    | .str z => if z.length ≤ sizeLine then (atI z.cps.toList i).map fun c => (.str ⟨#[c]⟩, st) else none
    | x => (rdOf st x).bind fun xs => (atI xs i).map fun d => (d, st)
  | _ => none
theorem opIx_ok {C : Ctx} : BinOk C opIx (rIx C.K) := fun B st x y v u Q d st' R rx ry e k => by
  unfold opIx at e
  split at e
  · rename_i i
    rw [ry.int_inv]
    split at e
    · rename_i xs
      cases q : atI xs i with
      | none => rw [q] at e; cases e
      | some d' =>
        rw [q] at e; cases e
        obtain ⟨a, vs, rfl, hz, hq, t⟩ := rx.tup_inv
        obtain ⟨v', q2, r2⟩ := t.atI q
        exact .inr (.inl ⟨a, vs, i, v', rfl, rfl, hq, q2, k v' B (Ext.refl _ _) R r2⟩)
    · rename_i z
      split at e
      · rename_i hz
        cases q : atI z.cps.toList i with
        | none => rw [q] at e; cases e
        | some c =>
          rw [q] at e; cases e
          rw [rx.str_inv]
          exact .inr (.inr ⟨z, i, c, rfl, rfl, hz, q, k _ B (Ext.refl _ _) R rep_str⟩)
      · cases e
    · cases ex : rdOf st x with
      | none => rw [ex] at e; cases e
      | some xs =>
        rw [ex] at e
        cases q : atI xs i with
        | none => rw [Option.bind_some, q] at e; cases e
        | some d' =>
          rw [Option.bind_some, q] at e; cases e
          obtain ⟨a, vs, rfl, hq, hz, t⟩ := rdOf_rep R ex rx
          obtain ⟨v', q2, r2⟩ := t.atI q
          exact .inl ⟨a, vs, i, v', rfl, rfl, hq, q2, k v' B (Ext.refl _ _) R r2⟩
  · cases e
def cut {α : Type} (xs : List α) (lo hi : Option Int) : List α := (xs.drop (HT.sIx xs.length 0 lo)).take (HT.sIx xs.length xs.length hi - HT.sIx xs.length 0 lo)
theorem RepL.cut {C : Ctx} {B : Bd} {ds : List D} {vs : List V} (h : RepL C B ds vs) (lo hi : Option Int) : RepL C B (cut ds lo hi) (cutV vs lo hi) := by
  unfold Ly.cut cutV
  rw [h.length]
  exact (h.drop _).take _
theorem cut_length {α : Type} (xs : List α) (lo hi : Option Int) : (cut xs lo hi).length ≤ xs.length := by
  unfold cut
  rw [List.length_take, List.length_drop]; omega
def slN (lo hi : Option Int) (x : D) (st : Sto) : Option (List D × Sto) := (rdOf st x).map fun xs => (cut xs lo hi, st)
def opSl (lo hi : Option Int) (x : D) (st : Sto) : Option (D × Sto) := match x with
  | .tup xs => some (.tup (cut xs lo hi), st)
  | .str z => if z.length ≤ sizeLine then some (.str (cutS z lo hi), st) else none
  | x => (rdOf st x).map fun xs => (.lst (cut xs lo hi), st)
abbrev rSlAll (K : PySem.W.Frag) : V → Option Int → Option Int → Hp → VK → Prop := fun x lo hi H Q => rSlL K x lo hi H Q ∨ rSlA K x lo hi H Q ∨ rSlS x lo hi H Q
theorem slN_ok {C : Ctx} {lo hi : Option Int} {B : Bd} {st : Sto} {x : D} {v : V} {Q : VK} {ds : List D} {st' : Sto} (R : RelH C B st) (rx : Rep C B x v) (e : slN lo hi x st = some (ds, st'))
    (k : ∀ v' B', Ext C B B' → RelH C B' st' → repN C B' ds v' → Q v' B'.H) : rSlL C.K v lo hi B.H Q := by
  unfold slN at e
  cases ex : rdOf st x with
  | none => rw [ex] at e; cases e
  | some xs =>
    rw [ex] at e; cases e
    obtain ⟨a, vs, rfl, hq, hz, t⟩ := rdOf_rep R ex rx
    refine ⟨a, vs, rfl, hq, fun p hp => ?_⟩
    obtain ⟨x2, r2, q⟩ := new_list R hp (Nat.le_trans (cutV_length vs lo hi) hz) (t.cut lo hi)
    exact k (.ref p) _ x2 r2 q
theorem opSl_ok {C : Ctx} {lo hi : Option Int} {B : Bd} {st : Sto} {x : D} {v : V} {Q : VK} {d : D} {st' : Sto} (R : RelH C B st) (rx : Rep C B x v) (e : opSl lo hi x st = some (d, st'))
    (k : ∀ v' B', Ext C B B' → RelH C B' st' → Rep C B' d v' → Q v' B'.H) : rSlAll C.K v lo hi B.H Q := by
  unfold opSl at e
  split at e
  · rename_i xs
    cases e
    obtain ⟨a, vs, rfl, hz, hq, t⟩ := rx.tup_inv
    refine .inr (.inl ⟨a, vs, rfl, hq, fun h => ?_, fun h p hp => ?_⟩)
    · have e2 : cut xs lo hi = xs := by
        unfold cut
        rw [← t.length, h.1, h.2]
        rw [List.drop_zero, Nat.sub_zero, t.length, List.take_length]
      rw [e2] at k
      exact k _ B (Ext.refl _ _) R rx
    · obtain ⟨x2, r2, q⟩ := new_tuple R hp (Nat.le_trans (cutV_length vs lo hi) hz) (t.cut lo hi)
      exact k (.ref p) _ x2 r2 q
  · split at e
    · rename_i hz
      cases e
      rw [rx.str_inv]
      exact .inr (.inr ⟨_, rfl, hz, k _ B (Ext.refl _ _) R rep_str⟩)
    · cases e
  · cases ex : rdOf st x with
    | none => rw [ex] at e; cases e
    | some xs =>
      rw [ex] at e; cases e
      refine .inl (slN_ok R rx (by unfold slN; rw [ex]; rfl) fun v' B' x' r' q => ?_)
      obtain ⟨B2, e2, x2, r2, q2⟩ := q.tree r'
      rw [← e2]
      exact k v' B2 (x'.trans x2) r2 q2
section
variable {X : Cx} {C : Ctx} {W : WX} {a b c : Expr} {ca cb cc : M D} {pos p2 : Pos}
theorem e_ix (hK : C.K = X.K := by rfl) (ha : PE X a (te C W ca)) (hb : PE X b (te C W cb)) (hs : PlainIx b := by exact fun _ _ => rfl) : PE X (.Subscript a b pos) (te C W (bin opIx ca cb)) := (pe_ix (hK ▸ ix_seq) ha hb hs).imp (bin_rd (opIx_ok))
/-- a slice's part -/
def part (c : M D) : M (Option Int) := bnd c fun d => match d with
  | .int i => ret (some i)
  | _ => fun _ _ => .bad
theorem o_none : PO X none (to C W (ret none)) := po_none.imp fun σ H Q ⟨env, st, B, e, r, p⟩ => by
  subst e
  exact p _ B (Ext.refl _ _) r rfl
theorem o_some (h : PE X a (te C W ca)) : PO X (some a) (to C W (part ca)) := (po_some h).imp fun σ H Q ⟨env, st, B, e, r, p⟩ => by
  subst e
  refine (seq r p).mono fun v H1 ⟨x, st1, B1, e1, x1, r1, p1, k1⟩ => ?_
  subst e1
  split at k1
  · exact ⟨_, p1.int_inv, k1 _ B1 (Ext.refl _ _) r1 rfl⟩
  · exact k1.elim
def slice {α : Type} (f : Option Int → Option Int → D → Sto → Option (α × Sto)) (a : M D) (l h : M (Option Int)) : M α := bnd a fun x => bnd l fun lo => bnd h fun hi => lift (f lo hi x)
variable {lo hi : Option Expr} {cl ch : M (Option Int)}
theorem e_slice (hK : C.K = X.K := by rfl) (ha : PE X a (te C W ca)) (hl : PO X lo (to C W cl)) (hh : PO X hi (to C W ch)) : PE X (.Subscript a (.Slice lo hi none p2) pos) (te C W (slice opSl ca cl ch)) :=
  (pe_slice (sl_list.or (sl_tupA.or sl_str)) ha hl hh).imp fun σ H Q ⟨env, st, B, e, r, p⟩ => by
    subst e
    refine (seq r p).mono fun v H1 ⟨x, st1, B1, e1, x1, r1, p1, k1⟩ => ?_
    subst e1
    refine (seq r1 k1).mono fun l H2 ⟨l', st2, B2, e2, x2, r2, p2, k2⟩ => ?_
    subst e2
    subst p2
    refine (seq r2 k2).mono fun h H3 ⟨h', st3, B3, e3, x3, r3, p3, k3⟩ => ?_
    subst e3
    subst p3
    obtain ⟨d, st', e, k⟩ := post_lift k3
    rw [← hK]
    exact opSl_ok r3.h (p1.mono (x2.trans x3)) e fun v' B' x' h' q => k v' B' x' (r3.of x' h') q
theorem n_slice (hK : C.K = X.K := by rfl) (ha : PE X a (te C W ca)) (hl : PO X lo (to C W cl)) (hh : PO X hi (to C W ch)) : PE X (.Subscript a (.Slice lo hi none p2) pos) (tn C W (slice slN ca cl ch)) :=
  (pe_slice sl_list ha hl hh).imp fun σ H Q ⟨env, st, B, e, r, p⟩ => by
    subst e
    refine (seq r p).mono fun v H1 ⟨x, st1, B1, e1, x1, r1, p1, k1⟩ => ?_
    subst e1
    refine (seq r1 k1).mono fun l H2 ⟨l', st2, B2, e2, x2, r2, p2, k2⟩ => ?_
    subst e2
    subst p2
    refine (seq r2 k2).mono fun h H3 ⟨h', st3, B3, e3, x3, r3, p3, k3⟩ => ?_
    subst e3
    subst p3
    obtain ⟨d, st', e, k⟩ := post_lift k3
    rw [← hK]
    exact slN_ok r3.h (p1.mono (x2.trans x3)) e fun v' B' x' h' q => k v' B' x' (r3.of x' h') q
end

/-! ### built-ins of one list -/
/-- a list, a tuple -/
def seqOf (st : Sto) : D → Option (List D)
  | .tup xs => some xs
  | d => rdOf st d
theorem seqOf_rep {C : Ctx} {B : Bd} {st : Sto} {d : D} {v : V} {ds : List D} (R : RelH C B st) (h : seqOf st d = some ds) (r : Rep C B d v) :
    ∃ a vs, v = .ref a ∧ (SqL C.K B.H a vs ∨ SqT C.K B.H a vs) ∧ vs.length ≤ sizeLine ∧ RepL C B ds vs := by
  unfold seqOf at h
  split at h
  · cases h
    obtain ⟨a, vs, e, hz, q, t⟩ := r.tup_inv
    exact ⟨a, vs, e, .inr q, hz, t⟩
  · obtain ⟨a, vs, e, q, hz, t⟩ := rdOf_rep R h r
    exact ⟨a, vs, e, .inl q, hz, t⟩
def fLen : List D → Sto → Option (D × Sto)
  | [.str z], st => if z.length ≤ sizeLine then some (.int z.length, st) else none
  | [x], st => (seqOf st x).map fun xs => (.int xs.length, st)
  | _, _ => none
theorem fLen_ok {C : Ctx} : CallOk C fLen (fun xs H Q => ∃ x n, xs = [x] ∧ LenV C.K x H n ∧ Q (.int n) H) := fun B st xs vs Q d st' R r e k => by
  unfold fLen at e
  split at e
  · split at e
    · rename_i z hz
      cases e
      obtain ⟨v, t, rfl, q, h⟩ := r.cons_inv
      rw [h.nil_inv, q.str_inv]
      exact ⟨_, z.length, rfl, ⟨hz, rfl⟩, k _ B (Ext.refl _ _) R rep_int⟩
    · cases e
  · rename_i x _
    cases ex : seqOf st x with
    | none => rw [ex] at e; cases e
    | some ds =>
      rw [ex] at e; cases e
      obtain ⟨v, t, rfl, q, h⟩ := r.cons_inv
      rw [h.nil_inv]
      obtain ⟨a, us, rfl, hq, hz, rl⟩ := seqOf_rep R ex q
      refine ⟨_, us.length, rfl, ?_, ?_⟩
      · rcases hq with hq | hq
        · exact .inl ⟨us, hq, rfl⟩
        · exact .inr ⟨us, hq, rfl⟩
      · rw [rl.length]; exact k _ B (Ext.refl _ _) R rep_int
  · cases e
/-- the ints of a list, its bools, its texts -/
def intsOf : List D → Option (List Int)
  | [] => some []
  | .int i :: r => (intsOf r).map (i :: ·)
  | _ => none
theorem intsOf_map (ns : List Int) : intsOf (ns.map D.int) = some ns := by
  induction ns with
  | nil => rfl
  | cons n r ih => rw [List.map_cons, intsOf, ih]; rfl
theorem intsOf_eq : ∀ {ds : List D} {ns : List Int}, intsOf ds = some ns → ds = ns.map D.int
  | [], ns, h => by unfold intsOf at h; cases h; rfl
  | d :: ds, ns, h => by
    unfold intsOf at h
    split at h
    · rename_i e; cases e
    · rename_i i r e
      cases e
      cases q : intsOf ds with
      | none => rw [q] at h; cases h
      | some ms => rw [q] at h; cases h; rw [List.map_cons, intsOf_eq q]
    · cases h
def blsOf : List D → Option (List Bool)
  | [] => some []
  | .bl i :: r => (blsOf r).map (i :: ·)
  | _ => none
theorem blsOf_map (ns : List Bool) : blsOf (ns.map D.bl) = some ns := by
  induction ns with
  | nil => rfl
  | cons n r ih => rw [List.map_cons, blsOf, ih]; rfl
theorem blsOf_eq : ∀ {ds : List D} {ns : List Bool}, blsOf ds = some ns → ds = ns.map D.bl
  | [], ns, h => by unfold blsOf at h; cases h; rfl
  | d :: ds, ns, h => by
    unfold blsOf at h
    split at h
    · rename_i e; cases e
    · rename_i i r e
      cases e
      cases q : blsOf ds with
      | none => rw [q] at h; cases h
      | some ms => rw [q] at h; cases h; rw [List.map_cons, blsOf_eq q]
    · cases h
/-- a function of a list's ints -/
def fInts (g : List Int → Option Int) : List D → Sto → Option (D × Sto)
  | [x], st => (rdOf st x).bind fun xs => (intsOf xs).bind fun ns => (g ns).map fun i => (.int i, st)
  | _, _ => none
def fBls (g : List Bool → Bool) : List D → Sto → Option (D × Sto)
  | [x], st => (rdOf st x).bind fun xs => (blsOf xs).map fun ns => (.bl (g ns), st)
  | _, _ => none
theorem fInts_inv {C : Ctx} {g : List Int → Option Int} {B : Bd} {st : Sto} {xs : List D} {vs : List V} {d : D} {st' : Sto} (R : RelH C B st) (r : RepL C B xs vs) (e : fInts g xs st = some (d, st')) :
    ∃ a ns i, vs = [.ref a] ∧ SqL C.K B.H a (ns.map V.int) ∧ g ns = some i ∧ d = .int i ∧ st' = st := by
  unfold fInts at e
  split at e
  · rename_i x
    cases ex : rdOf st x with
    | none => rw [ex] at e; cases e
    | some ds =>
      cases ei : intsOf ds with
      | none => rw [ex, Option.bind_some, ei] at e; cases e
      | some ns =>
        cases eg : g ns with
        | none => rw [ex, Option.bind_some, ei, Option.bind_some, eg] at e; cases e
        | some i =>
          rw [ex, Option.bind_some, ei, Option.bind_some, eg] at e; cases e
          obtain ⟨v, t, rfl, q, h⟩ := r.cons_inv
          rw [h.nil_inv]
          obtain ⟨a, us, rfl, hq, hz, rl⟩ := rdOf_rep R ex q
          rw [intsOf_eq ei] at rl
          rw [rl.ints] at hq
          exact ⟨a, ns, i, rfl, hq, eg, rfl, rfl⟩
  · cases e
theorem fBls_inv {C : Ctx} {g : List Bool → Bool} {B : Bd} {st : Sto} {xs : List D} {vs : List V} {d : D} {st' : Sto} (R : RelH C B st) (r : RepL C B xs vs) (e : fBls g xs st = some (d, st')) :
    ∃ a ns, vs = [.ref a] ∧ SqL C.K B.H a (ns.map V.bl) ∧ d = .bl (g ns) ∧ st' = st := by
  unfold fBls at e
  split at e
  · rename_i x
    cases ex : rdOf st x with
    | none => rw [ex] at e; cases e
    | some ds =>
      cases ei : blsOf ds with
      | none => rw [ex, Option.bind_some, ei] at e; cases e
      | some ns =>
        rw [ex, Option.bind_some, ei] at e; cases e
        obtain ⟨v, t, rfl, q, h⟩ := r.cons_inv
        rw [h.nil_inv]
        obtain ⟨a, us, rfl, hq, hz, rl⟩ := rdOf_rep R ex q
        rw [blsOf_eq ei] at rl
        rw [rl.bls] at hq
        exact ⟨a, ns, rfl, hq, rfl, rfl⟩
  · cases e
abbrev fSumL := fInts fun ns => some ns.sum
/-- the greatest, the least, of what is not empty -/
def maxI : List Int → Option Int
  | [] => none
  | x :: xs => some (xs.foldl (fun a b => if b > a then b else a) x)
def minI : List Int → Option Int
  | [] => none
  | x :: xs => some (xs.foldl (fun a b => if b < a then b else a) x)
theorem foldMax (xs : List Int) : ∀ x : Int, (xs.foldl (fun a b => if b > a then b else a) x) ∈ x :: xs ∧ ∀ y ∈ x :: xs, y ≤ xs.foldl (fun a b => if b > a then b else a) x := by
  induction xs with
  | nil => intro x; simp
  | cons a r ih =>
    intro x
    rw [List.foldl_cons]
    obtain ⟨h1, h2⟩ := ih (if a > x then a else x)
    refine ⟨?_, fun y hy => ?_⟩
    · rcases List.mem_cons.mp h1 with h | h
      · rw [h]; split <;> simp
      · exact List.mem_cons_of_mem _ (List.mem_cons_of_mem _ h)
    · have h3 := h2 (if a > x then a else x) List.mem_cons_self
      rcases List.mem_cons.mp hy with h | h
      · subst h; split at h3 <;> rename_i c <;> simp only [c, if_true, if_false] at h3 ⊢ <;> omega
      · rcases List.mem_cons.mp h with h | h
        · subst h; split at h3 <;> rename_i c <;> simp only [c, if_true, if_false] at h3 ⊢ <;> omega
        · exact h2 y (List.mem_cons_of_mem _ h)
theorem foldMin (xs : List Int) : ∀ x : Int, (xs.foldl (fun a b => if b < a then b else a) x) ∈ x :: xs ∧ ∀ y ∈ x :: xs, xs.foldl (fun a b => if b < a then b else a) x ≤ y := by
  induction xs with
  | nil => intro x; simp
  | cons a r ih =>
    intro x
    rw [List.foldl_cons]
    obtain ⟨h1, h2⟩ := ih (if a < x then a else x)
    refine ⟨?_, fun y hy => ?_⟩
    · rcases List.mem_cons.mp h1 with h | h
      · rw [h]; split <;> simp
      · exact List.mem_cons_of_mem _ (List.mem_cons_of_mem _ h)
    · have h3 := h2 (if a < x then a else x) List.mem_cons_self
      rcases List.mem_cons.mp hy with h | h
      · subst h; split at h3 <;> rename_i c <;> simp only [c, if_true, if_false] at h3 ⊢ <;> omega
      · rcases List.mem_cons.mp h with h | h
        · subst h; split at h3 <;> rename_i c <;> simp only [c, if_true, if_false] at h3 ⊢ <;> omega
        · exact h2 y (List.mem_cons_of_mem _ h)
theorem maxI_spec {ns : List Int} {i : Int} (h : maxI ns = some i) : i ∈ ns ∧ ∀ y ∈ ns, y ≤ i := by
  cases ns with
  | nil => cases h
  | cons x xs => unfold maxI at h; cases h; exact foldMax xs x
theorem minI_spec {ns : List Int} {i : Int} (h : minI ns = some i) : i ∈ ns ∧ ∀ y ∈ ns, i ≤ y := by
  cases ns with
  | nil => cases h
  | cons x xs => unfold minI at h; cases h; exact foldMin xs x
theorem fSumL_ok {C : Ctx} : CallOk C fSumL (rSum C.K) := fun B st xs vs Q d st' R r e k => by
  obtain ⟨a, ns, i, rfl, hq, eg, rfl, rfl⟩ := fInts_inv R r e
  cases eg
  exact ⟨a, ns, rfl, hq, k _ B (Ext.refl _ _) R rep_int⟩
def fMax : List D → Sto → Option (D × Sto)
  | [.int i, .int j], st => some (.int (if j > i then j else i), st)
  | xs, st => fInts maxI xs st
def fMin : List D → Sto → Option (D × Sto)
  | [.int i, .int j], st => some (.int (if j < i then j else i), st)
  | xs, st => fInts minI xs st
theorem fMax_ok {C : Ctx} : CallOk C fMax (fun xs H Q => (∃ i j, xs = [.int i, .int j] ∧ Q (.int (if j > i then j else i)) H) ∨ rMax C.K xs H Q) := fun B st xs vs Q d st' R r e k => by
  unfold fMax at e
  split at e
  · cases e
    obtain ⟨v, t, rfl, q, h⟩ := r.cons_inv
    obtain ⟨v2, t2, rfl, q2, h2⟩ := h.cons_inv
    rw [h2.nil_inv, q.int_inv, q2.int_inv]
    exact .inl ⟨_, _, rfl, k _ B (Ext.refl _ _) R rep_int⟩
  · obtain ⟨a, ns, i, rfl, hq, eg, rfl, rfl⟩ := fInts_inv R r e
    obtain ⟨m1, m2⟩ := maxI_spec eg
    refine .inr ⟨a, ns, rfl, hq, List.length_pos_of_mem m1, fun m hm hle => ?_⟩
    have : m = i := Int.le_antisymm (m2 m hm) (hle i m1)
    subst this
    exact k _ B (Ext.refl _ _) R rep_int
theorem fMin_ok {C : Ctx} : CallOk C fMin (fun xs H Q => (∃ i j, xs = [.int i, .int j] ∧ Q (.int (if j < i then j else i)) H) ∨ rMin C.K xs H Q) := fun B st xs vs Q d st' R r e k => by
  unfold fMin at e
  split at e
  · cases e
    obtain ⟨v, t, rfl, q, h⟩ := r.cons_inv
    obtain ⟨v2, t2, rfl, q2, h2⟩ := h.cons_inv
    rw [h2.nil_inv, q.int_inv, q2.int_inv]
    exact .inl ⟨_, _, rfl, k _ B (Ext.refl _ _) R rep_int⟩
  · obtain ⟨a, ns, i, rfl, hq, eg, rfl, rfl⟩ := fInts_inv R r e
    obtain ⟨m1, m2⟩ := minI_spec eg
    refine .inr ⟨a, ns, rfl, hq, List.length_pos_of_mem m1, fun m hm hle => ?_⟩
    have : m = i := Int.le_antisymm (hle i m1) (m2 m hm)
    subst this
    exact k _ B (Ext.refl _ _) R rep_int
abbrev fAll := fBls fun bs => bs.all id
abbrev fAny := fBls fun bs => bs.any id
theorem fAll_ok {C : Ctx} : CallOk C fAll (rAll C.K) := fun B st xs vs Q d st' R r e k => by
  obtain ⟨a, ns, rfl, hq, rfl, rfl⟩ := fBls_inv R r e
  exact ⟨a, ns, rfl, hq, k _ B (Ext.refl _ _) R rep_bl⟩
theorem fAny_ok {C : Ctx} : CallOk C fAny (rAny C.K) := fun B st xs vs Q d st' R r e k => by
  obtain ⟨a, ns, rfl, hq, rfl, rfl⟩ := fBls_inv R r e
  exact ⟨a, ns, rfl, hq, k _ B (Ext.refl _ _) R rep_bl⟩
def fList : List D → Sto → Option (List D × Sto)
  | [x], st => (seqOf st x).map fun xs => (xs, st)
  | _, _ => none
theorem fList_ok {C : Ctx} : CallOkN C fList (fun xs H Q => ∃ p ys, xs = [.ref p] ∧ (SqL C.K H p ys ∨ SqT C.K H p ys) ∧ ∀ l, H l = none → Q (.ref l) (upd H l (.lst ys))) := fun B st xs vs Q d st' R r e k => by
  unfold fList at e
  split at e
  · rename_i x
    cases ex : seqOf st x with
    | none => rw [ex] at e; cases e
    | some ds =>
      rw [ex] at e; cases e
      obtain ⟨v, t, rfl, q, h⟩ := r.cons_inv
      rw [h.nil_inv]
      obtain ⟨a, us, rfl, hq, hz, rl⟩ := seqOf_rep R ex q
      refine ⟨a, us, rfl, hq, fun p hp => ?_⟩
      obtain ⟨x2, r2, q⟩ := new_list R hp hz rl
      exact k (.ref p) _ x2 r2 q
  · cases e
def fTuple : List D → Sto → Option (D × Sto)
  | [x], st => (seqOf st x).map fun xs => (.tup xs, st)
  | _, _ => none
theorem fTuple_ok {C : Ctx} : CallOk C fTuple (fun xs H Q => ∃ p ys, xs = [.ref p] ∧ ((SqL C.K H p ys ∧ ∀ l, H l = none → Q (.ref l) (upd H l (.tup ys))) ∨ (SqT C.K H p ys ∧ Q (.ref p) H))) := fun B st xs vs Q d st' R r e k => by
  unfold fTuple at e
  split at e
  · rename_i x
    cases ex : seqOf st x with
    | none => rw [ex] at e; cases e
    | some ds =>
      rw [ex] at e; cases e
      obtain ⟨v, t, rfl, q, h⟩ := r.cons_inv
      rw [h.nil_inv]
      obtain ⟨a, us, rfl, hq, hz, rl⟩ := seqOf_rep R ex q
      refine ⟨a, us, rfl, ?_⟩
      rcases hq with hq | hq
      · refine .inl ⟨hq, fun p hp => ?_⟩
        obtain ⟨x2, r2, q⟩ := new_tuple R hp hz rl
        exact k (.ref p) _ x2 r2 q
      · exact .inr ⟨hq, k _ B (Ext.refl _ _) R (rep_tup hz hq rl)⟩
  · cases e
/-- list(range(a, b)) is by another rule -/
def fIntOf : List D → Sto → Option (D × Sto)
  | [.int i], st => some (.int i, st)
  | [.bl b], st => some (.int (if b then 1 else 0), st)
  | _, _ => none
theorem fIntOf_ok {C : Ctx} : CallOk C fIntOf (fun xs H Q => (∃ i, xs = [.int i] ∧ Q (.int i) H) ∨ ∃ k, xs = [.bl k] ∧ Q (.int (if k then 1 else 0)) H) := fun B st xs vs Q d st' R r e k => by
  unfold fIntOf at e
  split at e
  · cases e
    obtain ⟨v, t, rfl, q, h⟩ := r.cons_inv
    rw [h.nil_inv, q.int_inv]
    exact .inl ⟨_, rfl, k _ B (Ext.refl _ _) R rep_int⟩
  · cases e
    obtain ⟨v, t, rfl, q, h⟩ := r.cons_inv
    rw [h.nil_inv, q.bl_inv]
    exact .inr ⟨_, rfl, k _ B (Ext.refl _ _) R rep_int⟩
  · cases e

/-! ### isinstance -/
/-- the built-in type of a value -/
def tyN (st : Sto) : D → Option String
  | .non => some "NoneType"
  | .bl _ => some "bool"
  | .int _ => some "int"
  | .str _ => some "str"
  | .tup _ => some "tuple"
  | .lst _ => some "list"
  | .dic _ _ => some "dict"
  | .scr _ => some "list"
  | .ref i => match st[i]? with
    | some (.lst _) => some "list"
    | some (.dct _ _) => some "dict"
    | some (.dtt _ _) => some "dict"
    | _ => none
  | .exc _ => none
def isTy (t c : String) : Bool := (t == c) || (t == "bool" && c == "int")
def tyNames : List String := ["NoneType", "bool", "int", "str", "tuple", "list", "dict"]
def clNames : List String := ["bool", "int", "str", "tuple", "list", "dict"]
theorem kit_all : ∀ t ∈ tyNames, ∀ c ∈ clNames, kitB t c = some (isTy t c) := by decide +kernel
theorem tyN_mem {st : Sto} {d : D} {t : String} (h : tyN st d = some t) : t ∈ tyNames := by
  unfold tyN at h
  split at h <;> first | (cases h; done) | (cases h; simp [tyNames]; done) | skip
  · split at h <;> first | (cases h; simp [tyNames]; done) | cases h
theorem tyN_tyX {C : Ctx} {B : Bd} {st : Sto} {d : D} {v : V} {t : String} (R : RelH C B st) (h : tyN st d = some t) (r : Rep C B d v) : TyX C.K B.H v (.type t) := by
  have tup : ∀ {a vs}, SqT C.K B.H a vs → TyX C.K B.H (.ref a) (.type "tuple") := fun {a vs} q => by
    rcases q with (q | ⟨o, q⟩) | ⟨o, its, n, q, c, _⟩
    · exact .base (.tup q)
    · exact .fTuple q
    · exact .kTuple q c
  have lst : ∀ {a vs}, SqL C.K B.H a vs → TyX C.K B.H (.ref a) (.type "list") := fun {a vs} q => by
    rcases q with (q | ⟨o, q⟩) | ⟨o, its, n, q, c, _⟩
    · exact .base (.lst q)
    · exact .base (.frz q)
    · exact .kList q c
  cases d with
  | non => cases h; rw [r.non_inv]; exact .base .non
  | bl b => cases h; rw [r.bl_inv]; exact .base (.bl _)
  | int b => cases h; rw [r.int_inv]; exact .base (.int _)
  | str b => cases h; rw [r.str_inv]; exact .base (.str _)
  | tup b => cases h; obtain ⟨a, vs, rfl, hz, q, _⟩ := r.tup_inv; exact tup q
  | lst b => cases h; obtain ⟨a, vs, rfl, q, _⟩ := lstOf_rep R (d := .lst b) rfl r; exact lst (SqL.of q)
  | dic k b => cases h; unfold Rep at r; obtain ⟨a, kvs, rfl, _, q, _⟩ := r; exact .base (.dK q)
  | scr ns => cases h; unfold Rep at r; obtain ⟨rfl, rfl⟩ := r; exact lst R.scr.sq
  | exc c => cases h
  | ref i =>
    obtain ⟨a, hm, rfl⟩ := r.ref_inv
    obtain ⟨c, hc, q⟩ := R.at hm
    unfold tyN at h
    dsimp only at h
    rw [hc] at h
    cases c with
    | lst ds => cases h; obtain ⟨vs, q, _⟩ := q; exact .base (.lst q)
    | ins c ks ds => cases h
    | dct ks ds => cases h; obtain ⟨vs, q, _⟩ := q; exact .base (.dK q)
    | dtt ks ds => cases h; obtain ⟨vs, q, _⟩ := q; exact .base (.dT q)
def opIsi (cs : List String) (x : D) (st : Sto) : Option (D × Sto) := (tyN st x).map fun t => (.bl (cs.any (isTy t)), st)
theorem kitAny_all {K : PySem.W.Frag} {t : String} (ht : t ∈ tyNames) : ∀ cs : List String, (∀ c ∈ cs, c ∈ clNames) → PySem.W.kitAny K (.type t) (cs.map Value.type) = some (cs.any (isTy t))
  | [], _ => kitAny_nil
  | c :: cs, h => by
    have h1 := kit_ty (K := K) (kit_all t ht c (h c List.mem_cons_self))
    have ih := kitAny_all (K := K) ht cs fun d hd => h d (List.mem_cons_of_mem _ hd)
    rw [List.map_cons, List.any_cons]
    refine kitAny_cons h1 (fun e => ?_) (fun e => ?_)
    · rw [ih, e]; rfl
    · rw [e]; rfl
section
variable {X : Cx} {C : Ctx} {W : WX} {a b c : Expr} {ca cb cc : M D} {pos p p2 p3 : Pos}
/-- isinstance(a, T) -/
theorem e_isi {T : Str} {t : String} (hK : C.K = X.K := by rfl) (hg : Gl X "isinstance") (hm : X.mg "isinstance" = none) (hgT : Gl X T) (hmT : X.mg T = none) (hv : bootBuiltins T = some (.type t)) (ht : t ∈ clNames) (hn : T ≠ "__name__") (hd : (T == ("__debug__" : Str)) = false)
    (ha : PE X a (te C W ca)) (hs : starEach [a, .Name T p2] X.env = (false, eval a X.env) :: starEach [.Name T p2] X.env := by rfl) (hpl : (backTo pos (starEach [.Name T p2] X.env)).any (·.1) = false := by rfl) :
    PE X (.Call (.Name "isinstance" p) [a, .Name T p2] [] pos) (te C W (un (opIsi [t]) ca)) := by
  refine (pe_callB (call_isi (X := X)) hg hm (by decide +kernel) (pa_cons ha (pa_cons (pe_bltn (v := .ty t) hgT hmT hv rfl hn hd) pa_nil) hs) (by decide) (by decide) hs hpl).imp fun σ H Q ⟨env, st, B, e, r, p⟩ => ?_
  subst e
  refine (seq r p).mono fun v H1 ⟨x, st1, B1, e1, x1, r1, p1, k1⟩ => ?_
  subst e1
  obtain ⟨d, st', e, k⟩ := post_lift k1
  unfold opIsi at e
  cases et : tyN st1 x with
  | none => rw [et] at e; cases e
  | some tt =>
    rw [et] at e; cases e
    refine ⟨v, .ty t, .type tt, .type t, _, rfl, .ty t, hK ▸ tyN_tyX r1.h et p1, kit_ty (kit_all tt (tyN_mem et) t ht), ?_⟩
    have := k (.bl (isTy tt t)) B1 (Ext.refl _ _) r1 (by rw [List.any_cons, List.any_nil, Bool.or_false]; exact rep_bl)
    exact this
/-- isinstance(a, (T1, T2)) -/
theorem e_isi2 {T T' : Str} {t t' : String} {k : Nat} {p4 : Pos} (hK : C.K = X.K := by rfl) (hg : Gl X "isinstance") (hm : X.mg "isinstance" = none) (hgT : Gl X T) (hmT : X.mg T = none) (hv : bootBuiltins T = some (.type t)) (ht : t ∈ clNames) (hn : T ≠ "__name__") (hd : (T == ("__debug__" : Str)) = false)
    (hgT' : Gl X T') (hmT' : X.mg T' = none) (hv' : bootBuiltins T' = some (.type t')) (ht' : t' ∈ clNames) (hn' : T' ≠ "__name__") (hd' : (T' == ("__debug__" : Str)) = false)
    (ha : PE X a (te C W ca)) (hs : starEach [a, .Tuple [.Name T p2, .Name T' p3] k p4] X.env = (false, eval a X.env) :: starEach [.Tuple [.Name T p2, .Name T' p3] k p4] X.env := by rfl) (hpl : (backTo pos (starEach [.Tuple [.Name T p2, .Name T' p3] k p4] X.env)).any (·.1) = false := by rfl)  :
    PE X (.Call (.Name "isinstance" p) [a, .Tuple [.Name T p2, .Name T' p3] k p4] [] pos) (te C W (un (opIsi [t, t']) ca)) := by
  refine (pe_callB (call_isiT (X := X)) hg hm (by decide +kernel) (pa_cons ha (pa_cons (pe_tup (pa_cons (pe_bltn (v := .ty t) hgT hmT hv rfl hn hd) (pa_cons (pe_bltn (v := .ty t') hgT' hmT' hv' rfl hn' hd') pa_nil))) pa_nil) hs) (by decide) (by decide) hs hpl).imp fun σ H Q ⟨env, st, B, e, r, p⟩ => ?_
  subst e
  refine (seq r p).mono fun v H1 ⟨x, st1, B1, e1, x1, r1, p1, k1⟩ => ?_
  subst e1
  obtain ⟨d, st', e, k⟩ := post_lift k1
  unfold opIsi at e
  cases et : tyN st1 x with
  | none => rw [et] at e; cases e
  | some tt =>
    rw [et] at e; cases e
    refine ⟨by show 2 ≤ sizeLine; decide, fun p hp => ?_⟩
    obtain ⟨x2, r2⟩ := r1.h.new (o := .tup [.ty t, .ty t']) hp
    refine ⟨v, p, [.ty t, .ty t'], .type tt, [.type t, .type t'], _, rfl, upd_same, .cons (.ty t) (.cons (.ty t') .nil), hK ▸ tyN_tyX r2 et (p1.mono x2), kitAny_all (tyN_mem et) [t, t'] (fun c hc => ?_), k _ _ x2 (r1.of x2 r2) rep_bl⟩
    rcases List.mem_cons.mp hc with h | h
    · rw [h]; exact ht
    · rw [List.mem_singleton.mp h]; exact ht'
/-! ### the calls' rules -/
variable {e : Expr} {es : List Expr} {as : M (List D)} {x : Str}
theorem e_callB {id : String} {f : List D → Sto → Option (D × Sto)} {r : List V → Hp → VK → Prop} (hc : CallR X (.builtin id) r) (hf : CallOk C f r) (hg : Gl X x) (hm : X.mg x = none) (hv : bootBuiltins x = some (.builtin id)) (ha : PA X (e :: es) (ta C W as)) (hn : x ≠ "__name__" := by decide) (hdb : (x == ("__debug__" : Str)) = false := by decide)
    (he : starEach (e :: es) X.env = (false, eval e X.env) :: starEach es X.env := by rfl) (hpl : (backTo pos (starEach es X.env)).any (·.1) = false := by rfl) : PE X (.Call (.Name x p) (e :: es) [] pos) (te C W (calls f as)) :=
  (pe_callB hc hg hm hv ha hn hdb he hpl).imp (calls_rd hf)
theorem e_callT {T : String} {f : List D → Sto → Option (D × Sto)} {r : List V → Hp → VK → Prop} (hc : CallR X (.type T) r) (hf : CallOk C f r) (hg : Gl X x) (hm : X.mg x = none) (hv : bootBuiltins x = some (.type T)) (ha : PA X (e :: es) (ta C W as)) (hn : x ≠ "__name__" := by decide) (hdb : (x == ("__debug__" : Str)) = false := by decide)
    (he : starEach (e :: es) X.env = (false, eval e X.env) :: starEach es X.env := by rfl) (hpl : (backTo pos (starEach es X.env)).any (·.1) = false := by rfl) : PE X (.Call (.Name x p) (e :: es) [] pos) (te C W (calls f as)) :=
  (pe_callTy hc hg hm hv ha hn hdb he hpl).imp (calls_rd hf)
theorem n_callT {T : String} {f : List D → Sto → Option (List D × Sto)} {r : List V → Hp → VK → Prop} (hc : CallR X (.type T) r) (hf : CallOkN C f r) (hg : Gl X x) (hm : X.mg x = none) (hv : bootBuiltins x = some (.type T)) (ha : PA X (e :: es) (ta C W as)) (hn : x ≠ "__name__" := by decide) (hdb : (x == ("__debug__" : Str)) = false := by decide)
    (he : starEach (e :: es) X.env = (false, eval e X.env) :: starEach es X.env := by rfl) (hpl : (backTo pos (starEach es X.env)).any (·.1) = false := by rfl) : PE X (.Call (.Name x p) (e :: es) [] pos) (tn C W (calls f as)) :=
  (pe_callTy hc hg hm hv ha hn hdb he hpl).imp (calls_rdN hf)
theorem e_len (hK : C.K = X.K := by rfl) (hg : Gl X "len") (hm : X.mg "len" = none) (ha : PA X [e] (ta C W as)) (he : starEach [e] X.env = (false, eval e X.env) :: starEach [] X.env := by rfl) (hpl : (backTo pos (starEach [] X.env)).any (·.1) = false := by rfl) : PE X (.Call (.Name "len" p) [e] [] pos) (te C W (calls fLen as)) :=
  e_callB (hK ▸ call_len) fLen_ok hg hm (by decide +kernel) ha (by decide) (by decide) he hpl
theorem e_sum (hc : X.calm = true := by rfl) (hK : C.K = X.K := by rfl) (hg : Gl X "sum") (hm : X.mg "sum" = none) (ha : PA X [e] (ta C W as)) (he : starEach [e] X.env = (false, eval e X.env) :: starEach [] X.env := by rfl) (hpl : (backTo pos (starEach [] X.env)).any (·.1) = false := by rfl) : PE X (.Call (.Name "sum" p) [e] [] pos) (te C W (calls fSumL as)) :=
  e_callB (hK ▸ cr_sum hc) fSumL_ok hg hm (by decide +kernel) ha (by decide) (by decide) he hpl
theorem e_max (hc : X.calm = true := by rfl) (hK : C.K = X.K := by rfl) (hg : Gl X "max") (hm : X.mg "max" = none) (ha : PA X (e :: es) (ta C W as)) (he : starEach (e :: es) X.env = (false, eval e X.env) :: starEach es X.env := by rfl) (hpl : (backTo pos (starEach es X.env)).any (·.1) = false := by rfl) : PE X (.Call (.Name "max" p) (e :: es) [] pos) (te C W (calls fMax as)) :=
  e_callB ((call_max2 hc).or (hK ▸ cr_max hc)) fMax_ok hg hm (by decide +kernel) ha (by decide) (by decide) he hpl
theorem e_min (hc : X.calm = true := by rfl) (hK : C.K = X.K := by rfl) (hg : Gl X "min") (hm : X.mg "min" = none) (ha : PA X (e :: es) (ta C W as)) (he : starEach (e :: es) X.env = (false, eval e X.env) :: starEach es X.env := by rfl) (hpl : (backTo pos (starEach es X.env)).any (·.1) = false := by rfl) : PE X (.Call (.Name "min" p) (e :: es) [] pos) (te C W (calls fMin as)) :=
  e_callB ((call_min2 hc).or (hK ▸ cr_min hc)) fMin_ok hg hm (by decide +kernel) ha (by decide) (by decide) he hpl
theorem e_all (hc : X.calm = true := by rfl) (hK : C.K = X.K := by rfl) (hg : Gl X "all") (hm : X.mg "all" = none) (ha : PA X [e] (ta C W as)) (he : starEach [e] X.env = (false, eval e X.env) :: starEach [] X.env := by rfl) (hpl : (backTo pos (starEach [] X.env)).any (·.1) = false := by rfl) : PE X (.Call (.Name "all" p) [e] [] pos) (te C W (calls fAll as)) :=
  e_callB (hK ▸ cr_all hc) fAll_ok hg hm (by decide +kernel) ha (by decide) (by decide) he hpl
theorem e_any (hc : X.calm = true := by rfl) (hK : C.K = X.K := by rfl) (hg : Gl X "any") (hm : X.mg "any" = none) (ha : PA X [e] (ta C W as)) (he : starEach [e] X.env = (false, eval e X.env) :: starEach [] X.env := by rfl) (hpl : (backTo pos (starEach [] X.env)).any (·.1) = false := by rfl) : PE X (.Call (.Name "any" p) [e] [] pos) (te C W (calls fAny as)) :=
  e_callB (hK ▸ cr_any hc) fAny_ok hg hm (by decide +kernel) ha (by decide) (by decide) he hpl
theorem n_list (hK : C.K = X.K := by rfl) (hg : Gl X "list") (hm : X.mg "list" = none) (ha : PA X [e] (ta C W as)) (he : starEach [e] X.env = (false, eval e X.env) :: starEach [] X.env := by rfl) (hpl : (backTo pos (starEach [] X.env)).any (·.1) = false := by rfl) : PE X (.Call (.Name "list" p) [e] [] pos) (tn C W (calls fList as)) :=
  n_callT (hK ▸ call_list_of) fList_ok hg hm (by decide +kernel) ha (by decide) (by decide) he hpl
theorem e_tuple (hK : C.K = X.K := by rfl) (hg : Gl X "tuple") (hm : X.mg "tuple" = none) (ha : PA X [e] (ta C W as)) (he : starEach [e] X.env = (false, eval e X.env) :: starEach [] X.env := by rfl) (hpl : (backTo pos (starEach [] X.env)).any (·.1) = false := by rfl) : PE X (.Call (.Name "tuple" p) [e] [] pos) (te C W (calls fTuple as)) :=
  e_callT (hK ▸ call_tuple_of) fTuple_ok hg hm (by decide +kernel) ha (by decide) (by decide) he hpl
theorem e_intOf (hg : Gl X "int") (hm : X.mg "int" = none) (ha : PA X [e] (ta C W as)) (he : starEach [e] X.env = (false, eval e X.env) :: starEach [] X.env := by rfl) (hpl : (backTo pos (starEach [] X.env)).any (·.1) = false := by rfl) : PE X (.Call (.Name "int" p) [e] [] pos) (te C W (calls fIntOf as)) :=
  e_callT call_int1 fIntOf_ok hg hm (by decide +kernel) ha (by decide) (by decide) he hpl
end
end Ly
/-! What is walked; targets; comprehensions. -/
namespace Ly
open PySem PySem.Spec PyProof.Rows L2

/-- what a loop walks: the items, and whether they still stand so -/
structure Src where
  xs : List D
  ok : Sto → Bool
def ItOk (C : Ctx) (B : Bd) (s : Src) (J : It) : Prop := s.xs.length ≤ sizeLine ∧ ∀ (B2 : Bd) (st : Sto) (i : Nat), (∀ d v, Rep C B d v → Rep C B2 d v) → RelH C B2 st → s.ok st = true →
  (s.xs.length ≤ i → J.stop i B2.H) ∧ ∀ d, s.xs[i]? = some d → J.go i B2.H ∧ ∀ x H3, J.yld i B2.H x H3 → ∃ B3, B3.H = H3 ∧ Ext C B2 B3 ∧ RelH C B3 st ∧ Rep C B3 d x
abbrev ti (C : Ctx) (W : WX) (c : M Src) : TI := rd C W (fun B => ItOk C B) c
def isTup : D → Bool
  | .tup _ => true
  | _ => false
/-- a list, a tuple -/
def srcOf (st : Sto) : D → Option Src
  | .tup xs => some ⟨xs, fun _ => true⟩
  | .ref i => match st[i]? with
    | some (.lst xs) => some ⟨xs, fun st => decide (st[i]? = some (.lst xs))⟩
    | _ => none
  | d => (rdOf st d).map fun xs => ⟨xs, fun _ => true⟩
def walk (a : M D) : M Src := bnd a fun d => lift fun st => (srcOf st d).map fun s => (s, st)
/-- the source's list as the machine holds it now -/
theorem src_list {C : Ctx} {B : Bd} {st : Sto} {d : D} {v : V} {s : Src} (R : RelH C B st) (h : srcOf st d = some s) (r : Rep C B d v) :
    (∃ a vs, v = .ref a ∧ SqT C.K B.H a vs ∧ d = .tup s.xs) ∨
      (isTup d = false ∧ ∃ a vs, v = .ref a ∧ SqL C.K B.H a vs ∧ ∀ (B2 : Bd) (st2 : Sto), Rep C B2 d (.ref a) → RelH C B2 st2 → s.ok st2 = true → ∃ us, SqL C.K B2.H a us ∧ us.length ≤ sizeLine ∧ RepL C B2 s.xs us) := by
  unfold srcOf at h
  split at h
  · cases h
    obtain ⟨a, vs, rfl, hz, q, t⟩ := r.tup_inv
    exact .inl ⟨a, vs, rfl, q, rfl⟩
  · rename_i i
    cases e : st[i]? with
    | none => rw [e] at h; cases h
    | some c =>
      rw [e] at h
      cases c with
      | lst xs =>
        cases h
        obtain ⟨a, q, rfl⟩ := r.ref_inv
        obtain ⟨vs, q2, hz, t⟩ := R.cell i _ a e q
        refine .inr ⟨rfl, a, vs, rfl, SqL.of q2, fun B2 st2 r2 R2 ok => ?_⟩
        obtain ⟨a', q', e'⟩ := r2.ref_inv
        cases e'
        obtain ⟨us, h1, h2, h3⟩ := R2.cell i _ a (of_decide_eq_true ok) q'
        exact ⟨us, SqL.of h1, h2, h3⟩
      | ins _ _ _ => cases h
      | dct _ _ => cases h
      | dtt _ _ => cases h
  · rename_i hd1 hd2
    cases e : rdOf st d with
    | none => rw [e] at h; cases h
    | some xs =>
      rw [e] at h; cases h
      obtain ⟨a, vs, rfl, q, hz, t⟩ := rdOf_rep R e r
      refine .inr ⟨by cases d <;> first | rfl | exact absurd rfl (hd1 _), a, vs, rfl, q, fun B2 st2 r2 R2 ok => ?_⟩
      have e2 : rdOf st2 d = some xs := by
        cases d <;> first | exact e | exact absurd rfl (hd2 _)
      obtain ⟨a', us, e', q', hz', t'⟩ := rdOf_rep R2 e2 r2
      cases e'
      exact ⟨us, q', hz', t'⟩
theorem src_len {C : Ctx} {B : Bd} {st : Sto} {d : D} {v : V} {s : Src} (R : RelH C B st) (h : srcOf st d = some s) (r : Rep C B d v) : s.xs.length ≤ sizeLine := by
  unfold srcOf at h
  split at h
  · cases h
    obtain ⟨a, vs, rfl, hz, q, t⟩ := r.tup_inv
    show _ ≤ sizeLine
    rw [← t.length]; exact hz
  · rename_i i
    cases e : st[i]? with
    | none => rw [e] at h; cases h
    | some c =>
      rw [e] at h
      cases c with
      | lst xs =>
        cases h
        obtain ⟨a, q, rfl⟩ := r.ref_inv
        obtain ⟨vs, q2, hz, t⟩ := R.cell i _ a e q
        show _ ≤ sizeLine
        rw [← t.length]; exact hz
      | ins _ _ _ => cases h
      | dct _ _ => cases h
      | dtt _ _ => cases h
  · cases e : rdOf st d with
    | none => rw [e] at h; cases h
    | some xs =>
      rw [e] at h; cases h
      obtain ⟨a, vs, rfl, q, hz, t⟩ := rdOf_rep R e r
      show _ ≤ sizeLine
      rw [← t.length]; exact hz
theorem _root_.L2.PI.or {X : Cx} {tg e : Expr} {t t' : TI} (h : PI X tg e t) (h' : PI X tg e t') : PI X tg e (fun σ H R => t σ H R ∨ t' σ H R) :=
  ⟨fun pins s σ H R I q => q.elim (h.run pins s σ H R I) (h'.run pins s σ H R I)⟩
section
variable {X : Cx} {C : Ctx} {W : WX} {tg e e2 : Expr} {c c2 : M D} {as : M (List D)} {p pos : Pos}
theorem i_walk (hK : C.K = X.K := by rfl) (h : PE X e (te C W c)) : PI X tg e (ti C W (walk c)) := (pi_list h).or (pi_tup h) |>.imp fun σ H R ⟨env, st, B, e, r, q⟩ => by
  subst e
  have r0 := r
  unfold walk bnd at q
  cases ec : c env st with
  | bad => rw [ec] at q; exact q.elim
  | exc x st1 =>
    rw [ec] at q
    exact .inl ⟨env, st, B, rfl, r0, by rw [ec]; exact q⟩
  | ok d st1 =>
    rw [ec] at q
    unfold lift at q
    dsimp only at q
    cases es : srcOf st1 d with
    | none => rw [es] at q; exact q.elim
    | some s =>
      rw [es] at q
      dsimp only [Option.map] at q
      by_cases ht : d = .tup s.xs
      · refine .inr ⟨env, st, B, rfl, r0, ?_⟩
        rw [ec]
        intro v B1 x1 r1 p1
        subst ht
        obtain ⟨a, vs, rfl, hz, q1, t⟩ := p1.tup_inv
        rw [← hK]
        refine ⟨a, rfl, ⟨vs, q1⟩, q _ B1 x1 r1 ⟨by rw [← t.length]; exact hz, fun B2 st2 i k R2 ok => ?_⟩⟩
        obtain ⟨a', us, e', hz', q', t'⟩ := (k _ _ p1).tup_inv
        cases e'
        refine ⟨fun hi => ⟨us, q', by rw [t'.length]; exact hi⟩, fun d hd => ?_⟩
        obtain ⟨u, hu, ru⟩ := t'.get hd
        refine ⟨⟨us, u, q', hu⟩, fun x H3 hy => ?_⟩
        obtain ⟨rfl, hx⟩ := hy
        have := hx us q'
        rw [hu] at this; cases this
        exact ⟨B2, rfl, Ext.refl _ _, R2, ru⟩
      · refine .inl ⟨env, st, B, rfl, r0, ?_⟩
        rw [ec]
        intro v B1 x1 r1 p1
        rcases src_list r1.h es p1 with ⟨_, _, _, _, h⟩ | ⟨_, a, vs, rfl, q1, k1⟩
        · exact absurd h ht
        · rw [← hK]
          refine ⟨a, rfl, ⟨vs, q1⟩, q _ B1 x1 r1 ⟨src_len r1.h es p1, fun B2 st2 i k R2 ok => ?_⟩⟩
          obtain ⟨us, q', hz', t'⟩ := k1 B2 st2 (k _ _ p1) R2 ok
          refine ⟨fun hi => ⟨us, q', by rw [t'.length]; exact hi⟩, fun d hd => ?_⟩
          obtain ⟨u, hu, ru⟩ := t'.get hd
          refine ⟨⟨us, u, q', hu⟩, fun x H3 hy => ?_⟩
          obtain ⟨rfl, hx⟩ := hy
          have := hx us q'
          rw [hu] at this; cases this
          exact ⟨B2, rfl, Ext.refl _ _, R2, ru⟩
/-- lo, lo + 1, .. (n of them) -/
def rng (lo : Int) (n : Nat) : List D := (List.range n).map fun i => D.int (lo + (i : Nat))
theorem rng_length (lo : Int) (n : Nat) : (rng lo n).length = n := by unfold rng; rw [List.length_map, List.length_range]
theorem rng_ok {B : Bd} {lo : Int} {n : Nat} (hn : n ≤ sizeLine) : ItOk C B ⟨rng lo n, fun _ => true⟩ (Itr lo n) := by
  refine ⟨by rw [rng_length]; exact hn, fun B2 st2 i k R2 ok => ⟨fun hi => ?_, fun d hd => ?_⟩⟩
  · have hi : (rng lo n).length ≤ i := hi
    rw [rng_length] at hi; exact hi
  · have hd : (rng lo n)[i]? = some d := hd
    have hi : i < n := by
      have := (List.getElem?_eq_some_iff.mp hd).1
      rw [rng_length] at this; exact this
    refine ⟨hi, fun x H3 hy => ?_⟩
    obtain ⟨rfl, rfl⟩ := hy
    unfold rng at hd
    rw [List.getElem?_map, List.getElem?_range hi] at hd
    cases hd
    exact ⟨B2, rfl, Ext.refl _ _, R2, rep_int⟩
def small62 (i : Int) : Bool := decide (-(2 ^ 62) ≤ i) && decide (i < 2 ^ 62)
def range1 (as : M (List D)) : M Src := bnd as fun ds => lift fun st => match ds with
  | [.int j] => if small62 j = true ∧ j.toNat ≤ sizeLine then some (⟨rng 0 j.toNat, fun _ => true⟩, st) else none
  | _ => none
def range2 (as : M (List D)) : M Src := bnd as fun ds => lift fun st => match ds with
  | [.int i, .int j] => if small62 i = true ∧ small62 j = true ∧ (j - i).toNat ≤ sizeLine then some (⟨rng i (j - i).toNat, fun _ => true⟩, st) else none
  | _ => none
theorem small62_ok {i : Int} (h : small62 i = true) : -(2 ^ 62) ≤ i ∧ i < 2 ^ 62 := by
  unfold small62 at h
  simpa [Bool.and_eq_true] using h
theorem i_range1 (hg : Gl X "range") (hm : X.mg "range" = none) (ha : PA X [e] (ta C W as)) (hs : starEach [e] X.env = [(false, eval e X.env)] := by rfl) : PI X tg (.Call (.Name "range" p) [e] [] pos) (ti C W (range1 as)) :=
  (pi_range1 hg hm ha hs).imp fun σ H R ⟨env, st, B, e, r, q⟩ => by
    subst e
    refine (seq r q).mono fun vs H1 ⟨ds, st1, B1, e1, x1, r1, p1, k1⟩ => ?_
    subst e1
    obtain ⟨s, st', e, k⟩ := post_lift k1
    split at e
    · split at e
      · rename_i h
        cases e
        obtain ⟨v, t, rfl, q, h2⟩ := p1.cons_inv
        rw [h2.nil_inv, q.int_inv]
        exact ⟨_, rfl, (small62_ok h.1).1, (small62_ok h.1).2, k _ B1 (Ext.refl _ _) r1 (rng_ok h.2)⟩
      · cases e
    · cases e
theorem i_range2 (hg : Gl X "range") (hm : X.mg "range" = none) (ha : PA X [e, e2] (ta C W as)) (hs : starEach [e, e2] X.env = [(false, eval e X.env), (false, eval e2 X.env)] := by rfl) (hs2 : starEach [e2] X.env = [(false, eval e2 X.env)] := by rfl) :
    PI X tg (.Call (.Name "range" p) [e, e2] [] pos) (ti C W (range2 as)) :=
  (pi_range2 hg hm ha hs hs2).imp fun σ H R ⟨env, st, B, e, r, q⟩ => by
    subst e
    refine (seq r q).mono fun vs H1 ⟨ds, st1, B1, e1, x1, r1, p1, k1⟩ => ?_
    subst e1
    obtain ⟨s, st', e, k⟩ := post_lift k1
    split at e
    · split at e
      · rename_i h
        cases e
        obtain ⟨v, t, rfl, q, h2⟩ := p1.cons_inv
        obtain ⟨v2, t2, rfl, q2, h3⟩ := h2.cons_inv
        rw [h3.nil_inv, q.int_inv, q2.int_inv]
        exact ⟨_, _, rfl, ⟨(small62_ok h.1).1, (small62_ok h.1).2, (small62_ok h.2.1).1, (small62_ok h.2.1).2⟩, k _ B1 (Ext.refl _ _) r1 (rng_ok h.2.2)⟩
      · cases e
    · cases e
/-- pairs -/
def pairs (xs ys : List D) : List D := (xs.zip ys).map fun p => .tup [p.1, p.2]
theorem pairs_get {xs ys : List D} {i : Nat} {d : D} (h : (pairs xs ys)[i]? = some d) : ∃ x y, xs[i]? = some x ∧ ys[i]? = some y ∧ d = .tup [x, y] := by
  unfold pairs at h
  rw [List.getElem?_map] at h
  cases e : (xs.zip ys)[i]? with
  | none => rw [e] at h; cases h
  | some q =>
    rw [e] at h; cases h
    obtain ⟨h1, h2⟩ := List.getElem?_zip_eq_some.mp e
    exact ⟨q.1, q.2, h1, h2, rfl⟩
theorem pairs_length (xs ys : List D) : (pairs xs ys).length = min xs.length ys.length := by unfold pairs; rw [List.length_map, List.length_zip]
def zipM (as : M (List D)) : M Src := bnd as fun ds => lift fun st => match ds with
  | [x, y] => if isTup x = isTup y then match srcOf st x, srcOf st y with
    | some s, some t => some (⟨pairs s.xs t.xs, fun st => s.ok st && t.ok st⟩, st)
    | _, _ => none else none
  | _ => none
theorem i_zip {elts : List Expr} {kk : Nat} {tpos : Pos} (hK : C.K = X.K := by rfl) (hg : Gl X "zip") (hm : X.mg "zip" = none) (ha : PA X [e, e2] (ta C W as))
    (hs : starEach [e, e2] X.env = (false, eval e X.env) :: starEach [e2] X.env := by rfl) (hpl : (backTo pos (starEach [e2] X.env)).any (·.1) = false := by rfl) :
    PI X (.Tuple elts kk tpos) (.Call (.Name "zip" p) [e, e2] [] pos) (ti C W (zipM as)) :=
  (RZ.pi_zipA hg hm ha hs hpl).imp fun σ H R ⟨env, st, B, e, r, q⟩ => by
    subst e
    refine (seq r q).mono fun vs H1 ⟨ds, st1, B1, e1, x1, r1, p1, k1⟩ => ?_
    subst e1
    obtain ⟨s0, st', e, k⟩ := post_lift k1
    split at e
    · rename_i x y
      split at e
      · rename_i hty
        cases es : srcOf st1 x with
        | none => rw [es] at e; cases e
        | some s =>
          cases et : srcOf st1 y with
          | none => rw [es, et] at e; cases e
          | some t =>
            rw [es, et] at e
            cases e
            obtain ⟨v, tt, rfl, qx, h2⟩ := p1.cons_inv
            obtain ⟨v2, t2, rfl, qy, h3⟩ := h2.cons_inv
            rw [h3.nil_inv]
            have hlen : (pairs s.xs t.xs).length ≤ sizeLine := by
              rw [pairs_length]; exact Nat.le_trans (Nat.min_le_left _ _) (src_len r1.h es qx)
            rcases src_list r1.h es qx with ⟨a, us, rfl, hqa, rfl⟩ | ⟨hta, a, us, rfl, hqa, ka⟩
            · rcases src_list r1.h et qy with ⟨b, ws, rfl, hqb, rfl⟩ | ⟨htb, b, ws, rfl, hqb, kb⟩
              · refine ⟨a, b, us, ws, rfl, .inr ⟨hK ▸ hqa, hK ▸ hqb, k _ B1 (Ext.refl _ _) r1 ⟨hlen, fun B2 st2 i kk R2 ok => ?_⟩⟩⟩
                obtain ⟨a', u1, e1, z1, q1, t1⟩ := (kk _ _ qx).tup_inv
                cases e1
                obtain ⟨b', u2, e2, z2, q2, t2⟩ := (kk _ _ qy).tup_inv
                cases e2
                rw [← hK]
                refine ⟨fun hi => ⟨u1, u2, q1, q2, ?_⟩, fun d hd => ?_⟩
                · have hi : (pairs s.xs t.xs).length ≤ i := hi
                  rw [pairs_length] at hi
                  rw [t1.length, t2.length]; omega
                · obtain ⟨dx, dy, hx, hy, rfl⟩ := pairs_get hd
                  obtain ⟨w1, hw1, r1'⟩ := t1.get hx
                  obtain ⟨w2, hw2, r2'⟩ := t2.get hy
                  refine ⟨⟨u1, u2, w1, w2, q1, q2, hw1, hw2⟩, fun z H3 hyl => ?_⟩
                  obtain ⟨T, zx, zy, rfl, nT, rfl, f1, f2⟩ := hyl
                  have g1 := f1 u1 q1; rw [hw1] at g1; cases g1
                  have g2 := f2 u2 q2; rw [hw2] at g2; cases g2
                  obtain ⟨x3, r3, q3⟩ := new_tuple R2 nT (by show 2 ≤ sizeLine; decide) (.cons r1' (.cons r2' .nil))
                  exact ⟨_, rfl, x3, r3, q3⟩
              · rw [htb] at hty; cases hty
            · rcases src_list r1.h et qy with ⟨b, ws, rfl, hqb, rfl⟩ | ⟨htb, b, ws, rfl, hqb, kb⟩
              · rw [hta] at hty; cases hty
              · refine ⟨a, b, us, ws, rfl, .inl ⟨hK ▸ hqa, hK ▸ hqb, k _ B1 (Ext.refl _ _) r1 ⟨hlen, fun B2 st2 i kk R2 ok => ?_⟩⟩⟩
                have ok' : (s.ok st2 && t.ok st2) = true := ok
                rw [Bool.and_eq_true] at ok'
                obtain ⟨u1, q1, z1, t1⟩ := ka B2 st2 (kk _ _ qx) R2 ok'.1
                obtain ⟨u2, q2, z2, t2⟩ := kb B2 st2 (kk _ _ qy) R2 ok'.2
                rw [← hK]
                refine ⟨fun hi => ⟨u1, u2, q1, q2, ?_⟩, fun d hd => ?_⟩
                · have hi : (pairs s.xs t.xs).length ≤ i := hi
                  rw [pairs_length] at hi
                  rw [t1.length, t2.length]; omega
                · obtain ⟨dx, dy, hx, hy, rfl⟩ := pairs_get hd
                  obtain ⟨w1, hw1, r1'⟩ := t1.get hx
                  obtain ⟨w2, hw2, r2'⟩ := t2.get hy
                  refine ⟨⟨u1, u2, w1, w2, q1, q2, hw1, hw2⟩, fun z H3 hyl => ?_⟩
                  obtain ⟨T, zx, zy, rfl, nT, rfl, f1, f2⟩ := hyl
                  have g1 := f1 u1 q1; rw [hw1] at g1; cases g1
                  have g2 := f2 u2 q2; rw [hw2] at g2; cases g2
                  obtain ⟨x3, r3, q3⟩ := new_tuple R2 nT (by show 2 ≤ sizeLine; decide) (.cons r1' (.cons r2' .nil))
                  exact ⟨_, rfl, x3, r3, q3⟩
      · cases e
    · cases e
end
end Ly
/-! Targets; list comprehensions. -/
namespace Ly
open PySem PySem.Spec PyProof.Rows L2

/-- a target: a name's slot, or a tuple of such -/
inductive Pat where
  | nm (i : Nat) | tp (is : List Nat)
def Pat.slots : Pat → List Nat
  | .nm i => [i]
  | .tp is => is
def setAll (env : Ev) : List Nat → List D → Ev
  | i :: is, d :: ds => setAll (env.set i (some d)) is ds
  | _, _ => env
def asg : Pat → D → Ev → Option Ev
  | .nm i, d, env => some (env.set i (some d))
  | .tp is, .tup ds, env => if ds.length = is.length then some (setAll env is ds) else none
  | _, _, _ => none
def gPs : List Nat → TGs
  | [] => gNil
  | i :: is => gCons (gName i) (gPs is)
def gP (K : PySem.W.Frag) : Pat → TG
  | .nm i => gName i
  | .tp is => gTup K is.length (gPs is)
section
variable {X : Cx} {pos : Pos}
theorem g_name {i : Nat} {x : Str} (hN : X.N.Nodup) (hi : X.N[i]? = some x := by rfl) (hx : Loc X.env.scope x := by first | exact .inl rfl | exact .inr rfl) (hf : X.fn x = true ∨ X.env.scope.names.lookup x = some .local := by first | exact .inl rfl | exact .inr rfl) : PG X (.Name x pos) (gP X.K (.nm i)) := pg_name hN hi hx hf
theorem gs_nil : PGs X [] (gPs []) := pgs_nil
theorem gs_cons {x : Str} {p : Pos} {es : List Expr} {is : List Nat} (i : Nat) (hN : X.N.Nodup) (h2 : PGs X es (gPs is)) (hi : X.N[i]? = some x := by rfl) (hx : Loc X.env.scope x := by first | exact .inl rfl | exact .inr rfl) (hf : X.fn x = true ∨ X.env.scope.names.lookup x = some .local := by first | exact .inl rfl | exact .inr rfl)
    (hs : (assignEach (.Name x p :: es) X.env).map (·.2) = assign (.Name x p) X.env :: (assignEach es X.env).map (·.2) := by rfl) : PGs X (.Name x p :: es) (gPs (i :: is)) := pgs_cons (pg_name hN hi hx hf) h2 hs
theorem g_tup {es : List Expr} {k : Nat} {is : List Nat} (h : PGs X es (gPs is)) (hc : X.calm = true := by rfl) (hn : (assignEach es X.env).length = is.length := by rfl) (hst : (assignEach es X.env).findIdx? (·.1) = none := by rfl) : PG X (.Tuple es k pos) (gP X.K (.tp is)) := pg_tup hc h hn hst
end
theorem wipe_put (σ : Sl) (i : Nat) (x y : Option V) : ∀ vs : List Nat, (wipe (σ.set i x) vs).set i y = (wipe σ vs).set i y
  | [] => by unfold wipe; rw [List.set_set]
  | v :: vs => by
    unfold wipe
    by_cases h : v = i
    · subst h; rw [List.set_set, List.set_set]; exact wipe_put σ v x y vs
    · rw [List.set_comm _ _ h, List.set_comm _ _ h, wipe_put σ i x y vs]
theorem wipe_set (σ : Sl) (i : Nat) (x : Option V) : ∀ vs : List Nat, i ∈ vs → wipe (σ.set i x) vs = wipe σ vs
  | [], h => by simp at h
  | v :: vs, h => by
    unfold wipe
    by_cases e : v = i
    · subst e; exact wipe_put σ v x none vs
    · rcases List.mem_cons.mp h with h | h
      · exact absurd h.symm e
      · rw [wipe_set σ i x vs h]
theorem wipe_wipe (σ : Sl) : ∀ vs us : List Nat, (∀ i ∈ vs, i ∈ us) → wipe (wipe σ vs) us = wipe σ us
  | [], us, _ => rfl
  | v :: vs, us, h => by
    rw [show wipe σ (v :: vs) = (wipe σ vs).set v none from rfl, wipe_set _ _ _ _ (h v List.mem_cons_self)]
    exact wipe_wipe σ vs us fun i hi => h i (List.mem_cons_of_mem _ hi)
def wipeE (env : Ev) : List Nat → Ev
  | [] => env
  | v :: vs => (wipeE env vs).set v none
section
variable {C : Ctx} {B : Bd}
theorem RelE.wipe {env : Ev} {σ : Sl} (h : RelE C B env σ) : ∀ vs, RelE C B (wipeE env vs) (L2.wipe σ vs)
  | [] => h
  | v :: vs => (RelE.wipe h vs).unset v
theorem gPs_ok : ∀ {is : List Nat} {ds : List D} {vs : List V} {env : Ev} {σ : Sl} {Q : Sl → Hp → Prop}, RelE C B env σ → RepL C B ds vs → ds.length = is.length →
    (∀ σ', RelE C B (setAll env is ds) σ' → (∀ us, (∀ i ∈ is, i ∈ us) → wipe σ' us = wipe σ us) → Q σ' B.H) → gPs is vs σ B.H Q
  | [], [], vs, env, σ, Q, r, rl, _, k => ⟨rl.nil_inv, k σ r fun _ _ => rfl⟩
  | [], _ :: _, _, _, _, _, _, _, h, _ => by simp at h
  | _ :: _, [], _, _, _, _, _, _, h, _ => by simp at h
  | i :: is, d :: ds, vs, env, σ, Q, r, rl, h, k => by
    obtain ⟨v, t, rfl, q, rl⟩ := rl.cons_inv
    refine ⟨v, t, rfl, gPs_ok (env := env.set i (some d)) (r.set i q) rl (by simpa using h) fun σ' r' e => k σ' r' fun us hu => ?_⟩
    rw [e us fun j hj => hu j (List.mem_cons_of_mem _ hj), wipe_set _ _ _ _ (hu i List.mem_cons_self)]
theorem gP_ok {p : Pat} {d : D} {v : V} {env env' : Ev} {σ : Sl} {Q : Sl → Hp → Prop} (r : RelE C B env σ) (q : Rep C B d v) (e : asg p d env = some env')
    (k : ∀ σ', RelE C B env' σ' → (∀ us, (∀ i ∈ p.slots, i ∈ us) → wipe σ' us = wipe σ us) → Q σ' B.H) : gP C.K p v σ B.H Q := by
  cases p with
  | nm i =>
    cases e
    exact k _ (r.set i q) fun us hu => wipe_set _ _ _ _ (hu i (List.mem_singleton.mpr rfl))
  | tp is =>
    cases d <;> first | (simp [asg] at e; done) | skip
    rename_i ds
    simp only [asg] at e
    split at e
    · rename_i hl
      cases e
      obtain ⟨a, vs, rfl, hz, hq, t⟩ := q.tup_inv
      exact ⟨a, vs, rfl, hq, by rw [t.length]; exact hl, gPs_ok r t hl k⟩
    · cases e
end

/-! ### comprehensions -/
def R.toBad {α : Type} : R α → R α
  | .ok a st => .ok a st
  | _ => .bad
def loopC (ok : Sto → Bool) (p : Pat) (cond : M Bool) (elt : M D) (env : Ev) : List D → Sto → R (List D)
  | [], st => if ok st = true then .ok [] st else .bad
  | x :: xs, st => if ok st = true then
      match asg p x env with
      | none => .bad
      | some env1 => match cond env1 st with
        | .ok true st1 => (match elt env1 st1 with
          | .ok d st2 => (match loopC ok p cond elt env xs st2 with
            | .ok ds st3 => .ok (d :: ds) st3
            | _ => .bad)
          | _ => .bad)
        | .ok false st1 => loopC ok p cond elt env xs st1
        | _ => .bad
    else .bad
def comp (src : M Src) (p : Pat) (vs : List Nat) (cond : M Bool) (elt : M D) : M (List D) := bnd src fun s => fun env st => loopC s.ok p cond elt (wipeE env vs) s.xs st
/-- no exception is wished for -/
abbrev W0 : WX := fun _ _ _ _ => False
/-- the new list at Dd, not of ours -/
theorem pin_list {C : Ctx} {B : Bd} {st : Sto} {a : Addr} {vs us : List V} (R : RelH C B st) (hH : B.H a = some (.lst vs)) (hm : a ∉ B.m) (hF : ¬ B.F a) (hZ : ∀ q ∈ B.Z, q.1 ≠ a) :
    RelH C ⟨upd B.H a (.lst us), B.m, B.F, B.Z⟩ st ∧ (∀ d v, Rep C B d v → Rep C ⟨upd B.H a (.lst us), B.m, B.F, B.Z⟩ d v) ∧ Ext C B ⟨upd B.H a (.lst us), B.m, B.F, B.Z⟩ := by
  have x : Ext C B ⟨upd B.H a (.lst us), B.m, B.F, B.Z⟩ := ⟨fun _ _ h => sqT_mut hH trivial h, fun b h => ⟨h, fun o e => by
    show upd B.H a (.lst us) b = _
    rw [upd_ne (fun q => by subst q; exact hF h)]; exact e⟩, fun _ _ h => h, rfl⟩
  refine ⟨⟨R.len, R.nd, R.sep, fun i c b h1 h2 => (R.cell i c b h1 h2).mono x (upd_ne fun q => hm (by rw [← q]; exact List.mem_of_getElem? h2)), fun b h => ?_, R.scr.mut hH trivial, fun q hq => ⟨(upd_ne (hZ q hq)).trans (R.zz q hq).1, (R.zz q hq).2⟩⟩, fun d v h => h.mono x, x⟩
  show upd B.H a (.lst us) b ≠ none
  unfold upd
  split
  · intro z; cases z
  · exact R.fz b h
theorem Kp.z {C : Ctx} {B : Bd} {Z : List (Addr × HO)} : Kp C B ⟨B.H, B.m, B.F, Z⟩ := ⟨fun _ _ h => h, fun _ h => ⟨h, fun _ e => e⟩, fun _ _ h => h⟩
/-- a world with one thing more that nobody touches; and back -/
theorem RelH.pin {C : Ctx} {B : Bd} {st : Sto} {a : Addr} {o : HO} (R : RelH C B st) (hH : B.H a = some o) (hm : a ∉ B.m) (hF : ¬ B.F a) : RelH C ⟨B.H, B.m, B.F, (a, o) :: B.Z⟩ st :=
  ⟨R.len, R.nd, R.sep, fun i c b h1 h2 => CellRep.monoK (B := B) Kp.z rfl (R.cell i c b h1 h2), R.fz, R.scr, fun q hq => by
    rcases List.mem_cons.mp hq with h | h
    · rw [h]; exact ⟨hH, hm, hF⟩
    · exact R.zz q h⟩
theorem RelH.unpin {C : Ctx} {B : Bd} {st : Sto} {p : Addr × HO} {Z : List (Addr × HO)} (R : RelH C B st) (hZ : B.Z = p :: Z) : RelH C ⟨B.H, B.m, B.F, Z⟩ st ∧ B.H p.1 = some p.2 ∧ p.1 ∉ B.m ∧ ¬ B.F p.1 :=
  ⟨⟨R.len, R.nd, R.sep, fun i c b h1 h2 => CellRep.monoK (B := B) Kp.z rfl (R.cell i c b h1 h2), R.fz, R.scr, fun q hq => R.zz q (by rw [hZ]; exact List.mem_cons_of_mem _ hq)⟩,
    R.zz p (by rw [hZ]; exact List.mem_cons_self)⟩
theorem Rep.z {C : Ctx} {B : Bd} {Z : List (Addr × HO)} {d : D} {v : V} (h : Rep C B d v) : Rep C ⟨B.H, B.m, B.F, Z⟩ d v := h.monoK Kp.z
theorem RepL.z {C : Ctx} {B : Bd} {Z : List (Addr × HO)} {d : List D} {v : List V} (h : RepL C B d v) : RepL C ⟨B.H, B.m, B.F, Z⟩ d v := h.monoK Kp.z
theorem RelE.kp {C : Ctx} {B B' : Bd} {env : Ev} {σ : Sl} (x : Kp C B B') (h : RelE C B env σ) : RelE C B' env σ :=
  ⟨h.1, fun i d e => let ⟨v, h1, h2⟩ := h.2 i d e; ⟨v, h1, h2.monoK x⟩⟩
theorem Kp.trans {C : Ctx} {A B D : Bd} (a : Kp C A B) (b : Kp C B D) : Kp C A D :=
  ⟨fun x v h => b.tup x v (a.tup x v h), fun x h => ⟨(b.fz x (a.fz x h).1).1, fun o e => (b.fz x (a.fz x h).1).2 o ((a.fz x h).2 o e)⟩, fun i x h => b.mm i x (a.mm i x h)⟩
theorem Ext.kp {C : Ctx} {A B : Bd} (x : Ext C A B) : Kp C A B := ⟨x.tup, x.fz, x.mm⟩
theorem Kp.ext {C : Ctx} {A B : Bd} (x : Kp C A B) (e : B.Z = A.Z) : Ext C A B := ⟨x.tup, x.fz, x.mm, e⟩

section
variable {X : Cx} {C : Ctx} {W : WX} {elt tg iter : Expr} {ifs : List Expr} {scope : Scope} {pos : Pos} {src : M Src} {p : Pat} {cond : M Bool} {ce : M D}
theorem loopC_cons {ok : Sto → Bool} {env : Ev} {x : D} {xs : List D} {st : Sto} {ds : List D} {st' : Sto} (h : loopC ok p cond ce env (x :: xs) st = .ok ds st') :
    ok st = true ∧ ∃ env1 b st1, asg p x env = some env1 ∧ cond env1 st = .ok b st1 ∧ ((b = true ∧ ∃ d st2 r, ce env1 st1 = .ok d st2 ∧ loopC ok p cond ce env xs st2 = .ok r st' ∧ ds = d :: r) ∨ (b = false ∧ loopC ok p cond ce env xs st1 = .ok ds st')) := by
  unfold loopC at h
  split at h
  · rename_i ho
    refine ⟨ho, ?_⟩
    split at h
    · cases h
    · rename_i env1 ea
      split at h
      · rename_i st1 ec
        split at h
        · rename_i d st2 ee
          split at h
          · rename_i r st3 er
            cases h
            exact ⟨env1, true, st1, ea, ec, .inl ⟨rfl, d, st2, r, ee, er, rfl⟩⟩
          · cases h
        · cases h
      · rename_i st1 ec
        exact ⟨env1, false, st1, ea, ec, .inr ⟨rfl, h⟩⟩
      · cases h
  · cases h
theorem comp_rd {own : List (Str × Nat)} (hK : C.K = X.K) (hp : ∀ i ∈ p.slots, i ∈ own.map (·.2)) : ∀ σ H Q, tn C W (comp src p (own.map (·.2)) cond ce) σ H Q →
    tLc (ti C W src) (gP X.K p) (tb C W0 cond) (te C W0 ce) (own.map (·.2)) σ H Q := fun σ H Q ⟨env, st, B, e, r, q⟩ => by
    subst e
    refine (seq r q).mono fun J H1 ⟨s, st1, B1, e1, x1, r1, ⟨hlen, p1⟩, k1⟩ => ?_
    subst e1
    intro Dd hD
    generalize hvs : own.map (·.2) = vs at k1 hp ⊢
    cases hl : loopC s.ok p cond ce (wipeE env vs) s.xs st1 with
    | bad => rw [hl] at k1; exact k1.elim
    | exc _ _ =>
      exfalso
      have noexc : ∀ (xs : List D) (st : Sto) x st', loopC s.ok p cond ce (wipeE env vs) xs st ≠ .exc x st' := by
        intro xs
        induction xs with
        | nil => intro st x st' h; unfold loopC at h; split at h <;> cases h
        | cons a r ih =>
          intro st x st' h
          unfold loopC at h
          split at h
          · split at h
            · cases h
            · split at h
              · split at h
                · split at h
                  · cases h
                  · cases h
                · cases h
              · exact ih _ _ _ h
              · cases h
          · cases h
      exact noexc _ _ _ _ hl
    | ok res stE =>
      rw [hl] at k1
      obtain ⟨x2, r2, hq2⟩ := new_list (ds := []) (vs := []) r1.h hD (by show 0 ≤ sizeLine; decide) .nil
      obtain ⟨_, _, eq0, hH0, _, _, nm0, nF0, nZ0⟩ := hq2
      cases eq0
      refine ⟨fun i m H => ∃ B2 st2 ds vs' rest, B2.H = H ∧ Ext C B1 B2 ∧ RelH C B2 st2 ∧ H Dd = some (.lst vs') ∧ Dd ∉ B2.m ∧ ¬ B2.F Dd ∧ (∀ q ∈ B2.Z, q.1 ≠ Dd) ∧ RepL C B2 ds vs' ∧ ds.length ≤ i ∧ i ≤ s.xs.length ∧ m = s.xs.length - i ∧
        loopC s.ok p cond ce (wipeE env vs) (s.xs.drop i) st2 = .ok rest stE ∧ res = ds ++ rest, ⟨s.xs.length, _, st1, [], [], res, rfl, x2, r2, upd_same, nm0, nF0, nZ0, .nil, Nat.zero_le _, Nat.zero_le _, rfl, hl, rfl⟩, ?_⟩
      rintro i m H ⟨B2, st2, ds, vs', rest, rfl, x2, R2, hDd, nm, nF, nZ, rl, hdi, hi', rfl, hlp, hres⟩
      by_cases hlt : i < s.xs.length
      · rw [List.drop_eq_getElem_cons hlt] at hlp
        obtain ⟨hok, env1, b, st3, ea, ec, hb⟩ := loopC_cons hlp
        obtain ⟨_, hgo⟩ := p1 B2 st2 i (fun d v h => h.mono x2) R2 hok
        obtain ⟨go, hy⟩ := hgo s.xs[i] (List.getElem?_eq_getElem hlt)
        refine .inr ⟨go, fun H => ∃ B2 st2 ds vs' rest, B2.H = H ∧ Ext C B1 B2 ∧ RelH C B2 st2 ∧ H Dd = some (.lst vs') ∧ Dd ∉ B2.m ∧ ¬ B2.F Dd ∧ (∀ q ∈ B2.Z, q.1 ≠ Dd) ∧ RepL C B2 ds vs' ∧ ds.length ≤ i + 1 ∧
          loopC s.ok p cond ce (wipeE env vs) (s.xs.drop (i + 1)) st2 = .ok rest stE ∧ res = ds ++ rest, fun H' ⟨B', st', ds', vs2, rest', e', xx, RR, h1, h2, h3, h4, h5, h6, h7, h8⟩ => ⟨s.xs.length - (i + 1), by omega, B', st', ds', vs2, rest', e', xx, RR, h1, h2, h3, h4, h5, h6, hlt, rfl, h7, h8⟩, fun x H3 hyl => ?_⟩
        -- the new list is pinned while the item is made
        have RP := RelH.pin R2 hDd nm nF
        obtain ⟨_, hgoP⟩ := p1 ⟨B2.H, B2.m, B2.F, (Dd, .lst vs') :: B2.Z⟩ st2 i (fun d v h => (h.mono x2).z) RP hok
        obtain ⟨_, hyP⟩ := hgoP s.xs[i] (List.getElem?_eq_getElem hlt)
        obtain ⟨B3, rfl, x3, R3, rep3⟩ := hyP x H3 hyl
        have kp3 : Kp C B1 B3 := (x2.kp.trans Kp.z).trans x3.kp
        have E3 : RelE C B3 (wipeE env vs) (wipe σ vs) := ((r1.e.kp kp3).wipe vs)
        refine gP_ok (C := C) E3 rep3 ea ?_ |> fun h => hK ▸ h
        intro σ2 E4 hw
        refine ⟨by rw [hw vs hp, wipe_wipe σ vs vs fun _ h => h], ?_⟩
        refine ⟨env1, st2, B3, rfl, ⟨R3, E4⟩, ?_⟩
        rw [ec]
        intro b' B4 x4 r4 hbb
        subst hbb
        rcases hb with ⟨rfl, d, st5, rr, ee, er, rfl⟩ | ⟨rfl, er⟩
        · rw [if_pos rfl]
          refine ⟨env1, st3, B4, rfl, r4, ?_⟩
          rw [ee]
          intro y B5 x5 r5 rep5
          have hZ5 : B5.Z = (Dd, .lst vs') :: B2.Z := x5.zz.trans (x4.zz.trans x3.zz)
          obtain ⟨R6, h1, h2, h3⟩ := r5.h.unpin hZ5
          have kp5 : Kp C B2 ⟨B5.H, B5.m, B5.F, B2.Z⟩ := ((Kp.z.trans x3.kp).trans (x4.kp.trans x5.kp)).trans Kp.z
          obtain ⟨R7, mono7, x7⟩ := pin_list (us := vs' ++ [y]) R6 h1 h2 h3 nZ
          refine ⟨vs', h1, ?_, _, st5, ds ++ [d], vs' ++ [y], rr, rfl, x2.trans ((kp5.ext rfl).trans x7), R7, upd_same, h2, h3, nZ, ?_, ?_, er, ?_⟩
          · rw [rl.length]; omega
          · exact ((rl.monoK kp5).mono x7).append (.cons (mono7 _ _ rep5.z) .nil)
          · rw [List.length_append]; show ds.length + 1 ≤ i + 1; omega
          · rw [List.append_assoc]; exact hres
        · rw [if_neg Bool.false_ne_true]
          have hZ5 : B4.Z = (Dd, .lst vs') :: B2.Z := x4.zz.trans x3.zz
          obtain ⟨R6, h1, h2, h3⟩ := r4.h.unpin hZ5
          have kp5 : Kp C B2 ⟨B4.H, B4.m, B4.F, B2.Z⟩ := ((Kp.z.trans x3.kp).trans x4.kp).trans Kp.z
          exact ⟨⟨B4.H, B4.m, B4.F, B2.Z⟩, st3, ds, vs', rest, rfl, x2.trans (kp5.ext rfl), R6, h1, h2, h3, nZ, rl.monoK kp5, by omega, er, hres⟩
      · have ei : i = s.xs.length := by omega
        subst ei
        rw [List.drop_length] at hlp
        unfold loopC at hlp
        split at hlp
        · rename_i hok
          cases hlp
          obtain ⟨hstop, _⟩ := p1 B2 _ s.xs.length (fun d v h => h.mono x2) R2 hok
          refine .inl ⟨hstop (Nat.le_refl _), ?_⟩
          rw [List.append_nil] at hres
          subst hres
          refine k1 (.ref Dd) B2 x2 (r1.of x2 R2) ⟨Dd, vs', rfl, hDd, ?_, rl, nm, nF, nZ⟩
          rw [rl.length]; exact Nat.le_trans hdi hlen
        · cases hlp
theorem n_comp {own : List (Str × Nat)} (hK : C.K = X.K := by rfl) (hc : X.calm = true := by rfl) (hN : X.N.Nodup) (hi : PI X tg iter (ti C W src)) (ok : BlkOk X.N X.env.scope scope own)
    (hg : ∀ (s : Shared) (H : Hp) (C : Addr) (cl : List (Str × Addr)) (fp : List Addr), PG (X.blk s H scope (compEnvC scope cl C X.env) fp) tg (gP X.K p)) (ht : ∀ (s : Shared) (H : Hp) (Ca : Addr) (cl : List (Str × Addr)) (fp : List Addr), PTs (X.blk s H scope (compEnvC scope cl Ca X.env) fp) ifs (tb C W0 cond))
    (he : ∀ (s : Shared) (H : Hp) (Ca : Addr) (cl : List (Str × Addr)) (fp : List Addr), PE (X.blk s H scope (compEnvC scope cl Ca X.env) fp) elt (te C W0 ce))
    (hp : ∀ i ∈ p.slots, i ∈ own.map (·.2) := by decide) (hs : ∀ x, foldedSetIterable iter X.env x = pure x := by intro _; rfl) :
    PE X (.ListComp elt [⟨tg, iter, ifs, 0⟩] scope pos) (tn C W (comp src p (own.map (·.2)) cond ce)) :=
  (pe_lc (own := own) hc hN hi ok hg ht he hs).imp (comp_rd hK hp)
/-- no test; one -/
theorem ts_nil : PTs X [] (tb C W0 (ret true)) := ⟨fun pins s σ H Q I ⟨env, st, B, e, r, p⟩ => by
  subst e
  exact pts_nil.run pins s σ B.H Q I (p true B (Ext.refl _ _) r rfl)⟩
theorem ts_one {c : Expr} (h : PT X c (tb C W0 cond)) : PTs X [c] (tb C W0 cond) := pts_one h
end
end Ly
/-! Statements. -/
namespace Ly
open PySem PySem.Spec PyProof.Rows L2

inductive RS where
  | nx (e : Ev) (st : Sto) | ret (d : D) (st : Sto) | bk (e : Ev) (st : Sto) | ct (e : Ev) (st : Sto) | exc (x : Str) (e : Ev) (st : Sto) | bad
abbrev MS := Ev → Sto → RS
def mthen (a b : MS) : MS := fun e st => match a e st with
  | .nx e' st' => b e' st'
  | r => r
def mk {α : Type} (c : M α) (k : α → MS) : MS := fun e st => match c e st with
  | .ok a st' => k a e st'
  | .exc x st' => .exc x e st'
  | .bad => .bad
def mskip : MS := fun e st => .nx e st
def mblock : List MS → MS
  | [] => mskip
  | [a] => a
  | a :: b :: r => mthen a (mblock (b :: r))

def postS (C : Ctx) (W : WX) (B : Bd) (E : Ends) : RS → Prop
  | .nx e st' => ∀ σ' B', Ext C B B' → Rel C B' e σ' st' → E.nx σ' B'.H
  | .bk e st' => ∀ σ' B', Ext C B B' → Rel C B' e σ' st' → E.bk σ' B'.H
  | .ct e st' => ∀ σ' B', Ext C B B' → Rel C B' e σ' st' → E.ct σ' B'.H
  | .ret d st' => ∀ v B', Ext C B B' → RelH C B' st' → Rep C B' d v → E.rt v B'.H
  | .exc x e st' => ∀ cls σ' B', C.mg x = some cls → Ext C B B' → Rel C B' e σ' st' → W cls none σ' B'.H
  | .bad => False
def ts (C : Ctx) (W : WX) (c : MS) : TS := fun E σ H => ∃ env st B, B.H = H ∧ Rel C B env σ st ∧ postS C W B E (c env st)
theorem _root_.L2.PS.imp {X : Cx} {e : Stmt} {t t' : TS} (h : PS X e t) (k : ∀ D σ H, t' D σ H → t D σ H) : PS X e t' := ⟨fun pins s σ H D I q => h.run pins s σ H D I (k D σ H q)⟩
theorem _root_.L2.PSs.imp {X : Cx} {e : List Stmt} {t t' : TS} (h : PSs X e t) (k : ∀ D σ H, t' D σ H → t D σ H) : PSs X e t' := ⟨fun pins s σ H D I q => h.run pins s σ H D I (k D σ H q)⟩
section
variable {C : Ctx} {W : WX} {α β : Type} {rep : Bd → α → β → Prop} {σ : Sl} {env : Ev} {B B' : Bd} {st : Sto} {E : Ends}
theorem postS.later {r : RS} (x : Ext C B B') (h : postS C W B E r) : postS C W B' E r := by
  cases r with
  | nx e st' => exact fun σ' B2 x2 r => h σ' B2 (x.trans x2) r
  | bk e st' => exact fun σ' B2 x2 r => h σ' B2 (x.trans x2) r
  | ct e st' => exact fun σ' B2 x2 r => h σ' B2 (x.trans x2) r
  | ret d st' => exact fun v B2 x2 r q => h v B2 (x.trans x2) r q
  | exc y e st' => exact fun cls σ' B2 g x2 r => h cls σ' B2 g (x.trans x2) r
  | bad => exact h
/-- an expression, then a statement's rest -/
theorem seqS {c : M α} {k : α → MS} (R : Rel C B env σ st) (h : postS C W B E (mk c k env st)) :
    rd C W rep c σ B.H fun v H1 => ∃ d st1 B1, B1.H = H1 ∧ Ext C B B1 ∧ Rel C B1 env σ st1 ∧ rep B1 d v ∧ postS C W B1 E (k d env st1) := by
  refine ⟨env, st, B, rfl, R, ?_⟩
  unfold mk at h
  cases e : c env st with
  | ok d st1 =>
    rw [e] at h
    exact fun v B1 x r p => ⟨d, st1, B1, rfl, x, r, p, h.later x⟩
  | exc x st1 => rw [e] at h; exact fun cls B1 g x r => h cls σ B1 g x r
  | bad => rw [e] at h; exact h
end
section
variable {X : Cx} {C : Ctx} {W : WX} {s1 : Stmt} {rest : List Stmt} {a b : MS} {e : Expr} {c : M D} {pos : Pos}
theorem ss_nil : PSs X [] (ts C W (mblock [])) := pss_nil.imp fun E σ H ⟨env, st, B, e, r, p⟩ => by
  subst e
  exact p σ B (Ext.refl _ _) r
theorem ss_one (h : PS X s1 (ts C W a)) : PSs X [s1] (ts C W (mblock [a])) := pss_one h
theorem ss_cons {s2 : Stmt} {bs : List MS} (h : PS X s1 (ts C W a)) (h2 : PSs X (s2 :: rest) (ts C W (mblock (b :: bs)))) : PSs X (s1 :: s2 :: rest) (ts C W (mblock (a :: b :: bs))) := (pss_cons h h2).imp fun E σ H ⟨env, st, B, e, r, p⟩ => by
  subst e
  refine ⟨env, st, B, rfl, r, ?_⟩
  have p : postS C W B E (mthen a (mblock (b :: bs)) env st) := p
  unfold mthen at p
  cases q : a env st with
  | nx e' st' =>
    rw [q] at p
    exact fun σ' B' x r' => ⟨e', st', B', rfl, r', postS.later x p⟩
  | bk e' st' => rw [q] at p; exact p
  | ct e' st' => rw [q] at p; exact p
  | ret d st' => rw [q] at p; exact p
  | exc y e' st' => rw [q] at p; exact p
  | bad => rw [q] at p; exact p
/-- name = e -/
def mset (i : Nat) (c : M D) : MS := mk c fun d => fun env st => .nx (env.set i (some d)) st
theorem asg_rd {i : Nat} : ∀ E σ H, ts C W (mset i c) E σ H → tAsg (te C W c) (gName i) E σ H := fun E σ H ⟨env, st, B, e, r, p⟩ => by
  subst e
  refine (seqS r p).mono fun v H1 ⟨d, st1, B1, e1, x1, r1, p1, k1⟩ => ?_
  subst e1
  exact k1 _ B1 (Ext.refl _ _) ⟨r1.h, r1.e.set i p1⟩
theorem s_set {i : Nat} {x : Str} {pos' : Pos} (hN : X.N.Nodup) (he : PE X e (te C W c)) (hi : X.N[i]? = some x := by rfl) (hx : Loc X.env.scope x := by first | exact .inl rfl | exact .inr rfl) (hs : swapsWith e (some (.Name x pos')) pos.line X.env = pure false := by rfl)
    (hf : X.fn x = true ∨ X.env.scope.names.lookup x = some .local := by first | exact .inl rfl | exact .inr rfl) : PS X (.Assign [.Name x pos'] e pos) (ts C W (mset i c)) := (ps_set hN hi hx he hs hf).imp asg_rd
/-- name = [.. for ..] -/
theorem tree_rd {cl : M (List D)} {t : TE} (h : ∀ σ H Q, tn C W cl σ H Q → t σ H Q) : ∀ σ H Q, te C W (tree cl) σ H Q → t σ H Q := fun σ H Q ⟨env, st, B, e, r, p⟩ => by
  subst e
  refine h _ _ _ ((seq r p).mono fun v H1 ⟨ds, st1, B1, e1, x1, r1, p1, k1⟩ => ?_)
  subst e1
  obtain ⟨B2, e2, x2, r2, q2⟩ := p1.tree r1.h
  rw [← e2]
  exact k1 v B2 x2 (r1.of x2 r2) q2
theorem box_rd {cl : M (List D)} {t : TE} (h : ∀ σ H Q, tn C W cl σ H Q → t σ H Q) : ∀ σ H Q, te C W (box cl) σ H Q → t σ H Q := fun σ H Q ⟨env, st, B, e, r, p⟩ => by
  subst e
  refine h _ _ _ ((seq r p).mono fun v H1 ⟨ds, st1, B1, e1, x1, r1, p1, k1⟩ => ?_)
  subst e1
  obtain ⟨a, vs, rfl, hH, hz, rl, nm, nF, nZ⟩ := p1
  obtain ⟨x2, r2, g⟩ := Bd.place (c := .lst ds) r1.h ⟨vs, hH, hz, rl⟩ nm nF nZ
  obtain ⟨d, st', e, k⟩ := post_lift k1
  cases e
  exact k (.ref a) ⟨B1.H, B1.m ++ [a], B1.F, B1.Z⟩ x2 (r1.of x2 r2) (rep_ref g)
section
variable {elt tg iter : Expr} {ifs : List Expr} {scope : Scope} {src : M Src} {p : Pat} {cond : M Bool} {ce : M D} {i : Nat} {y : Str} {py cpos : Pos} {own : List (Str × Nat)}
theorem setLc {g : M D} (hK : C.K = X.K) (hc : X.calm = true) (hN : X.N.Nodup) (hy : X.N[i]? = some y) (hyl : X.env.scope.names.lookup y = some .local)
    (hsw : swapsWith (.ListComp elt [⟨tg, iter, ifs, 0⟩] scope cpos) (some (.Name y py)) pos.line X.env = pure true) (hi : PI X tg iter (ti C W src)) (ok : BlkOk X.N X.env.scope scope own)
    (hg : ∀ (s : Shared) (H : Hp) (C : Addr) (cl : List (Str × Addr)) (fp : List Addr), PG (X.blk s H scope (compEnvC scope cl C X.env) fp) tg (gP X.K p)) (ht : ∀ (s : Shared) (H : Hp) (Ca : Addr) (cl : List (Str × Addr)) (fp : List Addr), PTs (X.blk s H scope (compEnvC scope cl Ca X.env) fp) ifs (tb C W0 cond))
    (he : ∀ (s : Shared) (H : Hp) (Ca : Addr) (cl : List (Str × Addr)) (fp : List Addr), PE (X.blk s H scope (compEnvC scope cl Ca X.env) fp) elt (te C W0 ce))
    (hp : ∀ i ∈ p.slots, i ∈ own.map (·.2)) (hs : ∀ x, foldedSetIterable iter X.env x = pure x) (hgg : ∀ {t : TE}, (∀ σ H Q, tn C W (comp src p (own.map (·.2)) cond ce) σ H Q → t σ H Q) → ∀ σ H Q, te C W g σ H Q → t σ H Q) :
    PS X (.Assign [.Name y py] (.ListComp elt [⟨tg, iter, ifs, 0⟩] scope cpos) pos) (ts C W (mset i g)) :=
  (ps_setLc (own := own) hc hN hy hyl hsw hi ok hg ht he hs).imp fun E σ H h => by
    have h1 := asg_rd E σ H h
    unfold tAsg at h1 ⊢
    exact hgg (comp_rd hK hp) _ _ _ h1
theorem s_setLc (hK : C.K = X.K := by rfl) (hc : X.calm = true := by rfl) (hN : X.N.Nodup) (hy : X.N[i]? = some y := by rfl) (hyl : X.env.scope.names.lookup y = some .local := by rfl)
    (hsw : swapsWith (.ListComp elt [⟨tg, iter, ifs, 0⟩] scope cpos) (some (.Name y py)) pos.line X.env = pure true := by exact sw_true rfl rfl rfl (by decide +kernel)) (hi : PI X tg iter (ti C W src)) (ok : BlkOk X.N X.env.scope scope own)
    (hg : ∀ (s : Shared) (H : Hp) (C : Addr) (cl : List (Str × Addr)) (fp : List Addr), PG (X.blk s H scope (compEnvC scope cl C X.env) fp) tg (gP X.K p)) (ht : ∀ (s : Shared) (H : Hp) (Ca : Addr) (cl : List (Str × Addr)) (fp : List Addr), PTs (X.blk s H scope (compEnvC scope cl Ca X.env) fp) ifs (tb C W0 cond))
    (he : ∀ (s : Shared) (H : Hp) (Ca : Addr) (cl : List (Str × Addr)) (fp : List Addr), PE (X.blk s H scope (compEnvC scope cl Ca X.env) fp) elt (te C W0 ce))
    (hp : ∀ i ∈ p.slots, i ∈ own.map (·.2) := by decide) (hs : ∀ x, foldedSetIterable iter X.env x = pure x := by intro _; rfl) :
    PS X (.Assign [.Name y py] (.ListComp elt [⟨tg, iter, ifs, 0⟩] scope cpos) pos) (ts C W (mset i (tree (comp src p (own.map (·.2)) cond ce)))) := setLc hK hc hN hy hyl hsw hi ok hg ht he hp hs tree_rd
theorem s_setLcB (hK : C.K = X.K := by rfl) (hc : X.calm = true := by rfl) (hN : X.N.Nodup) (hy : X.N[i]? = some y := by rfl) (hyl : X.env.scope.names.lookup y = some .local := by rfl)
    (hsw : swapsWith (.ListComp elt [⟨tg, iter, ifs, 0⟩] scope cpos) (some (.Name y py)) pos.line X.env = pure true := by exact sw_true rfl rfl rfl (by decide +kernel)) (hi : PI X tg iter (ti C W src)) (ok : BlkOk X.N X.env.scope scope own)
    (hg : ∀ (s : Shared) (H : Hp) (C : Addr) (cl : List (Str × Addr)) (fp : List Addr), PG (X.blk s H scope (compEnvC scope cl C X.env) fp) tg (gP X.K p)) (ht : ∀ (s : Shared) (H : Hp) (Ca : Addr) (cl : List (Str × Addr)) (fp : List Addr), PTs (X.blk s H scope (compEnvC scope cl Ca X.env) fp) ifs (tb C W0 cond))
    (he : ∀ (s : Shared) (H : Hp) (Ca : Addr) (cl : List (Str × Addr)) (fp : List Addr), PE (X.blk s H scope (compEnvC scope cl Ca X.env) fp) elt (te C W0 ce))
    (hp : ∀ i ∈ p.slots, i ∈ own.map (·.2) := by decide) (hs : ∀ x, foldedSetIterable iter X.env x = pure x := by intro _; rfl) :
    PS X (.Assign [.Name y py] (.ListComp elt [⟨tg, iter, ifs, 0⟩] scope cpos) pos) (ts C W (mset i (box (comp src p (own.map (·.2)) cond ce)))) := setLc hK hc hN hy hyl hsw hi ok hg ht he hp hs box_rd
end
/-- pattern = e -/
def mput (p : Pat) (c : M D) : MS := mk c fun d => fun env st => match asg p d env with
  | some env' => .nx env' st
  | none => .bad
theorem s_put {tg : Expr} {p : Pat} (hK : C.K = X.K := by rfl) (he : PE X e (te C W c)) (hg : PG X tg (gP X.K p)) (hs : swapsWithSole [tg] e pos.line X.env = pure false := by rfl) (hw : swappedStores [tg] e X.env = pure none := by rfl)
    (h1 : (assignEach [tg] X.env).map (·.2) = [assign tg X.env] := by rfl) : PS X (.Assign [tg] e pos) (ts C W (mput p c)) := (ps_asg he hg hs hw h1).imp fun E σ H ⟨env, st, B, e, r, q⟩ => by
  subst e
  refine (seqS r q).mono fun v H1 ⟨d, st1, B1, e1, x1, r1, p1, k1⟩ => ?_
  subst e1
  split at k1
  · rename_i env' ea
    rw [← hK]
    exact gP_ok r1.e p1 ea fun σ' E' _ => k1 σ' B1 (Ext.refl _ _) ⟨r1.h, E'⟩
  · exact k1.elim
/-- a, b = x, y of plain local names -/
def mpar (i j : Nat) (as : M (List D)) : MS := mk as fun ds => fun env st => match ds with
  | [a, b] => .nx ((env.set i (some a)).set j (some b)) st
  | _ => .bad
theorem s_par {i j : Nat} {x y : Str} {a b : Expr} {as : M (List D)} {px py pt : Pos} {kt k2 pt2} (hc : X.calm = true := by rfl) (hN : X.N.Nodup) (hi : X.N[i]? = some x := by rfl) (hj : X.N[j]? = some y := by rfl) (hij : i ≠ j := by decide)
    (hx : X.env.scope.names.lookup x = some .local := by rfl) (hy : X.env.scope.names.lookup y = some .local := by rfl) (ha : PA X [a, b] (ta C W as))
    (hw : swappedStores [.Tuple [.Name x px, .Name y py] kt pt] (.Tuple [a, b] k2 pt2) X.env = pure (some [x, y]) := by rfl)
    (hs : swapsWithSole [.Tuple [.Name x px, .Name y py] kt pt] (.Tuple [a, b] k2 pt2) pos.line X.env = pure false := by rfl) :
    PS X (.Assign [.Tuple [.Name x px, .Name y py] kt pt] (.Tuple [a, b] k2 pt2) pos) (ts C W (mpar i j as)) := (ps_par hc hN hi hj hij hx hy ha hw hs).imp fun E σ H ⟨env, st, B, e, r, q⟩ => by
  subst e
  refine (seqS r q).mono fun vs H1 ⟨ds, st1, B1, e1, x1, r1, p1, k1⟩ => ?_
  subst e1
  split at k1
  · obtain ⟨v, t, rfl, q, h⟩ := p1.cons_inv
    obtain ⟨v2, t2, rfl, q2, h2⟩ := h.cons_inv
    rw [h2.nil_inv]
    exact ⟨v, v2, rfl, k1 _ B1 (Ext.refl _ _) ⟨r1.h, (r1.e.set i q).set j q2⟩⟩
  · exact k1.elim
/-- o[k] = e -/
def msub (o k v : M D) : MS := mk v fun x => mk o fun y => mk k fun z => fun env st => match y, z with
  | .ref i, .int j => match st[i]? with
    | some (.lst xs) => (match ixN xs.length j with
      | some n => .nx env (st.set i (.lst (xs.set n x)))
      | none => .bad)
    | _ => .bad
  | _, _ => .bad
theorem s_sub {o k : Expr} {co ck : M D} {spos : Pos} (he : PE X e (te C W c)) (ho : PE X o (te C W co)) (hk : PE X k (te C W ck)) (ha : ∀ v, assign (.Subscript o k spos) X.env v = (do
      let ov ← holding [v] (eval o X.env)
      let iv ← holding [v, ov] (eval k X.env)
      standAt spos
      holding [v, ov, iv] (setItem ov iv v)
      release [v, ov, iv] []) := by intro _; rfl) (hs : swapsWithSole [.Subscript o k spos] e pos.line X.env = pure false := by rfl) (hw : swappedStores [.Subscript o k spos] e X.env = pure none := by rfl)
    (h1 : (assignEach [.Subscript o k spos] X.env).map (·.2) = [assign (.Subscript o k spos) X.env] := by rfl) : PS X (.Assign [.Subscript o k spos] e pos) (ts C W (msub co ck c)) := (ps_asg he (pg_sub ho hk set_list ha) hs hw h1).imp fun E σ H ⟨env, st, B, e, r, q⟩ => by
  subst e
  refine (seqS r q).mono fun v H1 ⟨dx, st1, B1, e1, x1, r1, p1, k1⟩ => ?_
  subst e1
  refine (seqS r1 k1).mono fun vo H2 ⟨dy, st2, B2, e2, x2, r2, p2, k2⟩ => ?_
  subst e2
  refine (seqS r2 k2).mono fun vk H3 ⟨dz, st3, B3, e3, x3, r3, p3, k3⟩ => ?_
  subst e3
  obtain ⟨i, rfl⟩ : ∃ i, dy = .ref i := by cases dy <;> first | exact k3.elim | exact ⟨_, rfl⟩
  obtain ⟨j, rfl⟩ : ∃ j, dz = .int j := by cases dz <;> first | exact k3.elim | exact ⟨_, rfl⟩
  dsimp only at k3
  cases ec : st3[i]? with
  | none => rw [ec] at k3; exact k3.elim
  | some cc =>
    rw [ec] at k3
    cases cc with
    | ins _ _ _ => exact k3.elim
    | dct _ _ => exact k3.elim
    | dtt _ _ => exact k3.elim
    | lst xs =>
      dsimp only at k3
      split at k3
      · rename_i n en
        obtain ⟨a, ha, rfl⟩ := (p2.mono x3).ref_inv
        obtain ⟨vs, hH, hz, t⟩ := r3.h.cell i _ a ec ha
        have p1' := p1.mono (x2.trans x3)
        obtain ⟨x4, r4⟩ := r3.h.write (o := .lst (vs.set n v)) (c := .lst (xs.set n dx)) ha fun B' x e => ⟨_, e, by rw [List.length_set]; exact hz, ((t.mono x).set n (p1'.mono x))⟩
        refine ⟨a, vs, j, n, rfl, p3.int_inv, hH, by rw [t.length]; exact en, k3 σ _ x4 (r3.of x4 r4)⟩
      · exact k3.elim
/-- e -/
def mdo (c : M D) : MS := mk c fun _ => mskip
theorem s_expr (he : PE X e (te C W c)) (hs : swapsWith e none pos.line X.env = pure false := by rfl) : PS X (.Expr e pos) (ts C W (mdo c)) := (ps_expr he hs).imp fun E σ H ⟨env, st, B, e, r, q⟩ => by
  subst e
  refine (seqS r q).mono fun v H1 ⟨d, st1, B1, e1, x1, r1, p1, k1⟩ => ?_
  subst e1
  exact k1 σ B1 (Ext.refl _ _) r1
def mret (c : M D) : MS := mk c fun d => fun _ st => .ret d st
theorem s_ret (he : PE X e (te C W c)) : PS X (.Return (some e) pos) (ts C W (mret c)) := (ps_ret he).imp fun E σ H ⟨env, st, B, e, r, q⟩ => by
  subst e
  refine (seqS r q).mono fun v H1 ⟨d, st1, B1, e1, x1, r1, p1, k1⟩ => ?_
  subst e1
  exact k1 v B1 (Ext.refl _ _) r1.h p1
def mretN : MS := fun _ st => .ret .non st
theorem s_retN : PS X (.Return none pos) (ts C W mretN) := ps_retN.imp fun E σ H ⟨env, st, B, e, r, q⟩ => by
  subst e
  exact q .non B (Ext.refl _ _) r.h rep_non
theorem s_pass : PS X (.Pass pos) (ts C W mskip) := ps_pass.imp fun E σ H ⟨env, st, B, e, r, q⟩ => by
  subst e
  exact q σ B (Ext.refl _ _) r
def mbrk : MS := fun e st => .bk e st
def mcnt : MS := fun e st => .ct e st
theorem s_break : PS X (.Break pos) (ts C W mbrk) := ps_break.imp fun E σ H ⟨env, st, B, e, r, q⟩ => by
  subst e
  exact q σ B (Ext.refl _ _) r
theorem s_cont : PS X (.Continue pos) (ts C W mcnt) := ps_continue.imp fun E σ H ⟨env, st, B, e, r, q⟩ => by
  subst e
  exact q σ B (Ext.refl _ _) r
def mcond (t : M Bool) (a b : MS) : MS := mk t fun x => if x = true then a else b
theorem s_if {t : Expr} {ss tt : List Stmt} {ct : M Bool} (ht : PT X t (tb C W ct)) (ha : PSs X ss (ts C W a)) (hb : PSs X tt (ts C W b)) : PS X (.If t ss tt pos) (ts C W (mcond ct a b)) := (ps_if ht ha hb).imp fun E σ H ⟨env, st, B, e, r, q⟩ => by
  subst e
  refine (seqS r q).mono fun v H1 ⟨d, st1, B1, e1, x1, r1, p1, k1⟩ => ?_
  subst e1
  subst p1
  cases d with
  | true => rw [if_pos rfl] at k1 ⊢; exact ⟨env, st1, B1, rfl, r1, k1⟩
  | false => rw [if_neg Bool.false_ne_true] at k1 ⊢; exact ⟨env, st1, B1, rfl, r1, k1⟩

/-! ### loops -/
def forX (ok : Sto → Bool) (p : Pat) (body : MS) : List D → MS
  | [] => fun env st => if ok st = true then .nx env st else .bad
  | x :: xs => fun env st => if ok st = true then
      match asg p x env with
      | none => .bad
      | some env1 => match body env1 st with
        | .nx e s => forX ok p body xs e s
        | .ct e s => forX ok p body xs e s
        | .bk e s => .nx e s
        | r => r
    else .bad
def mfor (src : M Src) (p : Pat) (body : MS) : MS := mk src fun s => forX s.ok p body s.xs
theorem s_for {tg iter : Expr} {body : List Stmt} {src : M Src} {p : Pat} (hp : PassesOwn (model X.prog X.w) X.A X.env X.xe) (hK : C.K = X.K := by rfl) (hc : X.calm = true := by rfl) (hi : PI X tg iter (ti C W src)) (hg : PG X tg (gP X.K p)) (hb : PSs X body (ts C W b))
    (hs : ∀ x, foldedSetIterable iter X.env x = pure x := by intro _; rfl) : PS X (.For tg iter body [] pos) (ts C W (mfor src p b)) := (ps_for hp hc hi hg hb hs).imp fun E σ H ⟨env, st, B, e, r, q⟩ => by
  subst e
  refine (seqS r q).mono fun J H1 ⟨s, st1, B1, e1, x1, r1, ⟨hlen, p1⟩, k1⟩ => ?_
  subst e1
  refine ⟨fun i m σ H => ∃ B2 env2 st2, B2.H = H ∧ Ext C B1 B2 ∧ Rel C B2 env2 σ st2 ∧ i ≤ s.xs.length ∧ m = s.xs.length - i ∧ postS C W B2 E (forX s.ok p b (s.xs.drop i) env2 st2), ⟨s.xs.length, B1, env, st1, rfl, Ext.refl _ _, r1, Nat.zero_le _, rfl, k1⟩, ?_⟩
  rintro i m σ2 H ⟨B2, env2, st2, rfl, x2, r2, hi', rfl, k2⟩
  by_cases hlt : i < s.xs.length
  · rw [List.drop_eq_getElem_cons hlt] at k2
    unfold forX at k2
    split at k2
    · rename_i hok
      obtain ⟨_, hgo⟩ := p1 B2 st2 i (fun d v h => h.mono x2) r2.h hok
      obtain ⟨go, hy⟩ := hgo s.xs[i] (List.getElem?_eq_getElem hlt)
      refine .inr ⟨go, fun σ H => ∃ B2 env2 st2, B2.H = H ∧ Ext C B1 B2 ∧ Rel C B2 env2 σ st2 ∧ postS C W B2 E (forX s.ok p b (s.xs.drop (i + 1)) env2 st2), fun σ' H' ⟨B', env', st', e', xx, rr, kk⟩ => ⟨s.xs.length - (i + 1), by omega, B', env', st', e', xx, rr, hlt, rfl, kk⟩, fun x H3 hyl => ?_⟩
      obtain ⟨B3, rfl, x3, R3, rep3⟩ := hy x H3 hyl
      split at k2
      · exact k2.elim
      · rename_i env3 ea
        refine gP_ok (C := C) (r2.e.mono x3) rep3 ea (fun σ3 E3 _ => ?_) |> fun h => hK ▸ h
        refine ⟨env3, st2, B3, rfl, ⟨R3, E3⟩, ?_⟩
        cases eb : b env3 st2 with
        | nx e s' => rw [eb] at k2; exact fun σ4 B4 x4 r4 => ⟨B4, e, s', rfl, (x2.trans x3).trans x4, r4, postS.later (x3.trans x4) k2⟩
        | ct e s' => rw [eb] at k2; exact fun σ4 B4 x4 r4 => ⟨B4, e, s', rfl, (x2.trans x3).trans x4, r4, postS.later (x3.trans x4) k2⟩
        | bk e s' => rw [eb] at k2; exact fun σ4 B4 x4 r4 => k2 σ4 B4 (x3.trans x4) r4
        | ret d s' => rw [eb] at k2; exact fun v B4 x4 r4 q4 => k2 v B4 (x3.trans x4) r4 q4
        | exc y e s' => rw [eb] at k2; exact fun cls σ4 B4 g x4 r4 => k2 cls σ4 B4 g (x3.trans x4) r4
        | bad => rw [eb] at k2; exact k2
    · exact k2.elim
  · have ei : i = s.xs.length := by omega
    subst ei
    rw [List.drop_length] at k2
    unfold forX at k2
    split at k2
    · rename_i hok
      obtain ⟨hstop, _⟩ := p1 B2 st2 s.xs.length (fun d v h => h.mono x2) r2.h hok
      exact .inl ⟨hstop (Nat.le_refl _), k2 σ2 B2 (Ext.refl _ _) r2⟩
    · exact k2.elim
def mwhile : Nat → M Bool → MS → MS
  | 0, _, _ => fun _ _ => .bad
  | n + 1, t, body => mk t fun x => if x = true then (fun env st => match body env st with
      | .nx e s => mwhile n t body e s
      | .ct e s => mwhile n t body e s
      | .bk e s => .nx e s
      | r => r) else mskip
theorem s_while {t : Expr} {body : List Stmt} {ct : M Bool} {n : Nat} (hp : PassesOwn (model X.prog X.w) X.A X.env X.xe) (ht : PT X t (tb C W ct)) (hb : PSs X body (ts C W b)) : PS X (.While t body [] pos) (ts C W (mwhile n ct b)) := (ps_while hp ht hb).imp fun E σ H ⟨env, st, B, e, r, q⟩ => by
  subst e
  refine ⟨fun m σ H => ∃ B2 env2 st2, B2.H = H ∧ Rel C B2 env2 σ st2 ∧ postS C W B2 E (mwhile m ct b env2 st2), ⟨n, B, env, st, rfl, r, q⟩, ?_⟩
  rintro m σ2 H ⟨B2, env2, st2, rfl, r2, k2⟩
  cases m with
  | zero => exact k2.elim
  | succ m =>
    unfold mwhile at k2
    refine (seqS r2 k2).mono fun v H1 ⟨d, st1, B1, e1, x1, r1, p1, k1⟩ => ?_
    subst e1
    subst p1
    cases d with
    | true =>
      rw [if_pos rfl] at k1 ⊢
      refine ⟨fun σ H => ∃ B2 env2 st2, B2.H = H ∧ Rel C B2 env2 σ st2 ∧ postS C W B2 E (mwhile m ct b env2 st2), fun σ' H' h => ⟨m, Nat.lt_succ_self _, h⟩, env2, st1, B1, rfl, r1, ?_⟩
      cases eb : b env2 st1 with
      | nx e s' => rw [eb] at k1; exact fun σ4 B4 x4 r4 => ⟨B4, e, s', rfl, r4, postS.later x4 k1⟩
      | ct e s' => rw [eb] at k1; exact fun σ4 B4 x4 r4 => ⟨B4, e, s', rfl, r4, postS.later x4 k1⟩
      | bk e s' => rw [eb] at k1; exact k1
      | ret d s' => rw [eb] at k1; exact k1
      | exc y e s' => rw [eb] at k1; exact k1
      | bad => rw [eb] at k1; exact k1
    | false =>
      rw [if_neg Bool.false_ne_true] at k1 ⊢
      exact k1 σ2 B1 (Ext.refl _ _) r1

/-! ### an exception raised -/
/-- the facts of an own exception class -/
structure ExcF (K : PySem.W.Frag) (mg : Str → Option Value) (x : Str) : Prop where
  ex : ∃ Ca, mg x = some (.ref Ca) ∧ PySem.W.excIn K Ca [.type "ValueError", .type "Exception", .type "BaseException", .type "object"] "ValueError.__new__" = true ∧ PySem.W.keepIn K (.ref Ca) = true ∧
    PySem.W.subIn K (.ref Ca) (.type "BaseException") = some true ∧ PySem.W.typeIn K (.ref Ca) = some (.type "type")
def mraise (x : Str) : MS := fun e st => .exc x e st
theorem s_raise {x m : Str} {j : Nat} {p p2 cp : Pos} (hc : X.calm = true := by rfl) (tk : Takes X W) (F : ExcF X.K X.mg x) (hM : C.mg = X.mg := by rfl) (hg : Gl X x := by rfl) (hdb : (x == ("__debug__" : Str)) = false := by decide) :
    PS X (.Raise (some (.Call (.Name x p) [.Constant (.str m) j p2] [] cp)) none pos) (ts C W (mraise x)) := by
  obtain ⟨Ca, g, q, k, s, t⟩ := F.ex
  exact (ps_raise hc tk (pmk_own PySem.F.excBase_ValueError q g k (raises_own s t) hg hdb)).imp fun E σ H ⟨env, st, B, e, r, h⟩ => by
    subst e
    exact h (.ref Ca) σ B (by rw [hM]; exact g) (Ext.refl _ _) r
end

/-! ### methods of built-in types -/
/-- a method's rule: the receiver's type is looked at first -/
def MethOk (C : Ctx) (f : D → List D → Sto → Option (D × Sto)) (r : V → List V → Hp → VK → Prop) : Prop := ∀ (B : Bd) (st : Sto) (x : D) (xs : List D) (v : V) (vs : List V) (Q : VK) (d : D) (st' : Sto), RelH C B st → Rep C B x v → RepL C B xs vs → f x xs st = some (d, st') →
  (∀ v' B', Ext C B B' → RelH C B' st' → Rep C B' d v' → Q v' B'.H) → r v vs B.H Q
def isOf (T : String) (st : Sto) (d : D) : Bool := if T = "list" then (rdOf st d).isSome else if T = "str" then (match d with | .str _ => true | _ => false) else false
theorem isOf_ty {C : Ctx} {B : Bd} {st : Sto} {d : D} {v : V} {T : String} (R : RelH C B st) (h : isOf T st d = true) (r : Rep C B d v) : tyV C.K T v B.H := by
  unfold isOf at h
  split at h
  · rename_i e
    subst e
    cases q : rdOf st d with
    | none => rw [q] at h; cases h
    | some xs =>
      obtain ⟨a, vs, rfl, hq, _⟩ := rdOf_rep R q r
      exact .inl ⟨rfl, vs, hq⟩
  · split at h
    · rename_i e
      subst e
      split at h
      · rw [r.str_inv]; rfl
      · cases h
    · cases h
def meth (T : String) (f : D → List D → Sto → Option (D × Sto)) (o : M D) (as : M (List D)) : M D := bnd o fun x => fun env st => if isOf T st x = true then bnd as (fun xs => lift (f x xs)) env st else .bad
def meth0 (T : String) (f : D → List D → Sto → Option (D × Sto)) (o : M D) : M D := bnd o fun x => fun env st => if isOf T st x = true then lift (f x []) env st else .bad
section
variable {X : Cx} {C : Ctx} {W : WX} {o e : Expr} {es : List Expr} {co : M D} {as : M (List D)} {name : Str} {apos cpos : Pos} {T id : String} {f : D → List D → Sto → Option (D × Sto)} {r : V → List V → Hp → VK → Prop}
theorem meth_rd (hK : C.K = X.K) (hf : MethOk C f r) : ∀ σ H Q, te C W (meth T f co as) σ H Q → tBM X.K T r (te C W co) (ta C W as) σ H Q := fun σ H Q ⟨env, st, B, e, rr, p⟩ => by
  subst e
  refine (seq rr p).mono fun v H1 ⟨x, st1, B1, e1, x1, r1, p1, k1⟩ => ?_
  subst e1
  split at k1
  · rename_i ht
    refine ⟨hK ▸ isOf_ty r1.h ht p1, (seq r1 k1).mono fun vs H2 ⟨xs, st2, B2, e2, x2, r2, p2, k2⟩ => ?_⟩
    subst e2
    obtain ⟨d, st', e, k⟩ := post_lift k2
    exact hf B2 st2 x xs v vs Q d st' r2.h (p1.mono x2) p2 e fun v' B' x' h' q => k v' B' x' (r2.of x' h') q
  · exact k1.elim
theorem meth0_rd (hK : C.K = X.K) (hf : MethOk C f r) : ∀ σ H Q, te C W (meth0 T f co) σ H Q → tBM0 X.K T r (te C W co) σ H Q := fun σ H Q ⟨env, st, B, e, rr, p⟩ => by
  subst e
  refine (seq rr p).mono fun v H1 ⟨x, st1, B1, e1, x1, r1, p1, k1⟩ => ?_
  subst e1
  split at k1
  · rename_i ht
    refine ⟨hK ▸ isOf_ty r1.h ht p1, ?_⟩
    obtain ⟨d, st', e, k⟩ := post_lift k1
    exact hf B1 st1 x [] v [] Q d st' r1.h p1 .nil e fun v' B' x' h' q => k v' B' x' (r1.of x' h') q
  · exact k1.elim
theorem e_meth (hK : C.K = X.K := by rfl) (pa : PlainAttrs T) (slot : Slot T name id) (hty : typeOf (.builtin id) = pure (.type "method_descriptor")) (hm : MtR X id r) (hf : MethOk C f r) (ho : PE X o (te C W co)) (ha : PA X (e :: es) (ta C W as))
    (hbase : attributeBase o name X.env (eval o X.env) = eval o X.env := by rfl) (hfew : ((backTo cpos (starEach (e :: es) X.env)).all (fun x => !x.1) && (backToKw cpos (keywordEach [] X.env)).all (fun x => x.1.isSome) && decide ((e :: es).length + ([] : List Keyword).length + (if ([] : List Keyword).isEmpty then 0 else 1) < 30)) = true := by rfl) (hline : (apos.endLine == cpos.line) = true := by rfl) (he : starEach (e :: es) X.env = (false, eval e X.env) :: starEach es X.env := by rfl) (hpl : (backTo cpos (starEach es X.env)).any (·.1) = false := by rfl) :
    PE X (.Call (.Attribute o name apos) (e :: es) [] cpos) (te C W (meth T f co as)) := (pe_bm pa slot hty hm ho ha hbase hfew hline he hpl).imp (meth_rd hK hf)
theorem e_meth0 (hK : C.K = X.K := by rfl) (pa : PlainAttrs T) (slot : Slot T name id) (hty : typeOf (.builtin id) = pure (.type "method_descriptor")) (hm : MtR X id r) (hf : MethOk C f r) (ho : PE X o (te C W co))
    (hbase : attributeBase o name X.env (eval o X.env) = eval o X.env := by rfl) (hline : (apos.endLine == cpos.line) = true := by rfl) :
    PE X (.Call (.Attribute o name apos) [] [] cpos) (te C W (meth0 T f co)) := (pe_bm0 pa slot hty hm ho hbase hline).imp (meth0_rd hK hf)
end
def fAppend (x : D) (ys : List D) (st : Sto) : Option (D × Sto) := match x, ys with
  | .ref i, [y] => match st[i]? with
    | some (.lst xs) => if xs.length < sizeLine then some (.non, st.set i (.lst (xs ++ [y]))) else none
    | _ => none
  | _, _ => none
/-- a place that holds a list -/
theorem ref_lst {C : Ctx} {B : Bd} {st : Sto} {i : Nat} {xs : List D} {v : V} (R : RelH C B st) (e : st[i]? = some (.lst xs)) (r : Rep C B (.ref i) v) : ∃ a vs, v = .ref a ∧ B.m[i]? = some a ∧ B.H a = some (.lst vs) ∧ vs.length ≤ sizeLine ∧ RepL C B xs vs := by
  obtain ⟨a, ha, rfl⟩ := r.ref_inv
  obtain ⟨vs, hH, hz, t⟩ := R.cell i _ a e ha
  exact ⟨a, vs, rfl, ha, hH, hz, t⟩
theorem fAppend_ok {C : Ctx} : MethOk C fAppend rAppend := fun B st x xs v vs Q d st' R rx rl e k => by
  unfold fAppend at e
  split at e
  · rename_i i y
    cases ec : st[i]? with
    | none => rw [ec] at e; cases e
    | some cc =>
      rw [ec] at e
      cases cc with
      | ins _ _ _ => cases e
      | dct _ _ => cases e
      | dtt _ _ => cases e
      | lst ds =>
        dsimp only at e
        split at e
        · rename_i hz
          cases e
          obtain ⟨a, us, rfl, ha, hH, hz', t⟩ := ref_lst R ec rx
          obtain ⟨vy, t2, rfl, qy, h2⟩ := rl.cons_inv
          rw [h2.nil_inv]
          have hl : us.length < sizeLine := by rw [t.length]; exact hz
          obtain ⟨x4, r4⟩ := R.write (o := .lst (us ++ [vy])) (c := .lst (ds ++ [y])) ha fun B' x e => ⟨_, e, by rw [List.length_append]; exact hl, (t.mono x).append (.cons (qy.mono x) .nil)⟩
          exact ⟨a, us, vy, rfl, rfl, hH, hl, k _ _ x4 r4 rep_non⟩
        · cases e
  · cases e
def fExtend (x : D) (ys : List D) (st : Sto) : Option (D × Sto) := match x, ys with
  | .ref i, [y] => match st[i]?, lstOf st y with
    | some (.lst xs), some zs => if xs.length + zs.length ≤ sizeLine then some (.non, st.set i (.lst (xs ++ zs))) else none
    | _, _ => none
  | _, _ => none
theorem fExtend_ok {C : Ctx} : MethOk C fExtend rExtend := fun B st x xs v vs Q d st' R rx rl e k => by
  unfold fExtend at e
  split at e
  · rename_i i y
    cases ec : st[i]? with
    | none => rw [ec] at e; cases e
    | some cc =>
      rw [ec] at e
      cases cc with
      | ins _ _ _ => cases e
      | dct _ _ => cases e
      | dtt _ _ => cases e
      | lst ds =>
        cases ey : lstOf st y with
        | none => rw [ey] at e; cases e
        | some zs =>
          rw [ey] at e
          dsimp only at e
          split at e
          · rename_i hz
            cases e
            obtain ⟨a, us, rfl, ha, hH, hz', t⟩ := ref_lst R ec rx
            obtain ⟨vy, t2, rfl, qy, h2⟩ := rl.cons_inv
            rw [h2.nil_inv]
            obtain ⟨b, ws, rfl, hB, hzB, tB⟩ := lstOf_rep R ey qy
            have hl : us.length + ws.length ≤ sizeLine := by rw [t.length, tB.length]; exact hz
            obtain ⟨x4, r4⟩ := R.write (o := .lst (us ++ ws)) (c := .lst (ds ++ zs)) ha fun B' x e => ⟨_, e, by rw [List.length_append]; exact hl, (t.mono x).append (tB.mono x)⟩
            exact ⟨a, b, us, ws, rfl, rfl, hH, hB, hl, k _ _ x4 r4 rep_non⟩
          · cases e
  · cases e
section
variable {X : Cx} {C : Ctx} {W : WX} {o e : Expr} {co : M D} {as : M (List D)} {apos cpos : Pos}
theorem e_append (hK : C.K = X.K := by rfl) (ho : PE X o (te C W co)) (ha : PA X [e] (ta C W as)) (hbase : attributeBase o "append" X.env (eval o X.env) = eval o X.env := by rfl) (hfew : ((backTo cpos (starEach [e] X.env)).all (fun x => !x.1) && (backToKw cpos (keywordEach [] X.env)).all (fun x => x.1.isSome) && decide ([e].length + ([] : List Keyword).length + (if ([] : List Keyword).isEmpty then 0 else 1) < 30)) = true := by rfl) (hline : (apos.endLine == cpos.line) = true := by rfl)
    (he : starEach [e] X.env = (false, eval e X.env) :: starEach [] X.env := by rfl) (hpl : (backTo cpos (starEach [] X.env)).any (·.1) = false := by rfl) : PE X (.Call (.Attribute o "append" apos) [e] [] cpos) (te C W (meth "list" fAppend co as)) :=
  e_meth hK PySem.F.plainAttrs_list PySem.F.slot_list_append PySem.F.type_list_append mt_append fAppend_ok ho ha hbase hfew hline he hpl
theorem e_extend (hK : C.K = X.K := by rfl) (ho : PE X o (te C W co)) (ha : PA X [e] (ta C W as)) (hbase : attributeBase o "extend" X.env (eval o X.env) = eval o X.env := by rfl) (hfew : ((backTo cpos (starEach [e] X.env)).all (fun x => !x.1) && (backToKw cpos (keywordEach [] X.env)).all (fun x => x.1.isSome) && decide ([e].length + ([] : List Keyword).length + (if ([] : List Keyword).isEmpty then 0 else 1) < 30)) = true := by rfl) (hline : (apos.endLine == cpos.line) = true := by rfl)
    (he : starEach [e] X.env = (false, eval e X.env) :: starEach [] X.env := by rfl) (hpl : (backTo cpos (starEach [] X.env)).any (·.1) = false := by rfl) : PE X (.Call (.Attribute o "extend" apos) [e] [] cpos) (te C W (meth "list" fExtend co as)) :=
  e_meth hK PySem.F.plainAttrs_list PySem.F.slot_list_extend PySem.F.type_list_extend mt_extend fExtend_ok ho ha hbase hfew hline he hpl
end
end Ly
/-! Defs: what is left of the store behind a call; calls. -/
namespace Ly
open PySem PySem.Spec PyProof.Rows L2

mutual
/-- a value that leaves a def: the lists it made are nobody's from then on -/
def fz (n : Nat) (st : Sto) : D → Option D
  | .ref i => if i < n then some (.ref i) else match st[i]? with
    | some (.lst xs) => if D.clL n xs = true then some (.lst xs) else none
    | some (.dct ks xs) => if D.clL n xs = true then some (.dic ks xs) else none
    | _ => none
  | .tup xs => (fzL n st xs).map .tup
  | .lst xs => (fzL n st xs).map .lst
  | .dic ks xs => (fzL n st xs).map (.dic ks)
  | .non => some .non
  | .bl b => some (.bl b)
  | .int i => some (.int i)
  | .str s => some (.str s)
  | .exc c => some (.exc c)
  | .scr ns => some (.scr ns)
def fzL (n : Nat) (st : Sto) : List D → Option (List D)
  | [] => some []
  | x :: xs => match fz n st x, fzL n st xs with
    | some y, some ys => some (y :: ys)
    | _, _ => none
end
mutual
theorem fz_cl (n : Nat) (st : Sto) : ∀ d : D, D.cl n d = true → fz n st d = some d
  | .ref i, h => by
    simp [D.cl] at h
    simp [fz, h]
  | .tup xs, h => by
    simp [D.cl] at h
    simp [fz, fz_clL n st xs h]
  | .lst xs, h => by
    simp [D.cl] at h
    simp [fz, fz_clL n st xs h]
  | .dic ks xs, h => by
    simp [D.cl] at h
    simp [fz, fz_clL n st xs h]
  | .non, _ => by simp [fz]
  | .bl _, _ => by simp [fz]
  | .int _, _ => by simp [fz]
  | .str _, _ => by simp [fz]
  | .exc _, _ => by simp [fz]
  | .scr _, _ => by simp [fz]
theorem fz_clL (n : Nat) (st : Sto) : ∀ d : List D, D.clL n d = true → fzL n st d = some d
  | [], _ => by simp [fzL]
  | x :: xs, h => by
    simp [D.clL] at h
    simp [fzL, fz_cl n st x h.1, fz_clL n st xs h.2]
end
def gcOk (n : Nat) : Sto → Sto → Bool
  | [], _ => true
  | c :: cs, c' :: cs' => (decide (c' = c) || c'.cl n) && gcOk n cs cs'
  | _ :: _, [] => false
theorem gcOk_spec {n : Nat} : ∀ {a b : Sto}, gcOk n a b = true → ∀ (i : Nat) (c : Cell), i < a.length → b[i]? = some c → a[i]? = some c ∨ c.cl n = true
  | [], b, _, i, c, hi, _ => by simp at hi
  | x :: xs, [], h, i, c, _, _ => by simp [gcOk] at h
  | x :: xs, y :: ys, h, i, c, hi, e => by
    simp [gcOk] at h
    cases i with
    | zero =>
      simp at e
      subst e
      rcases h.1 with h | h
      · exact .inl (by rw [h]; rfl)
      · exact .inr h
    | succ i => exact gcOk_spec h.2 i c (by simpa using hi) (by simpa using e)
theorem gcOk_len {n : Nat} : ∀ {a b : Sto}, gcOk n a b = true → a.length ≤ b.length
  | [], b, _ => Nat.zero_le _
  | x :: xs, [], h => by simp [gcOk] at h
  | x :: xs, y :: ys, h => by
    simp [gcOk] at h
    simpa using gcOk_len h.2
def gcR (st : Sto) : R D → R D
  | .ok d st' => if gcOk st.length st st' = true then (match fz st.length st' d with
    | some d' => .ok d' (st'.take st.length)
    | none => .ok d st') else .ok d st'
  | .exc x st' => if gcOk st.length st st' = true then .exc x (st'.take st.length) else .exc x st'
  | .bad => .bad

section
variable {C : Ctx} {B B' : Bd} {st st' : Sto}
mutual
theorem cl_of : ∀ {d : D} {v : V}, Rep C B d v → D.cl B.m.length d = true
  | .ref i, v, h => by
    obtain ⟨a, q, _⟩ := h.ref_inv
    simp [D.cl]; exact (List.getElem?_eq_some_iff.mp q).1
  | .tup xs, v, h => by
    obtain ⟨a, vs, _, _, _, t⟩ := h.tup_inv
    simp [D.cl]; exact cl_ofL t
  | .lst xs, v, h => by
    unfold Rep at h
    obtain ⟨a, vs, _, _, _, t⟩ := h
    simp [D.cl]; exact cl_ofL t
  | .dic ks xs, v, h => by
    unfold Rep at h
    obtain ⟨a, vs, _, _, _, _, t⟩ := h
    simp [D.cl]; exact cl_ofL t
  | .non, v, _ => by simp [D.cl]
  | .bl _, v, _ => by simp [D.cl]
  | .int _, v, _ => by simp [D.cl]
  | .str _, v, _ => by simp [D.cl]
  | .exc _, v, _ => by simp [D.cl]
  | .scr _, v, _ => by simp [D.cl]
theorem cl_ofL : ∀ {d : List D} {v : List V}, RepL C B d v → D.clL B.m.length d = true
  | [], v, _ => by simp [D.clL]
  | x :: xs, v, h => by
    obtain ⟨u, r, _, q, t⟩ := h.cons_inv
    simp [D.clL]; exact ⟨cl_of q, cl_ofL t⟩
end
theorem cell_cl {a : Addr} {c : Cell} (h : CellRep C B a c) : c.cl B.m.length = true := by
  cases c with
  | lst ds => obtain ⟨vs, _, _, t⟩ := h; exact cl_ofL t
  | ins c ks ds => obtain ⟨_, _, _, _, _, _, t⟩ := h; exact cl_ofL t
  | dct ks ds => obtain ⟨_, _, _, t⟩ := h; exact cl_ofL t
  | dtt ks ds => obtain ⟨_, _, _, t⟩ := h; exact cl_ofL t
/-- the world without the places from n on; their lists are nobody's now -/
def cutB (B : Bd) (st : Sto) (n : Nat) : Bd := ⟨B.H, B.m.take n, fun a => B.F a ∨ ∃ i, n ≤ i ∧ B.m[i]? = some a ∧ ((∃ xs, st[i]? = some (.lst xs)) ∨ ∃ ks xs, st[i]? = some (.dct ks xs)), B.Z⟩
mutual
theorem shrink {n : Nat} : ∀ {d : D} {v : V}, D.cl n d = true → Rep C B d v → Rep C (cutB B st n) d v
  | .ref i, v, h, r => by
    obtain ⟨a, q, rfl⟩ := r.ref_inv
    simp [D.cl] at h
    exact rep_ref (show (B.m.take n)[i]? = some a by rw [List.getElem?_take_of_lt h]; exact q)
  | .tup xs, v, h, r => by
    obtain ⟨a, vs, rfl, hz, q, t⟩ := r.tup_inv
    simp [D.cl] at h
    exact rep_tup hz q (shrinkL h t)
  | .lst xs, v, h, r => by
    unfold Rep at r ⊢
    obtain ⟨a, vs, e, hz, ⟨q1, q2⟩, t⟩ := r
    simp [D.cl] at h
    exact ⟨a, vs, e, hz, ⟨.inl q1, q2⟩, shrinkL h t⟩
  | .dic ks xs, v, h, r => by
    unfold Rep at r ⊢
    obtain ⟨a, vs, e, q1, q2, k, t⟩ := r
    simp [D.cl] at h
    exact ⟨a, vs, e, .inl q1, q2, k, shrinkL h t⟩
  | .non, v, _, r => by unfold Rep at r ⊢; exact r
  | .bl _, v, _, r => by unfold Rep at r ⊢; exact r
  | .int _, v, _, r => by unfold Rep at r ⊢; exact r
  | .str _, v, _, r => by unfold Rep at r ⊢; exact r
  | .exc _, v, _, r => by unfold Rep at r ⊢; exact r
  | .scr _, v, _, r => by unfold Rep at r ⊢; exact r
theorem shrinkL {n : Nat} : ∀ {d : List D} {v : List V}, D.clL n d = true → RepL C B d v → RepL C (cutB B st n) d v
  | [], v, _, r => by rw [r.nil_inv]; exact .nil
  | x :: xs, v, h, r => by
    obtain ⟨u, t, rfl, q, r⟩ := r.cons_inv
    simp [D.clL] at h
    exact .cons (shrink h.1 q) (shrinkL h.2 r)
end
mutual
theorem fz_rep {n : Nat} (R : RelH C B st) : ∀ {d d' : D} {v : V}, fz n st d = some d' → Rep C B d v → Rep C (cutB B st n) d' v
  | .ref i, d', v, h, r => by
    obtain ⟨a, q, rfl⟩ := r.ref_inv
    unfold fz at h
    split at h
    · rename_i hi
      cases h
      exact rep_ref (show (B.m.take n)[i]? = some a by rw [List.getElem?_take_of_lt hi]; exact q)
    · rename_i hi
      cases ec : st[i]? with
      | none => rw [ec] at h; cases h
      | some c =>
        rw [ec] at h
        have cr := R.cell i c a ec q
        cases c with
        | lst xs =>
          dsimp only at h
          split at h
          · rename_i hc
            cases h
            obtain ⟨vs, hH, hz, t⟩ := cr
            exact rep_lst hz (.inr ⟨i, by omega, q, .inl ⟨xs, ec⟩⟩) hH (shrinkL hc t)
          · cases h
        | dct ks xs =>
          dsimp only at h
          split at h
          · rename_i hc
            cases h
            obtain ⟨kvs, hH, k, t⟩ := cr
            unfold Rep
            exact ⟨a, kvs, rfl, .inr ⟨i, by omega, q, .inr ⟨ks, xs, ec⟩⟩, hH, k, shrinkL hc t⟩
          · cases h
        | ins _ _ _ => cases h
        | dtt _ _ => cases h
  | .tup xs, d', v, h, r => by
    obtain ⟨a, vs, rfl, hz, q, t⟩ := r.tup_inv
    unfold fz at h
    cases e : fzL n st xs with
    | none => rw [e] at h; cases h
    | some ys =>
      rw [e] at h; cases h
      exact rep_tup hz q (fz_repL R e t)
  | .lst xs, d', v, h, r => by
    unfold Rep at r
    obtain ⟨a, vs, rfl, hz, ⟨q1, q2⟩, t⟩ := r
    unfold fz at h
    cases e : fzL n st xs with
    | none => rw [e] at h; cases h
    | some ys =>
      rw [e] at h; cases h
      exact rep_lst hz (.inl q1) q2 (fz_repL R e t)
  | .dic ks xs, d', v, h, r => by
    unfold Rep at r
    obtain ⟨a, vs, rfl, q1, q2, k, t⟩ := r
    unfold fz at h
    cases e : fzL n st xs with
    | none => rw [e] at h; cases h
    | some ys =>
      rw [e] at h; cases h
      unfold Rep
      exact ⟨a, vs, rfl, .inl q1, q2, k, fz_repL R e t⟩
  | .non, d', v, h, r => by unfold fz at h; cases h; unfold Rep at r ⊢; exact r
  | .bl _, d', v, h, r => by unfold fz at h; cases h; unfold Rep at r ⊢; exact r
  | .int _, d', v, h, r => by unfold fz at h; cases h; unfold Rep at r ⊢; exact r
  | .str _, d', v, h, r => by unfold fz at h; cases h; unfold Rep at r ⊢; exact r
  | .exc _, d', v, h, r => by unfold fz at h; cases h; unfold Rep at r ⊢; exact r
  | .scr _, d', v, h, r => by unfold fz at h; cases h; unfold Rep at r ⊢; exact r
theorem fz_repL {n : Nat} (R : RelH C B st) : ∀ {d d' : List D} {v : List V}, fzL n st d = some d' → RepL C B d v → RepL C (cutB B st n) d' v
  | [], d', v, h, r => by unfold fzL at h; cases h; rw [r.nil_inv]; exact .nil
  | x :: xs, d', v, h, r => by
    obtain ⟨u, t, rfl, q, r⟩ := r.cons_inv
    unfold fzL at h
    cases e1 : fz n st x with
    | none => rw [e1] at h; cases h
    | some y =>
      cases e2 : fzL n st xs with
      | none => rw [e1, e2] at h; cases h
      | some ys =>
        rw [e1, e2] at h; cases h
        exact .cons (fz_rep R e1 q) (fz_repL R e2 r)
end
theorem cut_relH {st0 : Sto} {B0 : Bd} (R0 : RelH C B0 st0) (x : Ext C B0 B) (R : RelH C B st) (g : gcOk st0.length st0 st = true) :
    Ext C B0 (cutB B st st0.length) ∧ RelH C (cutB B st st0.length) (st.take st0.length) := by
  have hle := gcOk_len g
  have hmt : B.m.take st0.length = B0.m := by
    apply List.ext_getElem?
    intro i
    by_cases hi : i < st0.length
    · rw [List.getElem?_take_of_lt hi]
      have hi0 : i < B0.m.length := by rw [R0.len]; exact hi
      rw [List.getElem?_eq_getElem hi0]
      exact x.mm i _ (List.getElem?_eq_getElem hi0)
    · rw [List.getElem?_eq_none (by rw [List.length_take]; omega), List.getElem?_eq_none (by rw [R0.len]; omega)]
  refine ⟨⟨fun a vs h => x.tup a vs h, fun a h => ⟨.inl (x.fz a h).1, (x.fz a h).2⟩, fun i a h => ?_, x.zz⟩, ⟨?_, ?_, fun a ha hF => ?_, fun i c a h1 h2 => ?_, fun a h => ?_, R.scr, fun q hq => ⟨(R.zz q hq).1, fun hm => (R.zz q hq).2.1 (List.mem_of_mem_take hm), fun hF => ?_⟩⟩⟩
  · show (B.m.take st0.length)[i]? = some a
    rw [hmt]; exact h
  · show (B.m.take st0.length).length = _
    rw [List.length_take, List.length_take, R.len]
  · exact R.nd.sublist (List.take_sublist _ _)
  · have ha : a ∈ B.m.take st0.length := ha
    rcases hF with hF | ⟨i, hi, hm, _⟩
    · exact R.sep a (List.mem_of_mem_take ha) hF
    · obtain ⟨j, hj⟩ := List.mem_iff_getElem?.mp ha
      have hjl : j < st0.length := by
        have := (List.getElem?_eq_some_iff.mp hj).1
        rw [List.length_take] at this; omega
      rw [List.getElem?_take_of_lt hjl] at hj
      have := nodupIx R.nd hj hm
      omega
  · have h2 : (B.m.take st0.length)[i]? = some a := h2
    have hi : i < st0.length := by
      have := (List.getElem?_eq_some_iff.mp h2).1
      rw [List.length_take] at this; omega
    rw [List.getElem?_take_of_lt hi] at h1 h2
    have cr := R.cell i c a h1 h2
    have hcl : c.cl st0.length = true := by
      rcases gcOk_spec g i c hi h1 with h | h
      · have hm0 : B0.m[i]? = some a := by
          rw [← hmt, List.getElem?_take_of_lt hi]; exact h2
        have := cell_cl (R0.cell i c a h hm0)
        rw [R0.len] at this
        exact this
      · exact h
    cases c with
    | lst ds => obtain ⟨vs, q, z, t⟩ := cr; exact ⟨vs, q, z, shrinkL hcl t⟩
    | ins c ks ds => obtain ⟨Ca, dx, fvs, g', q, k, t⟩ := cr; exact ⟨Ca, dx, fvs, g', q, k, shrinkL hcl t⟩
    | dct ks ds => obtain ⟨kvs, q, k, t⟩ := cr; exact ⟨kvs, q, k, shrinkL hcl t⟩
    | dtt ks ds => obtain ⟨kvs, q, k, t⟩ := cr; exact ⟨kvs, q, k, shrinkL hcl t⟩
  · rcases h with h | ⟨i, hi, hm, _⟩
    · exact R.fz a h
    · obtain ⟨o, e, _⟩ := R.mut (List.mem_of_getElem? hm)
      show B.H a ≠ none
      rw [e]; intro z; cases z
  · rcases hF with hF | ⟨i, hi, hm, _⟩
    · exact (R.zz q hq).2.2 hF
    · exact (R.zz q hq).2.1 (List.mem_of_getElem? hm)

/-- what is wanted behind a call -/
def postF (C : Ctx) (B : Bd) (Q : VK) (E : XK) : R D → Prop
  | .ok d st' => ∀ v B', Ext C B B' → RelH C B' st' → Rep C B' d v → Q v B'.H
  | .exc x st' => ∀ cls B', C.mg x = some cls → Ext C B B' → RelH C B' st' → E cls none B'.H
  | .bad => False
theorem gc_post {Q : VK} {E : XK} {r : R D} (R0 : RelH C B st) (h : postF C B Q E (gcR st r)) : postF C B Q E r := by
  cases r with
  | bad => exact h
  | exc x st' =>
    unfold gcR at h
    dsimp only at h
    split at h
    · rename_i g
      intro cls B' hm x' R'
      obtain ⟨x2, r2⟩ := cut_relH R0 x' R' g
      exact h cls (cutB B' st' st.length) hm x2 r2
    · exact h
  | ok d st' =>
    unfold gcR at h
    dsimp only at h
    split at h
    · rename_i g
      split at h
      · rename_i d' e
        intro v B' x' R' q
        obtain ⟨x2, r2⟩ := cut_relH R0 x' R' g
        exact h v (cutB B' st' st.length) x2 r2 (fz_rep R' e q)
      · exact h
    · exact h
end

/-! ### defs -/
def spOf (C : Ctx) (n : Nat) (f : List D → Sto → R D) : Sp := fun vs H Q E => vs.length = n ∧ ∃ ds st B, B.H = H ∧ RelH C B st ∧ RepL C B ds vs ∧ postF C B Q E (f ds st)
def finish : RS → R D
  | .nx _ st => .ok .non st
  | .ret d st => .ok d st
  | .exc x _ st => .exc x st
  | _ => .bad
/-- a def of n parameters and N names -/
def fn (n N : Nat) (body : MS) (ds : List D) (st : Sto) : R D := if ds.length = n then gcR st (finish (body (ds.map some ++ List.replicate (N - ds.length) none) st)) else .bad
theorem relE_start {C : Ctx} {B : Bd} {N : List Str} : ∀ {ds : List D} {vs : List V}, RepL C B ds vs → RelE C B (ds.map some ++ List.replicate (N.length - ds.length) none) (L2.start N vs) := fun {ds vs} h => by
  unfold L2.start
  rw [← h.length]
  refine ⟨by simp [h.length], fun i d e => ?_⟩
  by_cases hi : i < ds.length
  · rw [List.getElem?_append_left (by simpa using hi), List.getElem?_map] at e
    cases q : ds[i]? with
    | none => rw [q] at e; cases e
    | some d' =>
      rw [q] at e; cases e
      obtain ⟨v, h1, h2⟩ := h.get q
      exact ⟨v, by rw [List.getElem?_append_left (by simp [h.length]; exact hi), List.getElem?_map, h1]; rfl, h2⟩
  · rw [List.getElem?_append_right (by simpa using hi), List.getElem?_replicate] at e
    split at e <;> cases e
section
variable {P : Program} {w : World} {K : PySem.W.Frag} {mg : Str → Option Value} {base : Heap}
theorem fn_ok {x qual : Str} {st : Stmt} {f : Addr} {fd : FuncData} {N ps : List Str} {k : Nat} {C : Ctx} {body : MS} (F : Fun K x qual st f fd) (S : FnScope N ps (defScope st))
    (hb : ∀ (cdv : Value) (A : Around) (outer : List Env) (s : Shared) (H : Hp) (E : XK), Room k (A.deeper (envOfC qual (defScope st) s.heap.objs.size f cdv)) →
      PSs (cxOf (L2.CX P w) P w K mg base N qual (defScope st) f cdv A outer s H E) (defBody st) (ts C (fun cls d _ H => E cls d H) body)) :
    FnOk P w K mg base (L2.CX P w) (k + 1) f fd ps (spOf C ps.length (fn ps.length N.length body)) := by
  refine F.okX S (fun vs H Q E h => h.1) fun cdv A outer s H vs Q E hr hsp => ⟨_, hb cdv A outer s H E hr, ?_⟩
  obtain ⟨hl, ds, st, B, e, R, rl, p⟩ := hsp
  subst e
  unfold fn at p
  rw [if_pos (by rw [← rl.length]; exact hl)] at p
  have p := gc_post R p
  refine ⟨_, st, B, rfl, ⟨R, relE_start rl⟩, ?_⟩
  cases q : body (ds.map some ++ List.replicate (N.length - ds.length) none) st with
  | nx e st' => rw [q] at p; exact fun σ' B' x r => p .non B' x r.h rep_non
  | ret d st' => rw [q] at p; exact fun v B' x r t => p v B' x r t
  | bk e st' => rw [q] at p; exact p.elim
  | ct e st' => rw [q] at p; exact p.elim
  | exc x e st' => rw [q] at p; exact fun cls σ' B' g x r => p cls B' g x r.h
  | bad => rw [q] at p; exact p.elim
/-- a def at its name -/
structure Df (P : Program) (w : World) (K : PySem.W.Frag) (mg : Str → Option Value) (base : Heap) (C : Ctx) (k : Nat) (x : Str) (n : Nat) (f : List D → Sto → R D) : Prop where
  ex : ∃ fa fd ps, FnOk P w K mg base (L2.CX P w) k fa fd ps (spOf C n f) ∧ mg x = some (.ref fa) ∧ PySem.W.keepIn K (.ref fa) = true ∧ Binds K fd ps []
  ar : ∀ ds st, ds.length ≠ n → f ds st = .bad
theorem fn_ar {n N : Nat} {body : MS} : ∀ ds st, ds.length ≠ n → fn n N body ds st = .bad := fun ds st h => by unfold fn; rw [if_neg h]
/-- what a def of the text is, by its facts -/
structure StF (K : PySem.W.Frag) (mg : Str → Option Value) (x qual : Str) (st : Stmt) (ps : List Str) : Prop where
  ex : ∃ f fd, Fun K x qual st f fd ∧ mg x = some (.ref f) ∧ Binds K fd ps []
theorem df_ok {x qual : Str} {st : Stmt} {N ps : List Str} {k : Nat} {C : Ctx} {body : MS} (F : StF K mg x qual st ps) (S : FnScope N ps (defScope st))
    (hb : ∀ (f : Addr) (cdv : Value) (A : Around) (outer : List Env) (s : Shared) (H : Hp) (E : XK), Room k (A.deeper (envOfC qual (defScope st) s.heap.objs.size f cdv)) →
      PSs (cxOf (L2.CX P w) P w K mg base N qual (defScope st) f cdv A outer s H E) (defBody st) (ts C (fun cls d _ H => E cls d H) body)) :
    Df P w K mg base C (k + 1) x ps.length (fn ps.length N.length body) := by
  obtain ⟨f, fd, h, g, b⟩ := F.ex
  exact ⟨⟨f, fd, ps, fn_ok h S (hb f), g, h.kp, b⟩, fn_ar⟩
theorem Df.mono {C : Ctx} {j k : Nat} {x : Str} {n : Nat} {f : List D → Sto → R D} (h : Df P w K mg base C j x n f) (hj : j ≤ k) : Df P w K mg base C k x n f := by
  obtain ⟨fa, fd, ps, h1, h2⟩ := h.ex
  exact ⟨⟨fa, fd, ps, h1.mono hj, h2⟩, h.ar⟩
end
def callF (f : List D → Sto → R D) (as : M (List D)) : M D := bnd as fun ds => fun _ st => f ds st
section
variable {X : Cx} {C : Ctx} {W : WX} {e : Expr} {es : List Expr} {as : M (List D)} {x : Str} {p pos : Pos} {k n : Nat} {f : List D → Sto → R D}
/-- exceptions of a callee are taken -/
abbrev Pass (X : Cx) (W : WX) : Prop := ∀ σ, PassesAt (L2.CX X.prog X.w) X σ (WE W σ)
theorem pass_of {W : WX} (tk : Takes X W) : Pass X W := fun σ => passAt tk σ
theorem pass0W : Pass X W0 := fun σ _ _ _ _ _ _ h => by
  obtain ⟨_, _, _, _, _, _, _, _, _, _, _, _, z⟩ := h
  exact z.elim
theorem sp_of {env : Ev} {σ : Sl} {B : Bd} {st : Sto} {ds : List D} {vs : List V} {Q : VK} (har : ∀ ds st, ds.length ≠ n → f ds st = .bad) (r : Rel C B env σ st) (rl : RepL C B ds vs) (h : post C W (fun B => Rep C B) σ env B Q (f ds st)) : spOf C n f vs B.H Q (WE W σ) := by
  have hn : ds.length = n := by
    by_cases hn : ds.length = n
    · exact hn
    · rw [har ds st hn] at h; exact h.elim
  refine ⟨by rw [rl.length]; exact hn, ds, st, B, rfl, r.h, rl, ?_⟩
  cases q : f ds st with
  | ok d st' => rw [q] at h; exact fun v B' x' R' t => h v B' x' (r.of x' R') t
  | exc y st' => rw [q] at h; exact fun cls B' g x' R' => h cls B' g x' (r.of x' R')
  | bad => rw [q] at h; exact h.elim
theorem e_call (F : Df X.prog X.w X.K X.mg X.base C k x n f) (hr : Room k X.A) (hx : Pass X W) (ha : PA X (e :: es) (ta C W as)) (hg : Gl X x := by rfl) (hdb : (x == ("__debug__" : Str)) = false := by decide)
    (he : starEach (e :: es) X.env = (false, eval e X.env) :: starEach es X.env := by rfl) (hpl : (backTo pos (starEach es X.env)).any (·.1) = false := by rfl) :
    PE X (.Call (.Name x p) (e :: es) [] pos) (te C W (callF f as)) := by
  obtain ⟨fa, fd, ps, h1, h2, h3, h4⟩ := F.ex
  exact (pe_callS h1 hr hg h2 h3 h4 hx ha hdb he hpl).imp fun σ H Q ⟨env, st, B, e, r, q⟩ => by
    subst e
    refine (seq r q).mono fun vs H1 ⟨ds, st1, B1, e1, x1, r1, p1, k1⟩ => ?_
    subst e1
    exact sp_of F.ar r1 p1 k1
end

/-! ### the law -/
def spLaw (K : PySem.W.Frag) (f : List D → Sto → R D) : Sp := fun vs H Q E => vs.length = 1 ∧ ∀ mg : Str → Option Value, ∃ S ns, spOf ⟨K, mg, S, ns⟩ 1 f vs H Q E
theorem law_fn {P : Program} {w : World} {K : PySem.W.Frag} {mg : Str → Option Value} {base : Heap} {k : Nat} {fa : Addr} {fd : FuncData} {ps : List Str} {f : List D → Sto → R D} (hl : ps.length = 1)
    (F : ∀ S ns, FnOk P w K mg base (L2.CX P w) k fa fd ps (spOf ⟨K, mg, S, ns⟩ 1 f)) : FnOk P w K mg base (L2.CX P w) k fa fd ps (spLaw K f) :=
  ⟨fun vs H Q E h => by rw [hl]; exact h.1, fun A outer s H args us vs Q E hr e0 hb hv h => by
    obtain ⟨S, ns, h⟩ := h.2 mg
    exact (F S ns).run A outer s H args us vs Q E hr e0 hb hv h⟩
theorem law_sp {K : PySem.W.Frag} {f : List D → Sto → R D} {H : Hp} {a : Addr} {ns : List Int} (hf : ∃ st, f [.scr ns] [] = .ok (.bl true) st) (hn : ns.length ≤ 63) (hO : Only H) (hS : SqL K H a (ns.map V.int)) :
    spLaw K f [.ref a] H (fun v _ => v = .bl true) fun _ _ _ => False := by
  refine ⟨rfl, fun mg => ⟨a, ns, rfl, [.scr ns], [], ⟨H, [], fun _ => False, []⟩, rfl, ⟨rfl, List.nodup_nil, fun _ h => (by cases h), fun i c b h => by simp at h, fun _ h => h.elim, ⟨Nat.le_trans hn (by decide), ?_⟩, fun _ h => by cases h⟩, .cons ?_ .nil, ?_⟩⟩
  · rcases hS with (h | h) | h
    · rcases hO a with z | ⟨o, xs, z⟩
      · rw [h] at z; cases z
      · rw [h] at z; cases z
    · exact .inl h
    · exact .inr h
  · unfold Rep; exact ⟨rfl, rfl⟩
  · obtain ⟨st, e⟩ := hf
    rw [e]
    exact fun v B' x R q => q.bl_inv
end Ly
/-! More rules. -/
namespace Ly
open PySem PySem.Spec PyProof.Rows L2

/-! ### comparisons as tests -/
section
variable {X : Cx} {C : Ctx} {W : WX} {a b c : Expr} {ca cb cc : M D} {pos : Pos}
theorem tst_rd {cx : M D} {t : TE} (h : ∀ σ H Q, te C W cx σ H Q → t σ H Q) : ∀ σ H Q, tb C W (tst cx) σ H Q → tTest t σ H Q := fun σ H Q ⟨env, st, B, e, rr, p⟩ => by
  subst e
  refine h _ _ _ ((seq rr p).mono fun v H1 ⟨x, st1, B1, e1, x1, r1, p1, k1⟩ => ?_)
  subst e1
  split at k1
  · exact ⟨_, p1.bl_inv, k1 _ B1 (Ext.refl _ _) r1 rfl⟩
  · exact k1.elim
theorem t_cmpG {op : CmpOp} {f : D → D → Sto → Option (D × Sto)} {r : R2} (ho : OpR X (compareOp op) r) (hb : BinOk C f r) (ha : PE X a (te C W ca)) (hb' : PE X b (te C W cb)) (hm : behindInMarks op b = false) : PT X (.Compare a [op] [b] pos) (tb C W (tst (bin f ca cb))) :=
  (pt_cmpR ho ha hb' hm).imp (tst_rd (bin_rd hb))
theorem t_lt (ha : PE X a (te C W ca)) (hb : PE X b (te C W cb)) : PT X (.Compare a [.Lt] [b] pos) (tb C W (tst (bin opLt ca cb))) := t_cmpG op_lt opCmp_ok ha hb (nomark _)
theorem t_le (ha : PE X a (te C W ca)) (hb : PE X b (te C W cb)) : PT X (.Compare a [.LtE] [b] pos) (tb C W (tst (bin opLe ca cb))) := t_cmpG op_le opCmp_ok ha hb (nomark _)
theorem t_gt (ha : PE X a (te C W ca)) (hb : PE X b (te C W cb)) : PT X (.Compare a [.Gt] [b] pos) (tb C W (tst (bin opGt ca cb))) := t_cmpG op_gt opCmp_ok ha hb (nomark _)
theorem t_ge (ha : PE X a (te C W ca)) (hb : PE X b (te C W cb)) : PT X (.Compare a [.GtE] [b] pos) (tb C W (tst (bin opGe ca cb))) := t_cmpG op_ge opCmp_ok ha hb (nomark _)
theorem t_eq (hK : C.K = X.K := by rfl) (hu : X.A.units + 64 < cLine) (ha : PE X a (te C W ca)) (hb : PE X b (te C W cb)) : PT X (.Compare a [.Eq] [b] pos) (tb C W (tst (bin opEq ca cb))) := t_cmpG (op_eq.or (hK ▸ op_eqD hu)) opEq_ok ha hb (nomark _)
theorem t_ne (hK : C.K = X.K := by rfl) (hu : X.A.units + 64 < cLine) (ha : PE X a (te C W ca)) (hb : PE X b (te C W cb)) : PT X (.Compare a [.NotEq] [b] pos) (tb C W (tst (bin opNe ca cb))) := t_cmpG (op_ne.or (hK ▸ op_neD hu)) opNe_ok ha hb (nomark _)
theorem t_isN (ha : PE X a (te C W ca)) (hb : PE X b (te C W cb)) : PT X (.Compare a [.Is] [b] pos) (tb C W (tst (bin opIsN ca cb))) := t_cmpG op_isN opIsN_ok ha hb (nomark _)
theorem t_notN (ha : PE X a (te C W ca)) (hb : PE X b (te C W cb)) : PT X (.Compare a [.IsNot] [b] pos) (tb C W (tst (bin opNotN ca cb))) := t_cmpG op_notN opNotN_ok ha hb (nomark _)
theorem chain_rd {f g : D → D → Sto → Option (D × Sto)} {r r' : R2} (hf : BinOk C f r) (hg : BinOk C g r') : ∀ σ H Q, te C W (chain f g ca cb cc) σ H Q → tChain r r' (te C W ca) (te C W cb) (te C W cc) σ H Q := fun σ H Q ⟨env, st, B, e, rr, p⟩ => by
  subst e
  refine (seq rr p).mono fun v H1 ⟨x, st1, B1, e1, x1, r1, p1, k1⟩ => ?_
  subst e1
  refine (seq r1 k1).mono fun u H2 ⟨y, st2, B2, e2, x2, r2, p2, k2⟩ => ?_
  subst e2
  cases ef : f x y st2 with
  | none => unfold bnd lift at k2; rw [ef] at k2; exact k2.elim
  | some q =>
    obtain ⟨d, st3⟩ := q
    unfold bnd lift at k2
    rw [ef] at k2
    dsimp only at k2
    refine hf B2 st2 x y v u _ d st3 r2.h (p1.mono x2) p2 ef fun v' B3 x3 r3 q3 => ?_
    have rr3 := r2.of x3 r3
    split at k2
    · refine ⟨true, q3.bl_inv, ?_⟩
      rw [if_pos rfl]
      have k2 : post C W (fun B => Rep C B) σ env B2 Q (bnd cc (fun z => lift (g y z)) env st3) := k2
      refine (seq rr3 (k2.later x3)).mono fun w H4 ⟨z, st4, B4, e4, x4, r4, p4, k4⟩ => ?_
      subst e4
      obtain ⟨d', st', e, k⟩ := post_lift k4
      exact hg B4 st4 y z u w Q d' st' r4.h (p2.mono (x3.trans x4)) p4 e fun v' B' x' h' q => k v' B' x' (r4.of x' h') q
    · refine ⟨false, q3.bl_inv, ?_⟩
      rw [if_neg Bool.false_ne_true]
      exact k2 (.bl false) B3 x3 rr3 rep_bl
    · exact k2.elim
theorem t_le_le (ha : PE X a (te C W ca)) (hb : PE X b (te C W cb)) (hc : PE X c (te C W cc)) (hm : lastMarks [.LtE, .LtE] [b, c] = false := by with_unfolding_all rfl) : PT X (.Compare a [.LtE, .LtE] [b, c] pos) (tb C W (tst (chain opLe opLe ca cb cc))) := (pt_chain op_le op_le ha hb hc hm).imp (tst_rd (chain_rd opCmp_ok opCmp_ok))
theorem t_le_lt (ha : PE X a (te C W ca)) (hb : PE X b (te C W cb)) (hc : PE X c (te C W cc)) (hm : lastMarks [.LtE, .Lt] [b, c] = false := by with_unfolding_all rfl) : PT X (.Compare a [.LtE, .Lt] [b, c] pos) (tb C W (tst (chain opLe opLt ca cb cc))) := (pt_chain op_le op_lt ha hb hc hm).imp (tst_rd (chain_rd opCmp_ok opCmp_ok))

/-! ### in -/
def D.flat : D → Bool
  | .non => true
  | .bl _ => true
  | .int _ => true
  | .str _ => true
  | _ => false
theorem flat_eqV {B : Bd} {x y : D} {v u : V} (hx : x.flat = true) (hy : y.flat = true) (rx : Rep C B x v) (ry : Rep C B y u) : flatV v = true ∧ flatV u = true ∧ eqV v u = D.eq x y := by
  have ev : ∀ {x : D} {v : V}, x.flat = true → Rep C B x v → (x = .non ∧ v = .non) ∨ (∃ b, x = .bl b ∧ v = .bl b) ∨ (∃ i, x = .int i ∧ v = .int i) ∨ ∃ s, x = .str s ∧ v = .str s := fun {x v} h r => by
    cases x <;> first | (simp [D.flat] at h; done) | skip
    · exact .inl ⟨rfl, r.non_inv⟩
    · exact .inr (.inl ⟨_, rfl, r.bl_inv⟩)
    · exact .inr (.inr (.inl ⟨_, rfl, r.int_inv⟩))
    · exact .inr (.inr (.inr ⟨_, rfl, r.str_inv⟩))
  rcases ev hx rx with ⟨rfl, rfl⟩ | ⟨_, rfl, rfl⟩ | ⟨_, rfl, rfl⟩ | ⟨_, rfl, rfl⟩ <;> rcases ev hy ry with ⟨rfl, rfl⟩ | ⟨_, rfl, rfl⟩ | ⟨_, rfl, rfl⟩ | ⟨_, rfl, rfl⟩ <;>
    exact ⟨rfl, rfl, by simp [eqV, D.eq]⟩
theorem flat_all {B : Bd} {x : D} {v : V} (hx : x.flat = true) (rx : Rep C B x v) : ∀ {ds : List D} {vs : List V}, ds.all D.flat = true → RepL C B ds vs → vs.all flatV = true ∧ (vs.any fun y => eqV y v) = ds.any fun y => D.eq y x
  | [], vs, _, r => by rw [r.nil_inv]; exact ⟨rfl, rfl⟩
  | d :: ds, vs, h, r => by
    obtain ⟨u, t, rfl, q, r⟩ := r.cons_inv
    rw [List.all_cons, Bool.and_eq_true] at h
    obtain ⟨h1, h2, h3⟩ := flat_eqV h.1 hx q rx
    obtain ⟨h4, h5⟩ := flat_all hx rx h.2 r
    rw [List.all_cons, List.any_cons, List.any_cons, h1, h4, h3, h5]
    exact ⟨rfl, rfl⟩
def inF (neg : Bool) (x y : D) (st : Sto) : Option (D × Sto) := (seqOf st y).bind fun ys => if x.flat && ys.all D.flat then some (.bl (if neg then !(ys.any fun y => D.eq y x) else ys.any fun y => D.eq y x), st) else none
theorem inF_ok {neg : Bool} : BinOk C (inF neg) (rIn C.K neg) := fun B st x y v u Q d st' R rx ry e k => by
  unfold inF at e
  cases ey : seqOf st y with
  | none => rw [ey] at e; cases e
  | some ys =>
    rw [ey, Option.bind_some] at e
    split at e
    · rename_i h
      rw [Bool.and_eq_true] at h
      cases e
      obtain ⟨a, us, rfl, hq, hz, rl⟩ := seqOf_rep R ey ry
      obtain ⟨h4, h5⟩ := flat_all h.1 rx h.2 rl
      refine ⟨a, us, rfl, hq, (flat_eqV h.1 h.1 rx rx).1, h4, ?_⟩
      unfold inV
      rw [h5]
      exact k _ B (Ext.refl _ _) R rep_bl
    · cases e
/-- a sign in a text -/
def inS (neg : Bool) (x y : D) (st : Sto) : Option (D × Sto) := match x, y with
  | .str a, .str z => match a.cps.toList with
    | [c] => some (.bl (if neg then !decide (c ∈ z.cps.toList) else decide (c ∈ z.cps.toList)), st)
    | _ => none
  | _, _ => none
def opIn (x y : D) (st : Sto) : Option (D × Sto) := match y with
  | .str _ => inS false x y st
  | _ => inF false x y st
def opNotIn (x y : D) (st : Sto) : Option (D × Sto) := match y with
  | .str _ => inS true x y st
  | _ => inF true x y st
end
theorem cps_one {a : Str} {c : Nat} (h : a.cps.toList = [c]) : a = ⟨#[c]⟩ := by
  obtain ⟨⟨l⟩⟩ := a
  simp at h
  rw [h]
section
variable {X : Cx} {C : Ctx} {W : WX} {a b c : Expr} {ca cb cc : M D} {pos : Pos}
theorem inS_ok {neg : Bool} : BinOk C (inS neg) (fun x y H Q => ∃ c z, x = .str ⟨#[c]⟩ ∧ y = .str z ∧ Q (.bl (if neg then !decide (c ∈ z.cps.toList) else decide (c ∈ z.cps.toList))) H) := fun B st x y v u Q d st' R rx ry e k => by
  unfold inS at e
  split at e
  · split at e
    · rename_i c h
      cases e
      rw [rx.str_inv, ry.str_inv, cps_one h]
      exact ⟨_, _, rfl, rfl, k _ B (Ext.refl _ _) R rep_bl⟩
    · cases e
  · cases e
theorem BinOk.or {f g h : D → D → Sto → Option (D × Sto)} {r r' : R2} (hf : BinOk C f r) (hg : BinOk C g r') (hh : ∀ x y st, h x y st = f x y st ∨ h x y st = g x y st) : BinOk C h (fun x y H Q => r x y H Q ∨ r' x y H Q) := fun B st x y v u Q d st' R rx ry e k => by
  rcases hh x y st with q | q
  · exact .inl (hf B st x y v u Q d st' R rx ry (q ▸ e) k)
  · exact .inr (hg B st x y v u Q d st' R rx ry (q ▸ e) k)
theorem opIn_alt (x y : D) (st : Sto) : opIn x y st = inS false x y st ∨ opIn x y st = inF false x y st := by unfold opIn; split <;> simp
theorem opNotIn_alt (x y : D) (st : Sto) : opNotIn x y st = inS true x y st ∨ opNotIn x y st = inF true x y st := by unfold opNotIn; split <;> simp
theorem e_in (hK : C.K = X.K := by rfl) (ha : PE X a (te C W ca)) (hb : PE X b (te C W cb)) (hm : behindInMarks .In b = false := by rfl) : PE X (.Compare a [.In] [b] pos) (te C W (bin opIn ca cb)) := e_cmp (op_in_sign.or (hK ▸ op_in_seq)) (inS_ok.or inF_ok opIn_alt) ha hb hm
theorem e_notIn (hK : C.K = X.K := by rfl) (ha : PE X a (te C W ca)) (hb : PE X b (te C W cb)) (hm : behindInMarks .NotIn b = false := by rfl) : PE X (.Compare a [.NotIn] [b] pos) (te C W (bin opNotIn ca cb)) := e_cmp (op_notIn_sign.or (hK ▸ op_notIn_seq)) (inS_ok.or inF_ok opNotIn_alt) ha hb hm
theorem t_in (hK : C.K = X.K := by rfl) (ha : PE X a (te C W ca)) (hb : PE X b (te C W cb)) (hm : behindInMarks .In b = false := by rfl) : PT X (.Compare a [.In] [b] pos) (tb C W (tst (bin opIn ca cb))) := t_cmpG (op_in_sign.or (hK ▸ op_in_seq)) (inS_ok.or inF_ok opIn_alt) ha hb hm
theorem t_notIn (hK : C.K = X.K := by rfl) (ha : PE X a (te C W ca)) (hb : PE X b (te C W cb)) (hm : behindInMarks .NotIn b = false := by rfl) : PT X (.Compare a [.NotIn] [b] pos) (tb C W (tst (bin opNotIn ca cb))) := t_cmpG (op_notIn_sign.or (hK ▸ op_notIn_seq)) (inS_ok.or inF_ok opNotIn_alt) ha hb hm

/-! ### globals -/
theorem e_globI {x : Str} {i : Int} (hm : ∃ t, X.mg x = some (.int i t)) (hg : Gl X x := by rfl) (hd : (x == ("__debug__" : Str)) = false := by decide) : PE X (.Name x pos) (te C W (ret (.int i))) := by
  obtain ⟨t, h⟩ := hm
  exact e_glob (v := .int i) hg h ⟨t, rfl⟩ (fun _ => rep_int) hd
theorem e_globS {x : Str} {i : Str} (hm : ∃ t, X.mg x = some (.str i t)) (hg : Gl X x := by rfl) (hd : (x == ("__debug__" : Str)) = false := by decide) : PE X (.Name x pos) (te C W (ret (.str i))) := by
  obtain ⟨t, h⟩ := hm
  exact e_glob (v := .str i) hg h ⟨t, rfl⟩ (fun _ => rep_str) hd
/-! ### list.index -/
def fIndex (x : D) (ys : List D) (st : Sto) : Option (D × Sto) := match ys with
  | [y] => (rdOf st x).bind fun xs => if y.flat && xs.all D.flat then (xs.findIdx? fun z => D.eq z y).map fun (j : Nat) => (.int (j : Int), st) else none
  | _ => none
theorem fIndex_ok : MethOk C fIndex (rIndex C.K) := fun B st x xs v vs Q d st' R rx rl e k => by
  unfold fIndex at e
  split at e
  · rename_i y
    cases ex : rdOf st x with
    | none => rw [ex] at e; cases e
    | some ds =>
      rw [ex, Option.bind_some] at e
      split at e
      · rename_i hf
        rw [Bool.and_eq_true] at hf
        cases ei : ds.findIdx? (fun z => D.eq z y) with
        | none => rw [ei] at e; cases e
        | some j =>
          rw [ei] at e
          cases e
          obtain ⟨vy, t2, rfl, qy, h2⟩ := rl.cons_inv
          rw [h2.nil_inv]
          obtain ⟨a, us, rfl, hq, hz, t⟩ := rdOf_rep R ex rx
          obtain ⟨h4, _⟩ := flat_all hf.1 qy hf.2 t
          obtain ⟨hj, hj1, hj2⟩ := List.findIdx?_eq_some_iff_getElem.mp ei
          have fl : ∀ (m : Nat) (dm : D), ds[m]? = some dm → dm.flat = true := fun m dm hm => (List.all_eq_true.mp hf.2) dm (List.mem_of_getElem? hm)
          obtain ⟨z, hz1, rz⟩ := t.get (List.getElem?_eq_getElem hj)
          refine ⟨a, us, vy, j, z, rfl, rfl, hq, (flat_eqV hf.1 hf.1 qy qy).1, h4, hz1, ?_, fun m z' hm hz' => ?_, k _ B (Ext.refl _ _) R rep_int⟩
          · rw [(flat_eqV (fl j _ (List.getElem?_eq_getElem hj)) hf.1 rz qy).2.2]; exact hj1
          · obtain ⟨dm, hd, rd⟩ := t.get' hz'
            rw [(flat_eqV (fl m _ hd) hf.1 rd qy).2.2]
            have hml : m < ds.length := by omega
            have := hj2 m hm
            rw [List.getElem?_eq_getElem hml] at hd
            cases hd
            simpa using this
      · cases e
  · cases e
theorem e_index {o e : Expr} {co : M D} {as : M (List D)} {apos cpos : Pos} (hK : C.K = X.K := by rfl) (ho : PE X o (te C W co)) (ha : PA X [e] (ta C W as)) (hbase : attributeBase o "index" X.env (eval o X.env) = eval o X.env := by rfl)
    (hfew : ((backTo cpos (starEach [e] X.env)).all (fun x => !x.1) && (backToKw cpos (keywordEach [] X.env)).all (fun x => x.1.isSome) && decide ([e].length + ([] : List Keyword).length + (if ([] : List Keyword).isEmpty then 0 else 1) < 30)) = true := by rfl) (hline : (apos.endLine == cpos.line) = true := by rfl)
    (he : starEach [e] X.env = (false, eval e X.env) :: starEach [] X.env := by rfl) (hpl : (backTo cpos (starEach [] X.env)).any (·.1) = false := by rfl) : PE X (.Call (.Attribute o "index" apos) [e] [] cpos) (te C W (meth "list" fIndex co as)) :=
  e_meth hK PySem.F.plainAttrs_list PySem.F.slot_list_index PySem.F.type_list_index (hK ▸ mt_index) fIndex_ok ho ha hbase hfew hline he hpl
/-! ### three at once -/
def mpar3 (i j l : Nat) (as : M (List D)) : MS := mk as fun ds => fun env st => match ds with
  | [a, b, c] => .nx (((env.set i (some a)).set j (some b)).set l (some c)) st
  | _ => .bad
theorem s_par3 {i j l : Nat} {x y z : Str} {as : M (List D)} {px py pz pt : Pos} {kt k2 pt2} (hc : X.calm = true := by rfl) (hN : X.N.Nodup) (hi : X.N[i]? = some x := by rfl) (hj : X.N[j]? = some y := by rfl) (hl : X.N[l]? = some z := by rfl) (hij : i ≠ j := by decide) (hil : i ≠ l := by decide) (hjl : j ≠ l := by decide)
    (hx : X.env.scope.names.lookup x = some .local := by rfl) (hy : X.env.scope.names.lookup y = some .local := by rfl) (hz : X.env.scope.names.lookup z = some .local := by rfl) (ha : PA X [a, b, c] (ta C W as))
    (hw : swappedStores [.Tuple [.Name x px, .Name y py, .Name z pz] kt pt] (.Tuple [a, b, c] k2 pt2) X.env = pure (some [x, y, z]) := by rfl)
    (hs : swapsWithSole [.Tuple [.Name x px, .Name y py, .Name z pz] kt pt] (.Tuple [a, b, c] k2 pt2) pos.line X.env = pure false := by rfl) :
    PS X (.Assign [.Tuple [.Name x px, .Name y py, .Name z pz] kt pt] (.Tuple [a, b, c] k2 pt2) pos) (ts C W (mpar3 i j l as)) := (ps_par3 hc hN hi hj hl hij hil hjl hx hy hz ha hw hs).imp fun E σ H ⟨env, st, B, e, r, q⟩ => by
  subst e
  refine (seqS r q).mono fun vs H1 ⟨ds, st1, B1, e1, x1, r1, p1, k1⟩ => ?_
  subst e1
  split at k1
  · obtain ⟨v, t, rfl, q, h⟩ := p1.cons_inv
    obtain ⟨v2, t2, rfl, q2, h2⟩ := h.cons_inv
    obtain ⟨v3, t3, rfl, q3, h3⟩ := h2.cons_inv
    rw [h3.nil_inv]
    exact ⟨v, v2, v3, rfl, k1 _ B1 (Ext.refl _ _) ⟨r1.h, ((r1.e.set i q).set j q2).set l q3⟩⟩
  · exact k1.elim
end
/-! ### the built-in types' names -/
theorem bt_int : bootBuiltins "int" = some (.type "int") := by decide +kernel
theorem bt_bool : bootBuiltins "bool" = some (.type "bool") := by decide +kernel
theorem bt_str : bootBuiltins "str" = some (.type "str") := by decide +kernel
theorem bt_list : bootBuiltins "list" = some (.type "list") := by decide +kernel
theorem bt_tuple : bootBuiltins "tuple" = some (.type "tuple") := by decide +kernel
theorem bt_dict : bootBuiltins "dict" = some (.type "dict") := by decide +kernel
/-! ### a recursion's floor -/
theorem df_bad {P : Program} {w : World} {K : PySem.W.Frag} {mg : Str → Option Value} {base : Heap} {C : Ctx} {k : Nat} {x qual : Str} {st : Stmt} {ps : List Str} (F : StF K mg x qual st ps) : Df P w K mg base C k x ps.length (fun _ _ => .bad) := by
  obtain ⟨f, fd, h, g, b⟩ := F.ex
  refine ⟨⟨f, fd, ps, ⟨fun vs H Q E h => h.1, fun A outer s H args us vs Q E hr e0 hb hv h => ?_⟩, g, h.kp, b⟩, fun _ _ _ => rfl⟩
  obtain ⟨_, ds, st, B, _, _, _, p⟩ := h
  exact p.elim
theorem no_cx {P : Program} {w : World} {H : Hp} {s : Shared} {e : Value} {s' : Shared} (h : L2.CX P w [] H s (fun _ _ _ => False) e s') : False := by
  obtain ⟨_, _, _, _, _, _, _, _, _, _, _, _, z⟩ := h
  exact z
/-! ### facts of the text -/
theorem stF_mk {K : PySem.W.Frag} {h : Heap} {mg : Str → Option Value} {x qual : Str} {st : Stmt} {ps : List Str} {f : Addr} {oc : Value} {od an : Option Addr} {osl : Array (Option Value)} {kV doc pm cdv ct : Value} (X : K.In h) (G : h.Ns mainGlobals mg)
    (a : PySem.W.nsIn K mainGlobals x = some (some (.ref f))) (l : K.lookup f = some ⟨oc, od, .func (PySem.W.fnOf x qual (defArgs st) (defBody st) (defScope st) .none kV doc pm an cdv ct), osl⟩)
    (c : PySem.W.codeIn K cdv qual = true) (k : PySem.W.keepIn K (.ref f) = true)
    (hb : ∀ (kV doc pm : Value) (an : Option Addr) (cdv ct : Value) (us : List Value), us.length = ps.length → bindArgs (PySem.W.fnOf x qual (defArgs st) (defBody st) (defScope st) .none kV doc pm an cdv ct) ⟨us, []⟩ = pure (ps.zip us)) : StF K mg x qual st ps :=
  have F := fun_mk (st := st) l c k
  ⟨⟨f, _, F, PySem.W.mg_of X G a, F.binds hb⟩⟩
theorem lawF_mk {K : PySem.W.Frag} {h : Heap} {mg : Str → Option Value} {x qual p : Str} {st : Stmt} {f : Addr} {oc : Value} {od an : Option Addr} {osl : Array (Option Value)} {kV doc pm cdv ct : Value} (X : K.In h) (G : h.Ns mainGlobals mg)
    (a : PySem.W.nsIn K mainGlobals x = some (some (.ref f))) (l : K.lookup f = some ⟨oc, od, .func (PySem.W.fnOf x qual (defArgs st) (defBody st) (defScope st) .none kV doc pm an cdv ct), osl⟩)
    (c : PySem.W.codeIn K cdv qual = true) (k : PySem.W.keepIn K (.ref f) = true)
    (hb : ∀ (kV doc pm : Value) (an : Option Addr) (cdv ct : Value) (us : List Value), us.length = [p].length → bindArgs (PySem.W.fnOf x qual (defArgs st) (defBody st) (defScope st) .none kV doc pm an cdv ct) ⟨us, []⟩ = pure ([p].zip us)) :
    ∃ f fd, Fun K x qual st f fd ∧ mg x = some (.ref f) ∧ Binds K fd [p] [] ∧ (∀ (s : Shared) (u : Value), BindsTo s fd ⟨[u], []⟩ [(p, u)]) :=
  have F := fun_mk (st := st) l c k
  ⟨f, _, F, PySem.W.mg_of X G a, F.binds hb, fun s v => .of_eq (hb kV doc pm an cdv ct [v] rfl)⟩
theorem useF {p q : Prop} (h : p) (k : p → q) : q := k h
theorem glI_mk {K : PySem.W.Frag} {h : Heap} {mg : Str → Option Value} {x : Str} {i : Int} {t : Tok} (X : K.In h) (G : h.Ns mainGlobals mg) (a : PySem.W.nsIn K mainGlobals x = some (some (.int i t))) : ∃ t, mg x = some (.int i t) := ⟨t, PySem.W.mg_of X G a⟩
theorem glS_mk {K : PySem.W.Frag} {h : Heap} {mg : Str → Option Value} {x : Str} {i : Str} {t : Tok} (X : K.In h) (G : h.Ns mainGlobals mg) (a : PySem.W.nsIn K mainGlobals x = some (some (.str i t))) : ∃ t, mg x = some (.str i t) := ⟨t, PySem.W.mg_of X G a⟩
theorem excF_mk {K : PySem.W.Frag} {h : Heap} {mg : Str → Option Value} {x : Str} {Ca : Addr} (X : K.In h) (G : h.Ns mainGlobals mg) (a : PySem.W.nsIn K mainGlobals x = some (some (.ref Ca)))
    (e : PySem.W.excIn K Ca [.type "ValueError", .type "Exception", .type "BaseException", .type "object"] "ValueError.__new__" = true) (k : PySem.W.keepIn K (.ref Ca) = true)
    (s : PySem.W.subIn K (.ref Ca) (.type "BaseException") = some true) (t : PySem.W.typeIn K (.ref Ca) = some (.type "type")) : ExcF K mg x := ⟨⟨Ca, PySem.W.mg_of X G a, e, k, s, t⟩⟩
end Ly
/-! Computations are run. -/
namespace Ly
open PySem PySem.Spec PyProof.Rows L2

def R.nxt {α β : Type} (r : R α) (k : α → Sto → R β) : R β := match r with
  | .ok a st => k a st
  | .exc x st => .exc x st
  | .bad => .bad
def optR {α : Type} : Option (α × Sto) → R α
  | some (a, st) => .ok a st
  | none => .bad
def R.toS {α : Type} (r : R α) (e : Ev) (k : α → Sto → RS) : RS := match r with
  | .ok a st => k a st
  | .exc x st => .exc x e st
  | .bad => .bad
def RS.thn (r : RS) (k : Ev → Sto → RS) : RS := match r with
  | .nx e st => k e st
  | r => r
section
variable {α β : Type} {a : α} {st : Sto} {x : Str} {e : Ev} {k : α → Sto → R β} {ks : α → Sto → RS} {kr : Ev → Sto → RS} {d : D}
@[simp] theorem nxt_ok : (R.ok a st).nxt k = k a st := rfl
@[simp] theorem nxt_exc : (R.exc x st : R α).nxt k = .exc x st := rfl
@[simp] theorem nxt_bad : (R.bad : R α).nxt k = .bad := rfl
@[simp] theorem optR_some : optR (some (a, st)) = .ok a st := rfl
@[simp] theorem optR_none : optR (none : Option (α × Sto)) = .bad := rfl
@[simp] theorem toS_ok : (R.ok a st).toS e ks = ks a st := rfl
@[simp] theorem toS_exc : (R.exc x st : R α).toS e ks = .exc x e st := rfl
@[simp] theorem toS_bad : (R.bad : R α).toS e ks = .bad := rfl
@[simp] theorem thn_nx : (RS.nx e st).thn kr = kr e st := rfl
@[simp] theorem thn_ret : (RS.ret d st).thn kr = .ret d st := rfl
@[simp] theorem thn_bk : (RS.bk e st).thn kr = .bk e st := rfl
@[simp] theorem thn_ct : (RS.ct e st).thn kr = .ct e st := rfl
@[simp] theorem thn_exc : (RS.exc x e st).thn kr = .exc x e st := rfl
@[simp] theorem thn_bad : (RS.bad).thn kr = .bad := rfl
end
section
variable {α β : Type} (e : Ev) (st : Sto)
@[simp] theorem ret_run (a : α) : ret a e st = .ok a st := rfl
@[simp] theorem bnd_run (c : M α) (f : α → M β) : bnd c f e st = (c e st).nxt fun a st' => f a e st' := by unfold bnd R.nxt; cases c e st <;> rfl
@[simp] theorem lift_run (f : Sto → Option (α × Sto)) : lift f e st = optR (f st) := by unfold lift; cases f st <;> rfl
@[simp] theorem mvar_run (i : Nat) : mvar i e st = (match e[i]? with | some (some d) => .ok d st | _ => .bad) := rfl
@[simp] theorem args_nil : args [] e st = .ok [] st := rfl
@[simp] theorem args_cons (c : M D) (cs : List (M D)) : args (c :: cs) e st = (c e st).nxt fun d st' => (args cs e st').nxt fun ds st' => .ok (d :: ds) st' := by
  show bnd c (fun d => bnd (args cs) fun ds => ret (d :: ds)) e st = _
  simp
@[simp] theorem bin_run (f : D → D → Sto → Option (α × Sto)) (a b : M D) : bin f a b e st = (a e st).nxt fun x st1 => (b e st1).nxt fun y st2 => optR (f x y st2) := by unfold bin; simp
@[simp] theorem un_run (f : D → Sto → Option (D × Sto)) (a : M D) : un f a e st = (a e st).nxt fun x st1 => optR (f x st1) := by unfold un; simp
@[simp] theorem calls_run (f : List D → Sto → Option (α × Sto)) (a : M (List D)) : calls f a e st = (a e st).nxt fun x st1 => optR (f x st1) := by unfold calls; simp
@[simp] theorem callF_run (f : List D → Sto → R D) (a : M (List D)) : callF f a e st = (a e st).nxt fun x st1 => f x st1 := by unfold callF; simp
@[simp] theorem tree_run (c : M (List D)) : tree c e st = (c e st).nxt fun ds st1 => .ok (.lst ds) st1 := by unfold tree; simp
@[simp] theorem box_run (c : M (List D)) : box c e st = (c e st).nxt fun ds st1 => .ok (.ref st1.length) (st1 ++ [.lst ds]) := by unfold box; simp
@[simp] theorem dlst_run (cs : List (M D)) : dlst cs e st = (args cs e st).nxt fun ds st1 => if ds.length ≤ sizeLine then .ok ds st1 else .bad := by
  unfold dlst; rw [bnd_run]; congr; funext a st'; rw [lift_run]; split <;> rfl
@[simp] theorem dtup_run (cs : List (M D)) : dtup cs e st = (args cs e st).nxt fun ds st1 => if ds.length ≤ sizeLine then .ok (.tup ds) st1 else .bad := by
  unfold dtup; rw [bnd_run]; congr; funext a st'; rw [lift_run]; split <;> rfl
@[simp] theorem tst_run (c : M D) : tst c e st = (c e st).nxt fun d st1 => match d with | .bl b => .ok b st1 | _ => .bad := by
  unfold tst; simp; congr; funext a st'; cases a <;> rfl
@[simp] theorem mnot_run (c : M Bool) : mnot c e st = (c e st).nxt fun b st1 => .ok (!b) st1 := by unfold mnot; simp
@[simp] theorem mand_run (a b : M Bool) : mand a b e st = (a e st).nxt fun x st1 => if x = true then b e st1 else .ok false st1 := by
  unfold mand; simp; congr; funext x st'; split <;> rfl
@[simp] theorem mor_run (a b : M Bool) : mor a b e st = (a e st).nxt fun x st1 => if x = true then .ok true st1 else b e st1 := by
  unfold mor; simp; congr; funext x st'; split <;> rfl
@[simp] theorem vand_run (a b : M D) : vand a b e st = (a e st).nxt fun x st1 => match x with | .bl true => b e st1 | .bl false => .ok (.bl false) st1 | _ => .bad := by
  unfold vand; simp; congr; funext x st'; cases x <;> first | rfl | (rename_i k; cases k <;> rfl)
@[simp] theorem vor_run (a b : M D) : vor a b e st = (a e st).nxt fun x st1 => match x with | .bl true => .ok (.bl true) st1 | .bl false => b e st1 | _ => .bad := by
  unfold vor; simp; congr; funext x st'; cases x <;> first | rfl | (rename_i k; cases k <;> rfl)
@[simp] theorem vnot_run (a : M D) : vnot a e st = (a e st).nxt fun x st1 => match x with | .bl b => .ok (.bl !b) st1 | _ => .bad := by
  unfold vnot; simp; congr; funext x st'; cases x <;> rfl
@[simp] theorem mif_run {γ : Type} (t : M Bool) (a b : M γ) : mif t a b e st = (t e st).nxt fun x st1 => if x = true then a e st1 else b e st1 := by
  unfold mif; simp; congr; funext x st'; split <;> rfl
@[simp] theorem chain_run (f g : D → D → Sto → Option (D × Sto)) (a b c : M D) : chain f g a b c e st = (a e st).nxt fun x st1 => (b e st1).nxt fun y st2 => match f x y st2 with
    | some (.bl true, st3) => (c e st3).nxt fun z st4 => optR (g y z st4)
    | some (.bl false, st3) => .ok (.bl false) st3
    | _ => .bad := by
  unfold chain; simp; congr; funext x st1; congr; funext y st2
  cases f x y st2 with
  | none => rfl
  | some p =>
    obtain ⟨d, st3⟩ := p
    cases d <;> first | rfl | (rename_i k; cases k <;> simp)
@[simp] theorem part_run (c : M D) : part c e st = (c e st).nxt fun d st1 => match d with | .int i => .ok (some i) st1 | _ => .bad := by
  unfold part; simp; congr; funext x st'; cases x <;> rfl
@[simp] theorem slice_run (f : Option Int → Option Int → D → Sto → Option (α × Sto)) (a : M D) (l h : M (Option Int)) : slice f a l h e st = (a e st).nxt fun x st1 => (l e st1).nxt fun lo st2 => (h e st2).nxt fun hi st3 => optR (f lo hi x st3) := by unfold slice; simp
@[simp] theorem walk_run (a : M D) : walk a e st = (a e st).nxt fun d st1 => match srcOf st1 d with | some s => .ok s st1 | none => .bad := by
  unfold walk; simp; congr; funext x st'; cases srcOf st' x <;> rfl
@[simp] theorem comp_run (src : M Src) (p : Pat) (vs : List Nat) (cond : M Bool) (elt : M D) : comp src p vs cond elt e st = (src e st).nxt fun s st1 => loopC s.ok p cond elt (wipeE e vs) s.xs st1 := by unfold comp; simp
@[simp] theorem meth_run (T : String) (f : D → List D → Sto → Option (D × Sto)) (o : M D) (as : M (List D)) : meth T f o as e st = (o e st).nxt fun x st1 => if isOf T st1 x = true then (as e st1).nxt fun ds st2 => optR (f x ds st2) else .bad := by
  unfold meth; simp
@[simp] theorem meth0_run (T : String) (f : D → List D → Sto → Option (D × Sto)) (o : M D) : meth0 T f o e st = (o e st).nxt fun x st1 => if isOf T st1 x = true then optR (f x [] st1) else .bad := by
  unfold meth0; simp
/-! statements -/
@[simp] theorem mk_run (c : M α) (k : α → MS) : mk c k e st = (c e st).toS e fun a st' => k a e st' := by unfold mk R.toS; cases c e st <;> rfl
@[simp] theorem mthen_run (a b : MS) : mthen a b e st = (a e st).thn b := by unfold mthen RS.thn; cases a e st <;> rfl
@[simp] theorem mskip_run : mskip e st = .nx e st := rfl
@[simp] theorem mblock_nil : mblock [] e st = .nx e st := rfl
@[simp] theorem mblock_one (a : MS) : mblock [a] e st = a e st := rfl
@[simp] theorem mblock_cons (a b : MS) (r : List MS) : mblock (a :: b :: r) e st = (a e st).thn (mblock (b :: r)) := by
  show mthen a (mblock (b :: r)) e st = _; simp
@[simp] theorem mset_run (i : Nat) (c : M D) : mset i c e st = (c e st).toS e fun d st' => .nx (e.set i (some d)) st' := by unfold mset; simp
@[simp] theorem mput_run (p : Pat) (c : M D) : mput p c e st = (c e st).toS e fun d st' => match asg p d e with | some e' => .nx e' st' | none => .bad := by unfold mput; rw [mk_run] <;> rfl
@[simp] theorem mpar_run (i j : Nat) (as : M (List D)) : mpar i j as e st = (as e st).toS e fun ds st' => match ds with | [a, b] => .nx ((e.set i (some a)).set j (some b)) st' | _ => .bad := by unfold mpar; rw [mk_run] <;> rfl
@[simp] theorem mpar3_run (i j l : Nat) (as : M (List D)) : mpar3 i j l as e st = (as e st).toS e fun ds st' => match ds with | [a, b, c] => .nx (((e.set i (some a)).set j (some b)).set l (some c)) st' | _ => .bad := by unfold mpar3; rw [mk_run] <;> rfl
@[simp] theorem msub_run (o k v : M D) : msub o k v e st = (v e st).toS e fun x st1 => (o e st1).toS e fun y st2 => (k e st2).toS e fun z st3 => match y, z with
  | .ref i, .int j => (match st3[i]? with
    | some (.lst xs) => (match ixN xs.length j with
      | some n => .nx e (st3.set i (.lst (xs.set n x)))
      | none => .bad)
    | _ => .bad)
  | _, _ => .bad := by
  unfold msub; rw [mk_run]; congr
@[simp] theorem mdo_run (c : M D) : mdo c e st = (c e st).toS e fun _ st' => .nx e st' := by unfold mdo; simp
@[simp] theorem mret_run (c : M D) : mret c e st = (c e st).toS e fun d st' => .ret d st' := by unfold mret; simp
@[simp] theorem mretN_run : mretN e st = .ret .non st := rfl
@[simp] theorem mbrk_run : mbrk e st = .bk e st := rfl
@[simp] theorem mcnt_run : mcnt e st = .ct e st := rfl
@[simp] theorem mraise_run (x : Str) : mraise x e st = .exc x e st := rfl
@[simp] theorem mcond_run (t : M Bool) (a b : MS) : mcond t a b e st = (t e st).toS e fun x st' => if x = true then a e st' else b e st' := by
  unfold mcond; simp; congr; funext x st'; split <;> rfl
@[simp] theorem mfor_run (src : M Src) (p : Pat) (body : MS) : mfor src p body e st = (src e st).toS e fun s st' => forX s.ok p body s.xs e st' := by unfold mfor; simp
/-! ends -/
@[simp] theorem finish_nx : finish (.nx e st) = .ok .non st := rfl
@[simp] theorem finish_ret (d : D) : finish (.ret d st) = .ok d st := rfl
@[simp] theorem finish_exc (x : Str) : finish (.exc x e st) = .exc x st := rfl
@[simp] theorem finish_bad : finish .bad = .bad := rfl
end
/-! what is left of the store -/
theorem fn_run {n N : Nat} {body : MS} {ds : List D} {st : Sto} (h : ds.length = n) : fn n N body ds st = gcR st (finish (body (ds.map some ++ List.replicate (N - ds.length) none) st)) := by unfold fn; rw [if_pos h]
theorem gcOk_same (n : Nat) : ∀ (a g : Sto), gcOk n a (a ++ g) = true
  | [], g => rfl
  | c :: cs, g => by
    show ((decide (c = c) || c.cl n) && gcOk n cs (cs ++ g)) = true
    rw [gcOk_same n cs g]; simp
theorem gcR_new {st g : Sto} {d : D} (h : D.cl st.length d = true) : gcR st (.ok d (st ++ g)) = .ok d st := by
  unfold gcR
  dsimp only
  rw [if_pos (gcOk_same _ _ _), fz_cl _ _ _ h]
  simp
theorem gcR_same {st : Sto} {d : D} (h : D.cl st.length d = true) : gcR st (.ok d st) = .ok d st := by
  have := gcR_new (st := st) (g := []) h
  rwa [List.append_nil] at this
theorem gcR_exc {st g : Sto} {x : Str} : gcR st (.exc x (st ++ g)) = .exc x st := by
  unfold gcR
  dsimp only
  rw [if_pos (gcOk_same _ _ _)]
  simp
theorem gcR_exc0 {st : Sto} {x : Str} : gcR st (.exc x st) = .exc x st := by
  have := gcR_exc (st := st) (g := []) (x := x)
  rwa [List.append_nil] at this
@[simp] theorem gcR_bad {st : Sto} : gcR st .bad = .bad := rfl
/-- a list that was made within leaves as a tree -/
theorem gcR_made {st g : Sto} {i : Nat} {xs : List D} (hi : st.length ≤ i) (h : (st ++ g)[i]? = some (.lst xs)) (hc : D.clL st.length xs = true) : gcR st (.ok (.ref i) (st ++ g)) = .ok (.lst xs) st := by
  unfold gcR
  dsimp only
  rw [if_pos (gcOk_same _ _ _)]
  unfold fz
  rw [if_neg (by omega), h]
  dsimp only
  rw [if_pos hc]
  simp
@[simp] theorem cl_int (n : Nat) (i : Int) : D.cl n (.int i) = true := by simp [D.cl]
@[simp] theorem cl_bl (n : Nat) (i : Bool) : D.cl n (.bl i) = true := by simp [D.cl]
@[simp] theorem cl_str (n : Nat) (i : Str) : D.cl n (.str i) = true := by simp [D.cl]
@[simp] theorem cl_non (n : Nat) : D.cl n .non = true := by simp [D.cl]
@[simp] theorem cl_tup (n : Nat) (xs : List D) : D.cl n (.tup xs) = D.clL n xs := by simp [D.cl]
@[simp] theorem cl_lst (n : Nat) (xs : List D) : D.cl n (.lst xs) = D.clL n xs := by simp [D.cl]
@[simp] theorem clL_nil (n : Nat) : D.clL n [] = true := by simp [D.clL]
@[simp] theorem clL_cons (n : Nat) (x : D) (xs : List D) : D.clL n (x :: xs) = (D.cl n x && D.clL n xs) := by simp [D.clL]
theorem clL_all (n : Nat) : ∀ xs : List D, (∀ x ∈ xs, D.cl n x = true) → D.clL n xs = true
  | [], _ => by simp
  | x :: xs, h => by simp [h x List.mem_cons_self, clL_all n xs fun y hy => h y (List.mem_cons_of_mem _ hy)]
theorem clL_map {α : Type} (n : Nat) (f : α → D) (h : ∀ a, D.cl n (f a) = true) (xs : List α) : D.clL n (xs.map f) = true := clL_all n _ fun x hx => by
  obtain ⟨a, _, rfl⟩ := List.mem_map.mp hx
  exact h a
theorem clL_append (n : Nat) : ∀ xs ys : List D, D.clL n (xs ++ ys) = (D.clL n xs && D.clL n ys)
  | [], ys => by simp
  | x :: xs, ys => by rw [List.cons_append, clL_cons, clL_cons, clL_append n xs ys, Bool.and_assoc]

/-! walks over lists that are maps -/
section
variable {α β : Type}
theorem loopC_map {p : Pat} {cond : M Bool} {elt : M D} {env : Ev} {st : Sto} (g f : α → D) (c : α → Bool) (e : α → Ev) : ∀ l : List α, (∀ a ∈ l, asg p (g a) env = some (e a) ∧ cond (e a) st = .ok (c a) st ∧ (c a = true → elt (e a) st = .ok (f a) st)) →
    loopC (fun _ => true) p cond elt env (l.map g) st = .ok ((l.filter c).map f) st
  | [], _ => rfl
  | a :: l, h => by
    obtain ⟨h1, h2, h3⟩ := h a List.mem_cons_self
    have ih := loopC_map g f c e l fun b hb => h b (List.mem_cons_of_mem _ hb)
    rw [List.map_cons]
    unfold loopC
    rw [if_pos rfl, h1]
    dsimp only
    rw [h2]
    cases hc : c a with
    | true =>
      dsimp only
      rw [h3 hc]
      dsimp only
      rw [ih, List.filter_cons_of_pos hc]
      rfl
    | false =>
      dsimp only
      rw [ih, List.filter_cons_of_neg (by simp [hc])]
/-- over any list of data, one item to one -/
theorem loopC_each {p : Pat} {elt : M D} {env : Ev} {st : Sto} (f : D → D) (e : D → Ev) (l : List D) (h : ∀ a ∈ l, asg p a env = some (e a) ∧ elt (e a) st = .ok (f a) st) :
    loopC (fun _ => true) p (ret true) elt env l st = .ok (l.map f) st := by
  have := loopC_map (p := p) (cond := ret true) (elt := elt) (env := env) (st := st) id f (fun _ => true) e l fun a ha => ⟨(h a ha).1, rfl, fun _ => (h a ha).2⟩
  rw [List.map_id] at this
  rw [this, List.filter_eq_self.mpr (fun _ _ => rfl)]
end

/-! ### the draws, which stand alike in every law -/
def cellv (ns : List Int) (k : Int) : Int := if k < ns.length then ns.getD k.toNat 0 else if ns = [] then 0 else ns.getD (k % ns.length).toNat 0 * 31 + k
def drawn (ns : List Int) (k : Int) : Int := (cellv ns k + 6151 * (k + 1)) * 40692 % 2147483399
def pk (ns : List Int) (k m : Int) : Int := (drawn ns k * drawn ns k + drawn ns k / 31) % 2147483629 % m
theorem pk_range (ns : List Int) (k : Int) {m : Int} (h : 0 < m) : 0 ≤ pk ns k m ∧ pk ns k m < m := ⟨Int.emod_nonneg _ (by omega), Int.emod_lt_of_pos _ h⟩
def stdCell : List D → Sto → R D := fn 2 2 (mblock [(mcond (tst (bin opLt (mvar 1) (calls fLen (args [(mvar 0)])))) (mblock [(mret (bin opIx (mvar 0) (mvar 1)))]) (mblock [])),
  (mcond (tst (bin opEq (mvar 0) (tree (dlst [])))) (mblock [(mret (ret (.int 0)))]) (mblock [])),
  (mret (bin opAdd (bin opMul (bin opIx (mvar 0) (bin opMod (mvar 1) (calls fLen (args [(mvar 0)])))) (ret (.int 31))) (mvar 1)))])
def stdPick : List D → Sto → R D := fn 3 4 (mblock [(mset 3 (bin opMod (bin opMul (bin opAdd (callF stdCell (args [(mvar 0), (mvar 1)])) (bin opMul (ret (.int 6151)) (bin opAdd (mvar 1) (ret (.int 1))))) (ret (.int 40692))) (ret (.int 2147483399)))),
  (mret (bin opMod (bin opMod (bin opAdd (bin opMul (mvar 3) (mvar 3)) (bin opDiv (mvar 3) (ret (.int 31)))) (ret (.int 2147483629))) (mvar 2)))])
theorem atI_map (ns : List Int) (k : Int) (h0 : 0 ≤ k) (h : k < ns.length) : atI (ns.map D.int) k = some (.int (ns.getD k.toNat 0)) := by
  have hk : k.toNat < ns.length := by omega
  have e : atI (ns.map D.int) ((k.toNat : Nat) : Int) = some (.int (ns.getD k.toNat 0)) := atI_nat (by rw [List.getElem?_map, List.getElem?_eq_getElem hk, List.getD_eq_getElem?_getD, List.getElem?_eq_getElem hk]; rfl)
  rwa [Int.toNat_of_nonneg h0] at e
theorem cell_run {ns : List Int} {k : Int} {st : Sto} (h0 : 0 ≤ k) (hn : ns.length ≤ sizeLine) : stdCell [.scr ns, .int k] st = .ok (.int (cellv ns k)) st := by
  unfold stdCell
  rw [fn_run (by rfl)]
  by_cases h : k < ns.length
  · simp [opCmp, fLen, seqOf, rdOf, opIx, h, atI_map ns k h0 h, cellv]
    exact gcR_same (by simp)
  · by_cases h2 : ns = []
    · subst h2
      simp at h
      simp [opCmp, fLen, seqOf, rdOf, opEq, eqOf, flat2, top, D.ok, D.okL, D.ns, D.nsL, D.eq, D.eqL, lstOf, cellv, h]
      have h3 : ¬ k < 0 := by omega
      simp [h3]
      exact gcR_same (by simp)
    · have hl : 0 < ns.length := List.length_pos_iff.mpr h2
      have hl' : (0 : Int) < ns.length := by omega
      have okL : D.okL 59 (ns.map D.int) = true := by
        induction ns with
        | nil => simp [D.okL]
        | cons a r ih => 
          have : ∀ r : List Int, D.okL 59 (r.map D.int) = true := fun r => by induction r with
            | nil => simp [D.okL]
            | cons b t ih => simp [D.okL, D.ok, ih]
          exact this _
      have nsL : D.nsL (ns.map D.int) = true := by
        have : ∀ r : List Int, D.nsL (r.map D.int) = true := fun r => by induction r with
          | nil => simp [D.nsL]
          | cons b t ih => simp [D.nsL, D.ns, ih]
        exact this _
      have eqL : D.eqL (ns.map D.int) [] = false := by
        cases ns with
        | nil => exact absurd rfl h2
        | cons a r => simp [D.eqL]
      have hm := atI_map ns (k % ns.length) (Int.emod_nonneg _ (by omega)) (Int.emod_lt_of_pos _ hl')
      simp [opCmp, fLen, seqOf, rdOf, opEq, eqOf, flat2, top, D.ok, D.okL, D.ns, D.nsL, D.eq, D.eqL, lstOf, cellv, h, h2, okL, nsL, eqL, opIx, opMod, hl, hl', opMul, smallI, opAdd, hm]
      exact gcR_same (by simp)
theorem pick_run {ns : List Int} {k m : Int} {st : Sto} (h0 : 0 ≤ k) (hm : 0 < m) (hn : ns.length ≤ sizeLine) : stdPick [.scr ns, .int k, .int m] st = .ok (.int (pk ns k m)) st := by
  unfold stdPick
  rw [fn_run (by rfl)]
  have hd : 0 ≤ drawn ns k ∧ drawn ns k < 2147483399 := ⟨Int.emod_nonneg _ (by decide), Int.emod_lt_of_pos _ (by decide)⟩
  have e : (cellv ns k + 6151 * (k + 1)) * 40692 % 2147483399 = drawn ns k := rfl
  have sm : smallI (drawn ns k) = true := by unfold smallI; rw [Bool.and_eq_true, decide_eq_true_eq, decide_eq_true_eq]; omega
  simp [cell_run h0 hn, opAdd, opMul, smallI, opMod, e, opDiv]
  rw [if_pos (by omega)]
  simp [hm]
  exact gcR_same (by simp)
end Ly
/-! Operators at known values. -/
namespace Ly
open PySem PySem.Spec PyProof.Rows L2

section
variable (st : Sto) (i j : Int) (a b : Str) (xs ys : List D)
@[simp] theorem opAdd_int : opAdd (.int i) (.int j) st = some (.int (i + j), st) := rfl
@[simp] theorem opAdd_tup : opAdd (.tup xs) (.tup ys) st = if xs.length + ys.length ≤ sizeLine then some (.tup (xs ++ ys), st) else none := rfl
@[simp] theorem opAdd_str : opAdd (.str a) (.str b) st = if a.length + b.length ≤ sizeLine then some (.str (a ++ b), st) else none := rfl
@[simp] theorem opAdd_lst : opAdd (.lst xs) (.lst ys) st = if xs.length + ys.length ≤ sizeLine then some (.lst (xs ++ ys), st) else none := rfl
@[simp] theorem opSub_int : opSub (.int i) (.int j) st = some (.int (i - j), st) := rfl
@[simp] theorem opMul_int : opMul (.int i) (.int j) st = if (smallI i || smallI j) = true then some (.int (i * j), st) else none := rfl
@[simp] theorem opDiv_int : opDiv (.int i) (.int j) st = if 0 < j ∧ j < 1073741824 then some (.int (i / j), st) else none := rfl
@[simp] theorem opMod_int : opMod (.int i) (.int j) st = if 0 < j then some (.int (i % j), st) else none := rfl
@[simp] theorem opNeg_int : opNeg (.int i) st = some (.int (-i), st) := rfl
@[simp] theorem opCmp_int (p : Int → Int → Bool) : opCmp p (.int i) (.int j) st = some (.bl (p i j), st) := rfl
@[simp] theorem opIx_tup : opIx (.tup xs) (.int i) st = (atI xs i).map fun d => (d, st) := rfl
@[simp] theorem opIx_lst : opIx (.lst xs) (.int i) st = (atI xs i).map fun d => (d, st) := rfl
@[simp] theorem opSl_tup (lo hi : Option Int) : opSl lo hi (.tup xs) st = some (.tup (cut xs lo hi), st) := rfl
@[simp] theorem opSl_lst (lo hi : Option Int) : opSl lo hi (.lst xs) st = some (.lst (cut xs lo hi), st) := rfl
@[simp] theorem slN_lst (lo hi : Option Int) : slN lo hi (.lst xs) st = some (cut xs lo hi, st) := rfl
@[simp] theorem catN_lst : catN (.lst xs) (.lst ys) st = if xs.length + ys.length ≤ sizeLine then some (xs ++ ys, st) else none := rfl
@[simp] theorem fLen_tup : fLen [.tup xs] st = some (.int xs.length, st) := rfl
@[simp] theorem fLen_lst : fLen [.lst xs] st = some (.int xs.length, st) := rfl
@[simp] theorem fList_tup : fList [.tup xs] st = some (xs, st) := rfl
@[simp] theorem fList_lst : fList [.lst xs] st = some (xs, st) := rfl
@[simp] theorem fTuple_tup : fTuple [.tup xs] st = some (.tup xs, st) := rfl
@[simp] theorem fTuple_lst : fTuple [.lst xs] st = some (.tup xs, st) := rfl
@[simp] theorem isi_int (cs : List String) : opIsi cs (.int i) st = some (.bl (cs.any (isTy "int")), st) := rfl
@[simp] theorem isi_tup (cs : List String) : opIsi cs (.tup xs) st = some (.bl (cs.any (isTy "tuple")), st) := rfl
@[simp] theorem isi_lst (cs : List String) : opIsi cs (.lst xs) st = some (.bl (cs.any (isTy "list")), st) := rfl
@[simp] theorem isi_str (cs : List String) : opIsi cs (.str a) st = some (.bl (cs.any (isTy "str")), st) := rfl
@[simp] theorem isi_bl (cs : List String) (k : Bool) : opIsi cs (.bl k) st = some (.bl (cs.any (isTy "bool")), st) := rfl
@[simp] theorem isi_non (cs : List String) : opIsi cs .non st = some (.bl (cs.any (isTy "NoneType")), st) := rfl
@[simp] theorem src_tup : srcOf st (.tup xs) = some ⟨xs, fun _ => true⟩ := rfl
@[simp] theorem src_lst : srcOf st (.lst xs) = some ⟨xs, fun _ => true⟩ := rfl
@[simp] theorem fMin_lst (ns : List Int) : fMin [.lst (ns.map .int)] st = (minI ns).map fun i => (.int i, st) := by
  show (intsOf (ns.map D.int)).bind _ = _
  rw [intsOf_map]; rfl
@[simp] theorem fMax_lst (ns : List Int) : fMax [.lst (ns.map .int)] st = (maxI ns).map fun i => (.int i, st) := by
  show (intsOf (ns.map D.int)).bind _ = _
  rw [intsOf_map]; rfl
@[simp] theorem fMin_int : fMin [.int i, .int j] st = some (.int (if j < i then j else i), st) := rfl
@[simp] theorem fMax_int : fMax [.int i, .int j] st = some (.int (if j > i then j else i), st) := rfl
@[simp] theorem fSum_lst (ns : List Int) : fSumL [.lst (ns.map .int)] st = some (.int ns.sum, st) := by
  show (intsOf (ns.map D.int)).bind _ = _
  rw [intsOf_map]; rfl
@[simp] theorem fAll_lst (bs : List Bool) : fAll [.lst (bs.map .bl)] st = some (.bl (bs.all id), st) := by
  show (blsOf (bs.map D.bl)).map _ = _
  rw [blsOf_map]; rfl
@[simp] theorem fAny_lst (bs : List Bool) : fAny [.lst (bs.map .bl)] st = some (.bl (bs.any id), st) := by
  show (blsOf (bs.map D.bl)).map _ = _
  rw [blsOf_map]; rfl
@[simp] theorem eq_int : opEq (.int i) (.int j) st = some (.bl (decide (i = j)), st) := rfl
@[simp] theorem ne_int' : opNe (.int i) (.int j) st = some (.bl (!decide (i = j)), st) := rfl
@[simp] theorem eq_str' : opEq (.str a) (.str b) st = some (.bl (decide (a = b)), st) := rfl
@[simp] theorem ne_str' : opNe (.str a) (.str b) st = some (.bl (!decide (a = b)), st) := rfl
@[simp] theorem isN_run (x : D) : opIsN x .non st = some (.bl (decide (x = .non)), st) := rfl
@[simp] theorem notN_run (x : D) : opNotN x .non st = some (.bl (!decide (x = .non)), st) := rfl
@[simp] theorem ty_int_int : isTy "int" "int" = true := by decide
@[simp] theorem ty_int_bool : isTy "int" "bool" = false := by decide
@[simp] theorem ty_int_tuple : isTy "int" "tuple" = false := by decide
@[simp] theorem ty_int_list : isTy "int" "list" = false := by decide
@[simp] theorem ty_int_str : isTy "int" "str" = false := by decide
@[simp] theorem ty_tuple_tuple : isTy "tuple" "tuple" = true := by decide
@[simp] theorem ty_tuple_list : isTy "tuple" "list" = false := by decide
@[simp] theorem ty_tuple_int : isTy "tuple" "int" = false := by decide
@[simp] theorem ty_tuple_str : isTy "tuple" "str" = false := by decide
@[simp] theorem ty_tuple_bool : isTy "tuple" "bool" = false := by decide
@[simp] theorem ty_list_list : isTy "list" "list" = true := by decide
@[simp] theorem ty_list_tuple : isTy "list" "tuple" = false := by decide
@[simp] theorem ty_list_int : isTy "list" "int" = false := by decide
@[simp] theorem ty_list_str : isTy "list" "str" = false := by decide
@[simp] theorem ty_list_bool : isTy "list" "bool" = false := by decide
@[simp] theorem ty_str_str : isTy "str" "str" = true := by decide
@[simp] theorem ty_str_int : isTy "str" "int" = false := by decide
@[simp] theorem ty_str_tuple : isTy "str" "tuple" = false := by decide
@[simp] theorem ty_str_list : isTy "str" "list" = false := by decide
@[simp] theorem ty_str_bool : isTy "str" "bool" = false := by decide
@[simp] theorem ty_bool_bool : isTy "bool" "bool" = true := by decide
@[simp] theorem ty_bool_int : isTy "bool" "int" = true := by decide
@[simp] theorem ty_bool_tuple : isTy "bool" "tuple" = false := by decide
@[simp] theorem ty_bool_list : isTy "bool" "list" = false := by decide
@[simp] theorem ty_bool_str : isTy "bool" "str" = false := by decide
@[simp] theorem ty_none (c : String) (h : c ≠ "NoneType") : isTy "NoneType" c = false := by
  unfold isTy
  have h1 : ("NoneType" == c) = false := by simpa using fun e => h e.symm
  rw [h1]; rfl
end
/-! a place -/
section
variable {st : Sto} {p : Nat} {xs : List D}
theorem opIx_ref (h : st[p]? = some (.lst xs)) (i : Int) : opIx (.ref p) (.int i) st = (atI xs i).map fun d => (d, st) := by
  show ((lstOf st (.ref p)).bind _) = _
  rw [show lstOf st (.ref p) = some xs by unfold lstOf; dsimp only; rw [h]]
  rfl
theorem lstOf_ref (h : st[p]? = some (.lst xs)) : lstOf st (.ref p) = some xs := by unfold lstOf; dsimp only; rw [h]
theorem isOf_ref (h : st[p]? = some (.lst xs)) : isOf "list" st (.ref p) = true := by
  unfold isOf rdOf; rw [if_pos rfl]; simp only; rw [lstOf_ref h]; rfl
theorem append_ref (h : st[p]? = some (.lst xs)) (hz : xs.length < sizeLine) (y : D) : fAppend (.ref p) [y] st = some (.non, st.set p (.lst (xs ++ [y]))) := by
  unfold fAppend; dsimp only; rw [h]; dsimp only; rw [if_pos hz]
theorem extend_ref (h : st[p]? = some (.lst xs)) {zs : List D} (hz : xs.length + zs.length ≤ sizeLine) : fExtend (.ref p) [.lst zs] st = some (.non, st.set p (.lst (xs ++ zs))) := by
  unfold fExtend; dsimp only; rw [h]; show (if xs.length + zs.length ≤ sizeLine then _ else _) = _; rw [if_pos hz]
end
/-! == of data -/
mutual
/-- a datum without truths, places: == is sameness there -/
def D.pl : D → Bool
  | .non => true
  | .int _ => true
  | .str _ => true
  | .tup xs => D.plL xs
  | .lst xs => D.plL xs
  | _ => false
def D.plL : List D → Bool
  | [] => true
  | x :: xs => D.pl x && D.plL xs
end
mutual
theorem pl_eq : ∀ {x y : D}, D.pl x = true → D.pl y = true → D.eq x y = decide (x = y)
  | .non, y, _, hy => by cases y <;> simp [D.eq] <;> simp [D.pl] at hy
  | .int i, y, _, hy => by
    cases y <;> simp [D.eq] <;> try simp [D.pl] at hy
    rename_i j
    rw [Bool.eq_iff_iff]; simp
  | .str s, y, _, hy => by
    cases y <;> simp [D.eq] <;> try simp [D.pl] at hy
    rw [Bool.eq_iff_iff]; simp
  | .tup xs, y, hx, hy => by
    cases y <;> simp [D.eq] <;> simp [D.pl] at hx hy
    rename_i ys
    exact pl_eqL hx hy
  | .lst xs, y, hx, hy => by
    cases y <;> simp [D.eq] <;> simp [D.pl] at hx hy
    exact pl_eqL hx hy
  | .bl _, _, hx, _ => by simp [D.pl] at hx
  | .dic _ _, _, hx, _ => by simp [D.pl] at hx
  | .ref _, _, hx, _ => by simp [D.pl] at hx
  | .exc _, _, hx, _ => by simp [D.pl] at hx
  | .scr _, _, hx, _ => by simp [D.pl] at hx
theorem pl_eqL : ∀ {x y : List D}, D.plL x = true → D.plL y = true → D.eqL x y = decide (x = y)
  | [], [], _, _ => by simp [D.eqL]
  | [], _ :: _, _, _ => by simp [D.eqL]
  | _ :: _, [], _, _ => by simp [D.eqL]
  | x :: xs, y :: ys, hx, hy => by
    simp [D.plL] at hx hy
    simp [D.eqL, pl_eq hx.1 hy.1, pl_eqL hx.2 hy.2]
end
mutual
theorem pl_ns : ∀ {x : D}, D.pl x = true → D.ns x = true
  | .non, _ => by simp [D.ns]
  | .int i, _ => by simp [D.ns]
  | .str s, _ => by simp [D.ns]
  | .tup xs, h => by simp [D.pl] at h; simp [D.ns, pl_nsL h]
  | .lst xs, h => by simp [D.pl] at h; simp [D.ns, pl_nsL h]
  | .bl _, hx => by simp [D.pl] at hx
  | .dic _ _, hx => by simp [D.pl] at hx
  | .ref _, hx => by simp [D.pl] at hx
  | .exc _, hx => by simp [D.pl] at hx
  | .scr _, hx => by simp [D.pl] at hx
theorem pl_nsL : ∀ {x : List D}, D.plL x = true → D.nsL x = true
  | [], _ => by simp [D.nsL]
  | x :: xs, h => by simp [D.plL] at h; simp [D.nsL, pl_ns h.1, pl_nsL h.2]
end
theorem okL_all (n : Nat) : ∀ xs : List D, (∀ x ∈ xs, D.ok n x = true) → D.okL n xs = true
  | [], _ => by simp [D.okL]
  | x :: xs, h => by simp [D.okL, h x List.mem_cons_self, okL_all n xs fun y hy => h y (List.mem_cons_of_mem _ hy)]
theorem plL_all : ∀ xs : List D, (∀ x ∈ xs, D.pl x = true) → D.plL xs = true
  | [], _ => by simp [D.plL]
  | x :: xs, h => by simp [D.plL, h x List.mem_cons_self, plL_all xs fun y hy => h y (List.mem_cons_of_mem _ hy)]
/-- a datum that == compares plainly -/
def D.good (d : D) : Prop := D.ok 60 d = true ∧ D.pl d = true
theorem eqOf_good {st : Sto} {x y : D} (hx : (top st x).good) (hy : (top st y).good) (hf : flat2 x y = none) : eqOf st x y = some (decide (top st x = top st y)) := by
  unfold eqOf
  rw [hf]
  dsimp only
  rw [if_pos (by simp [hx.1, hy.1, pl_ns hx.2, pl_ns hy.2]), pl_eq hx.2 hy.2]
theorem top_lst (st : Sto) (xs : List D) : top st (.lst xs) = .lst xs := rfl
theorem top_tup (st : Sto) (xs : List D) : top st (.tup xs) = .tup xs := rfl
theorem top_ref {st : Sto} {p : Nat} {xs : List D} (h : st[p]? = some (.lst xs)) : top st (.ref p) = .lst xs := by unfold top rdOf; simp only; rw [lstOf_ref h]
theorem eq_lst {st : Sto} {xs ys : List D} (hx : (D.lst xs).good) (hy : (D.lst ys).good) : opEq (.lst xs) (.lst ys) st = some (.bl (decide (xs = ys)), st) := by
  unfold opEq
  rw [eqOf_good (st := st) (x := .lst xs) (y := .lst ys) hx hy rfl]
  simp [top_lst]
theorem ne_lst {st : Sto} {xs ys : List D} (hx : (D.lst xs).good) (hy : (D.lst ys).good) : opNe (.lst xs) (.lst ys) st = some (.bl (!decide (xs = ys)), st) := by
  unfold opNe
  rw [eqOf_good (st := st) (x := .lst xs) (y := .lst ys) hx hy rfl]
  simp [top_lst]
theorem eq_tup {st : Sto} {xs ys : List D} (hx : (D.tup xs).good) (hy : (D.tup ys).good) : opEq (.tup xs) (.tup ys) st = some (.bl (decide (xs = ys)), st) := by
  unfold opEq
  rw [eqOf_good (st := st) (x := .tup xs) (y := .tup ys) hx hy rfl]
  simp [top_tup]
theorem ne_tup {st : Sto} {xs ys : List D} (hx : (D.tup xs).good) (hy : (D.tup ys).good) : opNe (.tup xs) (.tup ys) st = some (.bl (!decide (xs = ys)), st) := by
  unfold opNe
  rw [eqOf_good (st := st) (x := .tup xs) (y := .tup ys) hx hy rfl]
  simp [top_tup]
theorem eq_ref {st : Sto} {p : Nat} {xs ys : List D} (h : st[p]? = some (.lst xs)) (hx : (D.lst xs).good) (hy : (D.lst ys).good) : opEq (.ref p) (.lst ys) st = some (.bl (decide (xs = ys)), st) := by
  unfold opEq
  rw [eqOf_good (st := st) (x := .ref p) (y := .lst ys) (by rw [top_ref h]; exact hx) hy rfl, top_ref h]
  simp [top_lst]
theorem ne_ref {st : Sto} {p : Nat} {xs ys : List D} (h : st[p]? = some (.lst xs)) (hx : (D.lst xs).good) (hy : (D.lst ys).good) : opNe (.ref p) (.lst ys) st = some (.bl (!decide (xs = ys)), st) := by
  unfold opNe
  rw [eqOf_good (st := st) (x := .ref p) (y := .lst ys) (by rw [top_ref h]; exact hx) hy rfl, top_ref h]
  simp [top_lst]
theorem good_nilL : (D.lst []).good := ⟨by decide, by decide⟩
theorem good_nilT : (D.tup []).good := ⟨by decide, by decide⟩
/-- lists of ints; of tuples of two ints -/
theorem good_ints (ns : List Int) : (D.lst (ns.map D.int)).good := by
  refine ⟨?_, ?_⟩
  · show (decide (0 < 60) && D.okL 59 _) = true
    rw [okL_all 59 _ (fun x hx => by obtain ⟨a, _, rfl⟩ := List.mem_map.mp hx; simp [D.ok])]; rfl
  · show D.plL _ = true
    exact plL_all _ fun x hx => by obtain ⟨a, _, rfl⟩ := List.mem_map.mp hx; simp [D.pl]
theorem good_intsT (ns : List Int) : (D.tup (ns.map D.int)).good := by
  refine ⟨?_, ?_⟩
  · show (decide (0 < 60) && D.okL 59 _) = true
    rw [okL_all 59 _ (fun x hx => by obtain ⟨a, _, rfl⟩ := List.mem_map.mp hx; simp [D.ok])]; rfl
  · show D.plL _ = true
    exact plL_all _ fun x hx => by obtain ⟨a, _, rfl⟩ := List.mem_map.mp hx; simp [D.pl]
def pr (p : Int × Int) : D := .tup [.int p.1, .int p.2]
theorem good_pairs (ns : List (Int × Int)) : (D.lst (ns.map pr)).good := by
  refine ⟨?_, ?_⟩
  · show (decide (0 < 60) && D.okL 59 _) = true
    rw [okL_all 59 _ (fun x hx => by obtain ⟨a, _, rfl⟩ := List.mem_map.mp hx; simp [D.ok, D.okL, pr])]; rfl
  · show D.plL _ = true
    exact plL_all _ fun x hx => by obtain ⟨a, _, rfl⟩ := List.mem_map.mp hx; simp [D.pl, D.plL, pr]
theorem map_int_inj {a b : List Int} : a.map D.int = b.map D.int ↔ a = b := by
  constructor
  · intro h
    have := congrArg (List.map fun d => match d with | D.int i => i | _ => 0) h
    simpa [List.map_map, Function.comp_def] using this
  · intro h; rw [h]
theorem map_pr_inj {a b : List (Int × Int)} : a.map pr = b.map pr ↔ a = b := by
  constructor
  · intro h
    have := congrArg (List.map fun d => match d with | D.tup [.int i, .int j] => (i, j) | _ => (0, 0)) h
    simpa [List.map_map, Function.comp_def, pr] using this
  · intro h; rw [h]
/-! cuts -/
theorem cut_from {α : Type} (xs : List α) (n : Nat) : cut xs (some (n : Int)) none = xs.drop n := by
  unfold cut
  rw [HT.sIx_nat, HT.sIx_none]
  by_cases h : n ≤ xs.length
  · rw [Nat.min_eq_left h]
    exact List.take_of_length_le (by rw [List.length_drop]; omega)
  · rw [Nat.min_eq_right (by omega), List.drop_eq_nil_of_le (Nat.le_refl _), List.drop_eq_nil_of_le (by omega), List.take_nil]
theorem cut_to {α : Type} (xs : List α) (n : Nat) : cut xs none (some (n : Int)) = xs.take n := by
  unfold cut
  rw [HT.sIx_nat, HT.sIx_none, List.drop_zero, Nat.sub_zero]
  by_cases h : n ≤ xs.length
  · rw [Nat.min_eq_left h]
  · rw [Nat.min_eq_right (by omega), List.take_length, List.take_of_length_le (by omega)]
theorem cut_map {α β : Type} (f : α → β) (xs : List α) (lo hi : Option Int) : cut (xs.map f) lo hi = (cut xs lo hi).map f := by
  unfold cut
  rw [List.length_map, List.map_take, List.map_drop]
theorem sz (n : Nat) (h : n ≤ 1000000) : n ≤ sizeLine := Nat.le_trans h (by decide)
theorem sz_lt (n : Nat) (h : n ≤ 1000000) : n < sizeLine := Nat.lt_of_le_of_lt h (by decide)
end Ly
/-! Loops, ends. -/
namespace Ly
open PySem PySem.Spec PyProof.Rows L2

/-- a loop whose rounds all go on -/
theorem forX_inv {p : Pat} {body : MS} {ok : Sto → Bool} (Inv : Nat → Ev → Sto → Prop) (hok : ∀ k e st, Inv k e st → ok st = true) : ∀ (l : List D) (k : Nat) (e : Ev) (st : Sto),
    Inv k e st →
    (∀ j (h : j < l.length) (e : Ev) (st : Sto), Inv (k + j) e st → ∃ e1, asg p l[j] e = some e1 ∧ ∃ e2 st2, (body e1 st = .nx e2 st2 ∨ body e1 st = .ct e2 st2) ∧ Inv (k + j + 1) e2 st2) →
    ∃ e2 st2, forX ok p body l e st = .nx e2 st2 ∧ Inv (k + l.length) e2 st2
  | [], k, e, st, hI, _ => ⟨e, st, by unfold forX; rw [if_pos (hok k e st hI)], hI⟩
  | x :: xs, k, e, st, hI, hs => by
    obtain ⟨e1, ha, e2, st2, hb, hI2⟩ := hs 0 (by simp) e st hI
    obtain ⟨e3, st3, h3, hI3⟩ := forX_inv Inv hok xs (k + 1) e2 st2 hI2 fun j h e st hI => by
      have := hs (j + 1) (by simp; omega) e st (by rw [show k + (j + 1) = k + 1 + j by omega]; exact hI)
      rw [show k + (j + 1) + 1 = k + 1 + j + 1 by omega] at this
      simpa using this
    refine ⟨e3, st3, ?_, by rw [List.length_cons, show k + (xs.length + 1) = k + 1 + xs.length by omega]; exact hI3⟩
    unfold forX
    rw [if_pos (hok k e st hI)]
    simp only [List.getElem_cons_zero] at ha
    rw [ha]
    dsimp only
    rcases hb with hb | hb <;> rw [hb] <;> exact h3
/-- the same, of a list that is a map -/
theorem forX_map {α : Type} {p : Pat} {body : MS} (g : α → D) (l : List α) (Inv : Nat → Ev → Sto → Prop) {e : Ev} {st : Sto} (h0 : Inv 0 e st)
    (hs : ∀ j (h : j < l.length) (e : Ev) (st : Sto), Inv j e st → ∃ e1, asg p (g l[j]) e = some e1 ∧ ∃ e2 st2, (body e1 st = .nx e2 st2 ∨ body e1 st = .ct e2 st2) ∧ Inv (j + 1) e2 st2) :
    ∃ e2 st2, forX (fun _ => true) p body (l.map g) e st = .nx e2 st2 ∧ Inv l.length e2 st2 := by
  have := forX_inv (p := p) (body := body) (ok := fun _ => true) Inv (fun _ _ _ _ => rfl) (l.map g) 0 e st h0 fun j h e st hI => by
    rw [List.length_map] at h
    simpa using hs j h e st (by simpa using hI)
  simpa using this
@[simp] theorem asg_nm (i : Nat) (d : D) (e : Ev) : asg (.nm i) d e = some (e.set i (some d)) := rfl
theorem asg_tp (is : List Nat) (ds : List D) (e : Ev) (h : ds.length = is.length) : asg (.tp is) (.tup ds) e = some (setAll e is ds) := by show (if ds.length = is.length then _ else _) = _; rw [if_pos h]
@[simp] theorem asg_tp2 (i j : Nat) (a b : D) (e : Ev) : asg (.tp [i, j]) (.tup [a, b]) e = some ((e.set i (some a)).set j (some b)) := rfl
@[simp] theorem asg_pr (i j : Nat) (q : Int × Int) (e : Ev) : asg (.tp [i, j]) (pr q) e = some ((e.set i (some (.int q.1))).set j (some (.int q.2))) := rfl
theorem rng_map (lo : Int) (n : Nat) : rng lo n = (List.range n).map fun (i : Nat) => D.int (lo + (i : Int)) := rfl
theorem pairs_map {α β : Type} (f : α → D) (g : β → D) (xs : List α) (ys : List β) : pairs (xs.map f) (ys.map g) = (xs.zip ys).map fun p => D.tup [f p.1, g p.2] := by
  unfold pairs
  rw [List.zip_map, List.map_map]
  rfl
def range1D (ds : List D) (st1 : Sto) : R Src := match ds with
  | [.int j] => if small62 j = true ∧ j.toNat ≤ sizeLine then .ok ⟨rng 0 j.toNat, fun _ => true⟩ st1 else .bad
  | _ => .bad
def range2D (ds : List D) (st1 : Sto) : R Src := match ds with
  | [.int i, .int j] => if small62 i = true ∧ small62 j = true ∧ (j - i).toNat ≤ sizeLine then .ok ⟨rng i (j - i).toNat, fun _ => true⟩ st1 else .bad
  | _ => .bad
@[simp] theorem range1_run (as : M (List D)) (e : Ev) (st : Sto) : range1 as e st = (as e st).nxt range1D := by
  unfold range1
  rw [bnd_run]
  congr
  funext ds st1
  rw [lift_run]
  unfold range1D
  match ds with
  | [] => rfl
  | [d] => cases d with
    | int j => dsimp only; split <;> rfl
    | _ => rfl
  | x :: y :: r => cases x <;> rfl
@[simp] theorem range2_run (as : M (List D)) (e : Ev) (st : Sto) : range2 as e st = (as e st).nxt range2D := by
  unfold range2
  rw [bnd_run]
  congr
  funext ds st1
  rw [lift_run]
  unfold range2D
  match ds with
  | [] => rfl
  | [d] => cases d <;> rfl
  | [x, y] => cases x with
    | int i => cases y with
      | int j => dsimp only; split <;> rfl
      | _ => rfl
    | _ => rfl
  | x :: y :: z :: r => cases x <;> first | rfl | (cases y <;> rfl)
@[simp] theorem zipM_run (as : M (List D)) (e : Ev) (st : Sto) : zipM as e st = (as e st).nxt fun ds st1 => match ds with
  | [x, y] => if isTup x = isTup y then (match srcOf st1 x, srcOf st1 y with
    | some s, some t => .ok ⟨pairs s.xs t.xs, fun st => s.ok st && t.ok st⟩ st1
    | _, _ => .bad) else .bad
  | _ => .bad := by
  unfold zipM
  rw [bnd_run]
  congr
  funext ds st1
  rw [lift_run]
  match ds with
  | [x, y] =>
    dsimp only
    split
    · cases srcOf st1 x <;> cases srcOf st1 y <;> rfl
    · rfl
  | [] => rfl
  | [_] => rfl
  | _ :: _ :: _ :: _ => rfl
@[simp] theorem fAll_f {α : Type} (f : α → Bool) (l : List α) (st : Sto) : fAll [.lst (l.map fun a => .bl (f a))] st = some (.bl (l.all f), st) := by
  have := fAll_lst st (l.map f)
  rw [List.map_map, List.all_map] at this
  exact this
@[simp] theorem fAny_f {α : Type} (f : α → Bool) (l : List α) (st : Sto) : fAny [.lst (l.map fun a => .bl (f a))] st = some (.bl (l.any f), st) := by
  have := fAny_lst st (l.map f)
  rw [List.map_map, List.any_map] at this
  exact this
@[simp] theorem fSum_f {α : Type} (f : α → Int) (l : List α) (st : Sto) : fSumL [.lst (l.map fun a => .int (f a))] st = some (.int (l.map f).sum, st) := by
  have := fSum_lst st (l.map f)
  rw [List.map_map] at this
  exact this
@[simp] theorem fMin_f {α : Type} (f : α → Int) (l : List α) (st : Sto) : fMin [.lst (l.map fun a => .int (f a))] st = (minI (l.map f)).map fun i => (.int i, st) := by
  have := fMin_lst st (l.map f)
  rw [List.map_map] at this
  exact this
@[simp] theorem fMax_f {α : Type} (f : α → Int) (l : List α) (st : Sto) : fMax [.lst (l.map fun a => .int (f a))] st = (maxI (l.map f)).map fun i => (.int i, st) := by
  have := fMax_lst st (l.map f)
  rw [List.map_map] at this
  exact this
theorem clL_ints (n : Nat) (xs : List Int) : D.clL n (xs.map D.int) = true := clL_map n _ (fun _ => by simp) xs
theorem clL_prs (n : Nat) (xs : List (Int × Int)) : D.clL n (xs.map pr) = true := clL_map n _ (fun _ => by simp [pr]) xs
theorem ixN_last (n : Nat) : ixN (n + 1) (-1) = some n := by
  unfold ixN
  rw [if_neg (by decide), if_pos (by omega)]
  congr 1
  omega
theorem set_last {α : Type} (xs : List α) (a b : α) : (xs ++ [a]).set xs.length b = xs ++ [b] := by
  induction xs with
  | nil => rfl
  | cons x r ih => simp [ih]
@[simp] theorem sz1 : 1 ≤ sizeLine := sz 1 (by decide)
@[simp] theorem sz2 : 2 ≤ sizeLine := sz 2 (by decide)
@[simp] theorem sz3 : 3 ≤ sizeLine := sz 3 (by decide)
@[simp] theorem sz4 : 4 ≤ sizeLine := sz 4 (by decide)
@[simp] theorem sz5 : 5 ≤ sizeLine := sz 5 (by decide)
@[simp] theorem sz6 : 6 ≤ sizeLine := sz 6 (by decide)
@[simp] theorem sz7 : 7 ≤ sizeLine := sz 7 (by decide)
@[simp] theorem sz8 : 8 ≤ sizeLine := sz 8 (by decide)
@[simp] theorem sz9 : 9 ≤ sizeLine := sz 9 (by decide)
@[simp] theorem sz10 : 10 ≤ sizeLine := sz 10 (by decide)
@[simp] theorem sz11 : 11 ≤ sizeLine := sz 11 (by decide)
@[simp] theorem sz12 : 12 ≤ sizeLine := sz 12 (by decide)
@[simp] theorem sz16 : 16 ≤ sizeLine := sz 16 (by decide)
@[simp] theorem szI1 : (1 : Int) ≤ (sizeLine : Nat) := Int.ofNat_le.mpr (sz 1 (by decide))
@[simp] theorem szI2 : (2 : Int) ≤ (sizeLine : Nat) := Int.ofNat_le.mpr (sz 2 (by decide))
@[simp] theorem szI3 : (3 : Int) ≤ (sizeLine : Nat) := Int.ofNat_le.mpr (sz 3 (by decide))
@[simp] theorem szI4 : (4 : Int) ≤ (sizeLine : Nat) := Int.ofNat_le.mpr (sz 4 (by decide))
@[simp] theorem szI5 : (5 : Int) ≤ (sizeLine : Nat) := Int.ofNat_le.mpr (sz 5 (by decide))
@[simp] theorem szI6 : (6 : Int) ≤ (sizeLine : Nat) := Int.ofNat_le.mpr (sz 6 (by decide))
@[simp] theorem szI7 : (7 : Int) ≤ (sizeLine : Nat) := Int.ofNat_le.mpr (sz 7 (by decide))
@[simp] theorem szI8 : (8 : Int) ≤ (sizeLine : Nat) := Int.ofNat_le.mpr (sz 8 (by decide))
@[simp] theorem szI9 : (9 : Int) ≤ (sizeLine : Nat) := Int.ofNat_le.mpr (sz 9 (by decide))
@[simp] theorem szI10 : (10 : Int) ≤ (sizeLine : Nat) := Int.ofNat_le.mpr (sz 10 (by decide))
@[simp] theorem szI11 : (11 : Int) ≤ (sizeLine : Nat) := Int.ofNat_le.mpr (sz 11 (by decide))
@[simp] theorem szI12 : (12 : Int) ≤ (sizeLine : Nat) := Int.ofNat_le.mpr (sz 12 (by decide))
@[simp] theorem szI16 : (16 : Int) ≤ (sizeLine : Nat) := Int.ofNat_le.mpr (sz 16 (by decide))
theorem szI {i : Int} (h : i ≤ 1000000) : i ≤ (sizeLine : Nat) := Int.le_trans h (Int.ofNat_le.mpr (sz 1000000 (by decide)))
@[simp] theorem atI_zero {α : Type} (a : α) (l : List α) : atI (a :: l) 0 = some a := atI_nat (j := 0) rfl
@[simp] theorem atI_one {α : Type} (a b : α) (l : List α) : atI (a :: b :: l) 1 = some b := atI_nat (j := 1) rfl
@[simp] theorem atI_two {α : Type} (a b c : α) (l : List α) : atI (a :: b :: c :: l) 2 = some c := atI_nat (j := 2) rfl
theorem sm62 {i : Int} (h1 : -4611686018427387904 ≤ i) (h2 : i < 4611686018427387904) : small62 i = true := by
  unfold small62
  rw [Bool.and_eq_true, decide_eq_true_eq, decide_eq_true_eq]
  exact ⟨h1, h2⟩
theorem range1_int {i : Int} (h0 : -1000000 ≤ i) (h : i ≤ 1000000) (st : Sto) : range1D [.int i] st = .ok ⟨rng 0 i.toNat, fun _ => true⟩ st := by
  unfold range1D
  dsimp only
  rw [if_pos ⟨sm62 (by omega) (by omega), sz _ (by omega)⟩]
theorem range1_nat {n : Nat} (h : n ≤ 1000000) (st : Sto) : range1D [.int (n : Int)] st = .ok ⟨rng 0 n, fun _ => true⟩ st := range1_int (by omega) (by omega) st
theorem range2_int {i j : Int} (h0 : -1000000 ≤ i) (h1 : i ≤ 1000000) (h2 : -1000000 ≤ j) (h3 : j ≤ 1000000) (h : j - i ≤ 1000000) (st : Sto) : range2D [.int i, .int j] st = .ok ⟨rng i (j - i).toNat, fun _ => true⟩ st := by
  unfold range2D
  dsimp only
  rw [if_pos ⟨sm62 (by omega) (by omega), sm62 (by omega) (by omega), sz _ (by omega)⟩]
theorem scr_ok {n : Nat} (h : n ≤ 63) : n ≤ sizeLine := sz n (by omega)
end Ly
/-! Rules that came later. -/
namespace Ly
open PySem PySem.Spec PyProof.Rows L2
/-! is, is not of truths -/
def opIsB (x y : D) (st : Sto) : Option (D × Sto) := match x, y with
  | .bl a, .bl b => some (.bl (decide (a = b)), st)
  | _, _ => none
def opNotB (x y : D) (st : Sto) : Option (D × Sto) := match x, y with
  | .bl a, .bl b => some (.bl (!decide (a = b)), st)
  | _, _ => none
theorem opIsB_ok {C : Ctx} : BinOk C opIsB rIsB := fun B st x y v u Q d st' R rx ry e k => by
  unfold opIsB at e
  split at e
  · cases e
    exact ⟨_, _, rx.bl_inv, ry.bl_inv, k _ B (Ext.refl _ _) R rep_bl⟩
  · cases e
theorem opNotB_ok {C : Ctx} : BinOk C opNotB rNotB := fun B st x y v u Q d st' R rx ry e k => by
  unfold opNotB at e
  split at e
  · cases e
    exact ⟨_, _, rx.bl_inv, ry.bl_inv, k _ B (Ext.refl _ _) R rep_bl⟩
  · cases e
section
variable {X : Cx} {C : Ctx} {W : WX} {a b : Expr} {ca cb : M D} {pos : Pos}
theorem e_isB (ha : PE X a (te C W ca)) (hb : PE X b (te C W cb)) : PE X (.Compare a [.Is] [b] pos) (te C W (bin opIsB ca cb)) := e_cmp op_isBl opIsB_ok ha hb (nomark _)
theorem e_notB (ha : PE X a (te C W ca)) (hb : PE X b (te C W cb)) : PE X (.Compare a [.IsNot] [b] pos) (te C W (bin opNotB ca cb)) := e_cmp op_notBl opNotB_ok ha hb (nomark _)
theorem t_isB (ha : PE X a (te C W ca)) (hb : PE X b (te C W cb)) : PT X (.Compare a [.Is] [b] pos) (tb C W (tst (bin opIsB ca cb))) := t_cmpG op_isBl opIsB_ok ha hb (nomark _)
theorem t_notB (ha : PE X a (te C W ca)) (hb : PE X b (te C W cb)) : PT X (.Compare a [.IsNot] [b] pos) (tb C W (tst (bin opNotB ca cb))) := t_cmpG op_notBl opNotB_ok ha hb (nomark _)
end
@[simp] theorem isB_run (a b : Bool) (st : Sto) : opIsB (.bl a) (.bl b) st = some (.bl (decide (a = b)), st) := rfl
@[simp] theorem notB_run (a b : Bool) (st : Sto) : opNotB (.bl a) (.bl b) st = some (.bl (!decide (a = b)), st) := rfl
section
variable {st : Sto} {p : Nat}
theorem rdOf_ref {xs : List D} (h : st[p]? = some (.lst xs)) : rdOf st (.ref p) = some xs := by unfold rdOf; exact lstOf_ref h
theorem min_ref {ns : List Int} (h : st[p]? = some (.lst (ns.map .int))) : fMin [.ref p] st = (minI ns).map fun i => (.int i, st) := by
  show (rdOf st (.ref p)).bind _ = _
  rw [rdOf_ref h, Option.bind_some, intsOf_map]; rfl
theorem max_ref {ns : List Int} (h : st[p]? = some (.lst (ns.map .int))) : fMax [.ref p] st = (maxI ns).map fun i => (.int i, st) := by
  show (rdOf st (.ref p)).bind _ = _
  rw [rdOf_ref h, Option.bind_some, intsOf_map]; rfl
theorem len_ref {xs : List D} (h : st[p]? = some (.lst xs)) : fLen [.ref p] st = some (.int xs.length, st) := by
  show (seqOf st (.ref p)).map _ = _
  rw [show seqOf st (.ref p) = some xs from rdOf_ref h]; rfl
theorem tuple_ref {xs : List D} (h : st[p]? = some (.lst xs)) : fTuple [.ref p] st = some (.tup xs, st) := by
  show (seqOf st (.ref p)).map _ = _
  rw [show seqOf st (.ref p) = some xs from rdOf_ref h]; rfl
theorem flat_ints (ns : List Int) : (ns.map D.int).all D.flat = true := List.all_eq_true.mpr fun x hx => by
  obtain ⟨a, _, rfl⟩ := List.mem_map.mp hx; rfl
theorem find_ints (ns : List Int) (v : Int) : (ns.map D.int).findIdx? (fun z => D.eq z (.int v)) = ns.findIdx? fun z => decide (z = v) := by
  rw [List.findIdx?_map]
  rfl
theorem index_of {x : D} {ns : List Int} (h : rdOf st x = some (ns.map .int)) (v : Int) : fIndex x [.int v] st = (ns.findIdx? fun z => decide (z = v)).map fun (j : Nat) => (.int (j : Int), st) := by
  unfold fIndex
  dsimp only
  rw [h, Option.bind_some, flat_ints, find_ints]
  rfl
theorem isOf_lst (xs : List D) : isOf "list" st (.lst xs) = true := by
  unfold isOf; rw [if_pos rfl] <;> rfl
end
section
variable {st : Sto} {a b c : Cell}
theorem get2a : (st ++ [a, b])[st.length]? = some a := by simp
theorem get2b : (st ++ [a, b])[st.length + 1]? = some b := by simp
theorem set1 : (st ++ [a]).set st.length c = st ++ [c] := set_last _ _ _
theorem set2a : (st ++ [a, b]).set st.length c = st ++ [c, b] := by
  rw [List.set_append_right _ _ (Nat.le_refl _), Nat.sub_self]; rfl
theorem set2b : (st ++ [a, b]).set (st.length + 1) c = st ++ [a, c] := by
  rw [List.set_append_right _ _ (by omega), show st.length + 1 - st.length = 1 by omega]; rfl
end
def tr (q : Int × Int × Int) : D := .tup [.int q.1, .int q.2.1, .int q.2.2]
theorem good_trs (ns : List (Int × Int × Int)) : (D.lst (ns.map tr)).good := by
  refine ⟨?_, ?_⟩
  · show (decide (0 < 60) && D.okL 59 _) = true
    rw [okL_all 59 _ (fun x hx => by obtain ⟨a, _, rfl⟩ := List.mem_map.mp hx; simp [D.ok, D.okL, tr])]; rfl
  · show D.plL _ = true
    exact plL_all _ fun x hx => by obtain ⟨a, _, rfl⟩ := List.mem_map.mp hx; simp [D.pl, D.plL, tr]
theorem map_tr_inj {a b : List (Int × Int × Int)} : a.map tr = b.map tr ↔ a = b := by
  constructor
  · intro h
    have := congrArg (List.map fun d => match d with | D.tup [.int i, .int j, .int k] => (i, j, k) | _ => (0, 0, 0)) h
    simpa [List.map_map, Function.comp_def, tr] using this
  · intro h; rw [h]
theorem clL_trs (n : Nat) (xs : List (Int × Int × Int)) : D.clL n (xs.map tr) = true := clL_map n _ (fun _ => by simp [tr]) xs
@[simp] theorem asg_tr (i j k : Nat) (q : Int × Int × Int) (e : Ev) : asg (.tp [i, j, k]) (tr q) e = some (((e.set i (some (.int q.1))).set j (some (.int q.2.1))).set k (some (.int q.2.2))) := rfl
@[simp] theorem asg_tp3 (i j k : Nat) (a b c : D) (e : Ev) : asg (.tp [i, j, k]) (.tup [a, b, c]) e = some (((e.set i (some a)).set j (some b)).set k (some c)) := rfl
theorem atI_map' {α : Type} (f : α → D) (xs : List α) (k : Nat) (x : α) (h : xs[k]? = some x) : atI (xs.map f) (k : Int) = some (f x) := atI_nat (by rw [List.getElem?_map, h]; rfl)
theorem ixN_at {n j : Nat} (hj : j < n) : ixN n (j : Int) = some j := by
  unfold ixN
  rw [if_pos (by omega), if_pos (by omega)]
  simp
theorem flat_rep {α : Type} (a : α) : ∀ n : Nat, (List.replicate n [a]).flatten = List.replicate n a
  | 0 => rfl
  | n + 1 => by rw [List.replicate_succ, List.flatten_cons, flat_rep a n, List.replicate_succ]; rfl
theorem rep_one (i : Int) {n : Nat} (h : n ≤ 1000000) (st : Sto) : repN2 (.lst [.int i]) (.int (n : Int)) st = some ((List.replicate n i).map .int, st) := by
  show repD st (.lst [.int i]) (n : Int) = _
  unfold repD
  rw [show lstOf st (.lst [.int i]) = some [.int i] from rfl]
  dsimp only
  rw [if_pos ⟨by omega, by omega, sz _ (by simp; omega)⟩, Int.toNat_natCast, flat_rep, List.map_replicate]
/-! a list backwards; wide division -/
def unN (f : D → Sto → Option (List D × Sto)) (a : M D) : M (List D) := bnd a fun x => lift (f x)
@[simp] theorem unN_run (f : D → Sto → Option (List D × Sto)) (a : M D) (e : Ev) (st : Sto) : unN f a e st = (a e st).nxt fun x st1 => optR (f x st1) := by unfold unN; simp
def revN (x : D) (st : Sto) : Option (List D × Sto) := (rdOf st x).map fun xs => (xs.reverse, st)
theorem n_rev {X : Cx} {C : Ctx} {W : WX} {a : Expr} {ca : M D} {k : Nat} {p1 p2 p3 pos : Pos} (hK : C.K = X.K := by rfl) (ha : PE X a (te C W ca)) : PE X (.Subscript a (.Slice none none (some (.UnaryOp .USub (.Constant (.int 1) k p1) p2)) p3) pos) (tn C W (unN revN ca)) :=
  (pe_revL ha).imp fun σ H Q ⟨env, st, B, e, r, p⟩ => by
    subst e
    refine (seq r p).mono fun v H1 ⟨x, st1, B1, e1, x1, r1, p1, k1⟩ => ?_
    subst e1
    obtain ⟨d, st', e, k⟩ := post_lift k1
    unfold revN at e
    cases ex : rdOf st1 x with
    | none => rw [ex] at e; cases e
    | some xs =>
      rw [ex] at e; cases e
      obtain ⟨a, vs, rfl, hq, hz, t⟩ := rdOf_rep r1.h ex p1
      refine ⟨a, vs, rfl, hK ▸ hq, fun p hp => ?_⟩
      obtain ⟨x2, r2, q⟩ := new_list r1.h hp (by rw [List.length_reverse]; exact hz) t.reverse
      exact k (.ref p) _ x2 (r1.of x2 r2) q
def opDivW (x y : D) (st : Sto) : Option (D × Sto) := match x, y with
  | .int i, .int j => if 0 < j ∧ j < 18446744073709551616 then some (.int (i / j), st) else none
  | _, _ => none
theorem opDivW_ok {C : Ctx} : BinOk C opDivW (rI CDivW fun i j => .int (i / j)) := fun B st x y v u Q d st' R rx ry e k => by
  unfold opDivW at e
  split at e
  · split at e
    · rename_i hz
      cases e
      rw [rx.int_inv, ry.int_inv]
      exact ⟨_, _, rfl, rfl, wide_div (b := 64) hz.1 (by omega) (by decide) (by decide), k _ B (Ext.refl _ _) R rep_int⟩
    · cases e
  · cases e
theorem e_divW {X : Cx} {C : Ctx} {W : WX} {a b : Expr} {ca cb : M D} {pos : Pos} (ha : PE X a (te C W ca)) (hb : PE X b (te C W cb)) : PE X (.BinOp a .FloorDiv b pos) (te C W (bin opDivW ca cb)) := e_bin op_fdivW opDivW_ok ha hb
theorem divW_int {i j : Int} (h : 0 < j) (h2 : j < 18446744073709551616) (st : Sto) : opDivW (.int i) (.int j) st = some (.int (i / j), st) := by
  unfold opDivW; dsimp only; rw [if_pos ⟨h, h2⟩]
end Ly
/-! More of tuples and lists: in, sum, sorted. -/
namespace Ly
open PySem PySem.Spec PyProof.Rows L2

/-! ### x in l, of data of any depth -/
theorem any_py : ∀ (L : List D) (x : D), D.nsL L = true → D.ns x = true → (D.pyL L).any (fun z => PyData.eqv z (D.py x)) = L.any fun z => D.eq z x
  | [], _, _, _ => by simp [D.pyL]
  | y :: L, x, h, hx => by
    simp [D.nsL] at h
    have e := any_py L x h.2 hx
    have e2 := D.eqv_py y x h.1 hx
    rw [D.pyL, List.any_cons, List.any_cons, e, e2]
def inD (neg : Bool) (x y : D) (st : Sto) : Option (D × Sto) := match top st y with
  | .lst L => if D.ok 60 (top st x) && D.ns (top st x) && (D.ok 60 (.lst L) && D.ns (.lst L)) then some (.bl (if neg then !L.any fun z => D.eq z (top st x) else L.any fun z => D.eq z (top st x)), st) else none
  | _ => none
theorem inD_ok {C : Ctx} : BinOk C (inD false) (rInD C.K) := fun B st x y v u Q d st' R rx ry e k => by
  unfold inD at e
  split at e
  · rename_i L hy
    split at e
    · rename_i h
      cases e
      simp only [Bool.and_eq_true] at h
      have dy := top_dp R (d := y) (by rw [hy]; exact h.2.1) (by rw [hy]; exact h.2.2) ry
      rw [hy] at dy
      have hL : D.nsL L = true := by have := h.2.2; simpa [D.ns] using this
      have sh := D.ok_shaped h.2.1
      simp only [D.py] at dy sh
      exact ⟨_, _, top_dp R h.1.1 h.1.2 rx, dy, D.ok_shaped h.1.1, sh, by rw [any_py L _ hL h.1.2]; exact k _ B (Ext.refl _ _) R rep_bl⟩
    · cases e
  · cases e
theorem notInD_ok {C : Ctx} : BinOk C (inD true) (rNotInD C.K) := fun B st x y v u Q d st' R rx ry e k => by
  unfold inD at e
  split at e
  · rename_i L hy
    split at e
    · rename_i h
      cases e
      simp only [Bool.and_eq_true] at h
      have dy := top_dp R (d := y) (by rw [hy]; exact h.2.1) (by rw [hy]; exact h.2.2) ry
      rw [hy] at dy
      have hL : D.nsL L = true := by have := h.2.2; simpa [D.ns] using this
      have sh := D.ok_shaped h.2.1
      simp only [D.py] at dy sh
      exact ⟨_, _, top_dp R h.1.1 h.1.2 rx, dy, D.ok_shaped h.1.1, sh, by rw [any_py L _ hL h.1.2]; exact k _ B (Ext.refl _ _) R rep_bl⟩
    · cases e
  · cases e
section
variable {X : Cx} {C : Ctx} {W : WX} {a b : Expr} {ca cb : M D} {pos : Pos}
theorem e_inD (hK : C.K = X.K := by rfl) (hu : X.A.units + 65 < cLine) (ha : PE X a (te C W ca)) (hb : PE X b (te C W cb)) (hm : behindInMarks .In b = false := by rfl) : PE X (.Compare a [.In] [b] pos) (te C W (bin (inD false) ca cb)) := e_cmp (hK ▸ op_inD hu) inD_ok ha hb hm
theorem e_notInD (hK : C.K = X.K := by rfl) (hu : X.A.units + 65 < cLine) (ha : PE X a (te C W ca)) (hb : PE X b (te C W cb)) (hm : behindInMarks .NotIn b = false := by rfl) : PE X (.Compare a [.NotIn] [b] pos) (te C W (bin (inD true) ca cb)) := e_cmp (hK ▸ op_notInD hu) notInD_ok ha hb hm
theorem t_inD (hK : C.K = X.K := by rfl) (hu : X.A.units + 65 < cLine) (ha : PE X a (te C W ca)) (hb : PE X b (te C W cb)) (hm : behindInMarks .In b = false := by rfl) : PT X (.Compare a [.In] [b] pos) (tb C W (tst (bin (inD false) ca cb))) := t_cmpG (hK ▸ op_inD hu) inD_ok ha hb hm
theorem t_notInD (hK : C.K = X.K := by rfl) (hu : X.A.units + 65 < cLine) (ha : PE X a (te C W ca)) (hb : PE X b (te C W cb)) (hm : behindInMarks .NotIn b = false := by rfl) : PT X (.Compare a [.NotIn] [b] pos) (tb C W (tst (bin (inD true) ca cb))) := t_cmpG (hK ▸ op_notInD hu) notInD_ok ha hb hm
end

/-! ### sum(t), t a tuple or a list -/
def rSumT (K : PySem.W.Frag) : List V → Hp → VK → Prop := fun vs H Q => ∃ (t : Addr) (ns : List Int), vs = [V.ref t] ∧ SqT K H t (ns.map V.int) ∧ Q (.int ns.sum) H
theorem call_sumTup {X : Cx} (hc : X.calm = true) : CallR X (.builtin "sum") (rSumT X.K) := by
  intro pins s σ H vs us Q I r h
  obtain ⟨t, ns, e, hs, q⟩ := h
  subst e
  obtain ⟨its, rv, hT, _⟩ := I.tuple hs
  obtain ⟨ps, hps⟩ := rv.ints.allInts.items
  have hsum : numsOf its.toArray.toList = ns := by rw [show its.toArray.toList = its from rfl, rv.ints.numsOf]
  obtain ⟨o, ho, oc, od⟩ := hT
  have hT2 : s.heap.IsTuple t its.toArray := ⟨o, ho, oc, od⟩
  rw [hps] at hsum hT2
  rw [nums_intItems] at hsum
  rw [Vals.ref1 r]
  refine PySem.W.ktm_sumG (I.ok.hd hc) hT2 fun h' tk t' hk => ?_
  rw [preSum_eq, List.take_of_length_le (by simp), hsum]
  exact ⟨.int _, H, I.kept hk, ⟨_, rfl⟩, q⟩
def fSumA : List D → Sto → Option (D × Sto)
  | [.tup xs], st => (intsOf xs).map fun ns => (.int ns.sum, st)
  | xs, st => fSumL xs st
theorem fSumA_ok {C : Ctx} : CallOk C fSumA (fun vs H Q => rSum C.K vs H Q ∨ rSumT C.K vs H Q) := fun B st xs vs Q d st' R r e k => by
  unfold fSumA at e
  split at e
  · rename_i ys
    cases en : intsOf ys with
    | none => rw [en] at e; cases e
    | some ns =>
      rw [en] at e; cases e
      obtain ⟨v, t, rfl, q, h⟩ := r.cons_inv
      rw [h.nil_inv]
      obtain ⟨a, us, rfl, hz, hq, tt⟩ := q.tup_inv
      have ey := intsOf_eq en
      subst ey
      have eu : us = ns.map V.int := by
        clear hq hz q r h k en
        induction ns generalizing us with
        | nil => exact tt.nil_inv
        | cons n ns ih =>
          obtain ⟨v, r, rfl, q, h⟩ := tt.cons_inv
          rw [q.int_inv, ih r h]
          rfl
      subst eu
      exact .inr ⟨a, ns, rfl, hq, k _ B (Ext.refl _ _) R rep_int⟩
  · exact .inl (fSumL_ok B st xs vs Q d st' R r e k)
section
variable {X : Cx} {C : Ctx} {W : WX} {e : Expr} {as : M (List D)} {p pos : Pos}
theorem e_sumA (hc : X.calm = true := by rfl) (hK : C.K = X.K := by rfl) (hg : Gl X "sum") (hm : X.mg "sum" = none) (ha : PA X [e] (ta C W as)) (he : starEach [e] X.env = (false, eval e X.env) :: starEach [] X.env := by rfl) (hpl : (backTo pos (starEach [] X.env)).any (·.1) = false := by rfl) : PE X (.Call (.Name "sum" p) [e] [] pos) (te C W (calls fSumA as)) :=
  e_callB ((hK ▸ cr_sum hc).or (hK ▸ call_sumTup hc)) fSumA_ok hg hm (by decide +kernel) ha (by decide) (by decide) he hpl
end

/-! ### sorted(l), l of int tuples of one length -/
theorem RepL.perm {C : Ctx} {B : Bd} {xs ys : List V} (p : ys.Perm xs) : ∀ {ds : List D}, RepL C B ds xs → ∃ es : List D, es.Perm ds ∧ RepL C B es ys := by
  induction p with
  | nil => exact fun {ds} h => ⟨ds, List.Perm.refl _, h⟩
  | cons x _ ih =>
    intro ds h
    cases ds with
    | nil => cases h.nil_inv
    | cons d ds =>
      obtain ⟨v, r, e, q, t⟩ := h.cons_inv
      cases e
      obtain ⟨es, pe, re⟩ := ih t
      exact ⟨d :: es, pe.cons d, .cons q re⟩
  | swap x y l =>
    intro ds h
    cases ds with
    | nil => cases h.nil_inv
    | cons d ds =>
      obtain ⟨v, r, e, q, t⟩ := h.cons_inv
      cases e
      cases ds with
      | nil => cases t.nil_inv
      | cons d2 ds =>
        obtain ⟨v2, r2, e2, q2, t2⟩ := t.cons_inv
        cases e2
        exact ⟨d2 :: d :: ds, List.Perm.swap _ _ _, .cons q2 (.cons q t2)⟩
  | trans _ _ ih1 ih2 =>
    intro ds h
    obtain ⟨es, p1, r1⟩ := ih2 h
    obtain ⟨fs, p2, r2⟩ := ih1 r1
    exact ⟨fs, p2.trans p1, r2⟩
def tupD (l : List Int) : D := .tup (l.map .int)
def tupsI : List D → Option (List (List Int))
  | [] => some []
  | .tup xs :: r => (intsOf xs).bind fun l => (tupsI r).map (l :: ·)
  | _ => none
theorem tupsI_eq : ∀ {ds : List D} {L : List (List Int)}, tupsI ds = some L → ds = L.map tupD
  | [], L, h => by unfold tupsI at h; cases h; rfl
  | d :: ds, L, h => by
    unfold tupsI at h
    split at h
    · cases h; simp at *
    · rename_i xs r heq
      cases heq
      cases e1 : intsOf xs with
      | none => rw [e1] at h; cases h
      | some l =>
        cases e2 : tupsI ds with
        | none => rw [e1, e2] at h; cases h
        | some M =>
          rw [e1, e2] at h
          cases h
          rw [List.map_cons, ← tupsI_eq e2, intsOf_eq e1]
          rfl
    · cases h
theorem tupsI_map (L : List (List Int)) : tupsI (L.map tupD) = some L := by
  induction L with
  | nil => rfl
  | cons l L ih => rw [List.map_cons]; unfold tupD tupsI; rw [intsOf_map]; show (tupsI (L.map tupD)).map _ = _; rw [ih]; rfl
abbrev BB : Int := 4294967296
def okTups (d : Nat) (L : List (List Int)) : Bool := L.all fun l => decide (l.length = d) && l.all fun i => decide (0 ≤ i) && decide (i < BB)
def ordT (l m : List Int) : Bool := decide (TS.code BB l ≤ TS.code BB m)
def fSortT : List D → Sto → Option (List D × Sto)
  | [x], st => (rdOf st x).bind fun ds => (tupsI ds).bind fun L => if L.length < 64 ∧ 1 ≤ (L.headD [0]).length ∧ okTups (L.headD [0]).length L = true then some ((L.mergeSort ordT).map tupD, st) else none
  | _, _ => none
theorem code_eq : ∀ {l m : List Int}, l.length = m.length → TS.Bd BB l → TS.Bd BB m → TS.code BB l = TS.code BB m → l = m
  | [], [], _, _, _, _ => rfl
  | [], _ :: _, h, _, _, _ => by simp at h
  | _ :: _, [], h, _, _, _ => by simp at h
  | a :: l, b :: m, h, h1, h2, e => by
    have hl : l.length = m.length := by simpa using h
    rcases Int.lt_trichotomy a b with z | z | z
    · have := TS.code_lt hl h1.tail h2.tail z; omega
    · subst z
      have e2 : a * BB ^ l.length + TS.code BB l = a * BB ^ m.length + TS.code BB m := e
      rw [hl] at e2
      rw [code_eq hl h1.tail h2.tail (Int.add_left_cancel e2)]
    · have := TS.code_lt hl.symm h2.tail h1.tail z; omega
theorem ints_rep {C : Ctx} {B : Bd} : ∀ {ns : List Int} {us : List V}, RepL C B (ns.map .int) us → us = ns.map V.int
  | [], _, h => h.nil_inv
  | n :: ns, us, h => by
    obtain ⟨v, r, rfl, q, t⟩ := h.cons_inv
    rw [q.int_inv, ints_rep t]
    rfl
theorem tupI_of {C : Ctx} {B : Bd} {l : List Int} {v : V} (h : Rep C B (tupD l) v) : TupI C.K B.H v l := by
  obtain ⟨a, us, rfl, _, hq, tt⟩ := h.tup_inv
  exact ⟨a, rfl, (ints_rep tt) ▸ hq⟩
theorem tupI_all {C : Ctx} {B : Bd} : ∀ {L : List (List Int)} {vs : List V}, RepL C B (L.map tupD) vs → ∀ x ∈ vs, ∃ l ∈ L, TupI C.K B.H x l
  | [], _, h, x, hx => by rw [h.nil_inv] at hx; cases hx
  | l :: L, vs, h, x, hx => by
    obtain ⟨v, r, rfl, q, t⟩ := h.cons_inv
    rcases List.mem_cons.mp hx with rfl | hx
    · exact ⟨l, List.mem_cons_self, tupI_of q⟩
    · obtain ⟨m, hm, e⟩ := tupI_all t x hx
      exact ⟨m, List.mem_cons_of_mem _ hm, e⟩
theorem tupI_back {C : Ctx} {B : Bd} : ∀ {L : List (List Int)} {vs : List V}, RepL C B (L.map tupD) vs → ∀ l ∈ L, ∃ x ∈ vs, TupI C.K B.H x l
  | [], _, _, l, hl => by cases hl
  | m :: L, vs, h, l, hl => by
    obtain ⟨v, r, rfl, q, t⟩ := h.cons_inv
    rcases List.mem_cons.mp hl with rfl | hl
    · exact ⟨v, List.mem_cons_self, tupI_of q⟩
    · obtain ⟨x, hx, e⟩ := tupI_back t l hl
      exact ⟨x, List.mem_cons_of_mem _ hx, e⟩
theorem pair_back {C : Ctx} {B : Bd} : ∀ {L : List (List Int)} {vs : List V}, RepL C B (L.map tupD) vs → vs.Pairwise (fun x y => ∀ n m, TupI C.K B.H x n → TupI C.K B.H y m → TS.code BB n ≤ TS.code BB m) → L.Pairwise (fun a b => ordT a b = true)
  | [], _, _, _ => List.Pairwise.nil
  | m :: L, vs, h, hp => by
    obtain ⟨v, r, rfl, q, t⟩ := h.cons_inv
    obtain ⟨h1, h2⟩ := List.pairwise_cons.mp hp
    refine List.pairwise_cons.mpr ⟨fun l hl => ?_, pair_back t h2⟩
    obtain ⟨x, hx, e⟩ := tupI_back t l hl
    exact decide_eq_true (h1 x hx m l (tupI_of q) e)
def invT : D → List Int
  | .tup xs => (intsOf xs).getD []
  | _ => []
theorem inv_tup (l : List Int) : invT (tupD l) = l := by show (intsOf (l.map D.int)).getD [] = l; rw [intsOf_map]; rfl
theorem fSortT_ok {C : Ctx} : CallOkN C fSortT (fun vs H Q => ∃ d, 1 ≤ d ∧ rSortU C.K d BB vs H Q) := fun B st xs vs Q ds st' R r e k => by
  unfold fSortT at e
  split at e
  · rename_i x
    cases ex : rdOf st x with
    | none => rw [ex] at e; cases e
    | some es =>
      cases el : tupsI es with
      | none => rw [ex, Option.bind_some, el] at e; cases e
      | some L =>
        rw [ex, Option.bind_some, el, Option.bind_some] at e
        split at e
        · rename_i hc
          obtain ⟨c1, c2, c3⟩ := hc
          cases e
          have ee := tupsI_eq el
          subst ee
          obtain ⟨v, t, rfl, q, h⟩ := r.cons_inv
          rw [h.nil_inv]
          obtain ⟨a, us, rfl, hq, hz, tt⟩ := rdOf_rep R ex q
          have hul : us.length = L.length := by rw [tt.length, List.length_map]
          have good : ∀ l ∈ L, l.length = (L.headD [0]).length ∧ TS.Bd BB l := fun l hl => by
            have := (List.all_eq_true.mp c3) l hl
            rw [Bool.and_eq_true, decide_eq_true_eq] at this
            refine ⟨this.1, fun m hm => ?_⟩
            have := (List.all_eq_true.mp this.2) m hm
            rw [Bool.and_eq_true, decide_eq_true_eq, decide_eq_true_eq] at this
            exact this
          refine ⟨(L.headD [0]).length, c2, a, us, rfl, hq, by omega, fun x hx => ?_, fun ys p hp ho hn => ?_⟩
          · obtain ⟨l, hl, e⟩ := tupI_all tt x hx
            exact ⟨l, e, good l hl⟩
          · obtain ⟨fs, pf, rf⟩ := tt.perm hp
            have mem : ∀ f ∈ fs, ∃ l ∈ L, f = tupD l := fun f hf => by
              obtain ⟨l, hl, e⟩ := List.mem_map.mp (pf.subset hf)
              exact ⟨l, hl, e.symm⟩
            have ef : fs = (fs.map invT).map tupD := by
              rw [List.map_map]
              conv => lhs; rw [← List.map_id fs]
              refine List.map_congr_left fun f hf => ?_
              obtain ⟨l, _, e⟩ := mem f hf
              subst e
              exact (congrArg tupD (inv_tup l)).symm
            have pL : (fs.map invT).Perm L := by
              have := pf.map invT
              rw [List.map_map] at this
              have e2 : L.map (invT ∘ tupD) = L := by
                conv => rhs; rw [← List.map_id L]
                exact List.map_congr_left fun l _ => inv_tup l
              rwa [e2] at this
            rw [ef] at rf
            have sorted := pair_back rf ho
            have same : fs.map invT = L.mergeSort ordT := by
              refine List.Perm.eq_of_pairwise (le := fun a b => ordT a b = true) (fun x y hx hy h1 h2 => ?_) sorted (List.pairwise_mergeSort (fun x y z h1 h2 => ?_) (fun x y => ?_) L) (pL.trans (List.mergeSort_perm L ordT).symm)
              · have gx := good x (pL.subset hx)
                have gy := good y ((List.mergeSort_perm L ordT).subset hy)
                exact code_eq (gx.1.trans gy.1.symm) gx.2 gy.2 (Int.le_antisymm (of_decide_eq_true h1) (of_decide_eq_true h2))
              · exact decide_eq_true (Int.le_trans (of_decide_eq_true h1) (of_decide_eq_true h2))
              · unfold ordT
                rcases Int.le_total (TS.code BB x) (TS.code BB y) with z | z <;> simp [z]
            rw [same] at rf
            obtain ⟨x2, r2, q2⟩ := new_list R hn (by rw [hp.length_eq]; exact hz) rf
            exact k (.ref p) _ x2 r2 q2
        · cases e
  · cases e
section
variable {X : Cx} {C : Ctx} {W : WX} {e : Expr} {as : M (List D)} {p pos : Pos}
theorem call_sortAll {X : Cx} : CallR X (.builtin "sorted") (fun vs H Q => ∃ d, 1 ≤ d ∧ rSortU X.K d BB vs H Q) := by
  intro pins s σ H vs us Q I r h
  obtain ⟨d, hd, h⟩ := h
  exact cr_sortT hd pins s σ H vs us Q I r h
theorem n_sortT (hK : C.K = X.K := by rfl) (hg : Gl X "sorted") (hm : X.mg "sorted" = none) (ha : PA X [e] (ta C W as)) (he : starEach [e] X.env = (false, eval e X.env) :: starEach [] X.env := by rfl) (hpl : (backTo pos (starEach [] X.env)).any (·.1) = false := by rfl) : PE X (.Call (.Name "sorted" p) [e] [] pos) (tn C W (calls fSortT as)) :=
  (pe_callB (hK ▸ call_sortAll) hg hm (by decide +kernel) ha (by decide) (by decide) he hpl).imp (calls_rdN fSortT_ok)
end
/-! ### o[k], p[l] = x, y -/
def subX (o k : M D) (x : D) : MS := mk o fun y => mk k fun z => fun env st => match y, z with
  | .ref i, .int j => (match st[i]? with
    | some (.lst xs) => (match ixN xs.length j with
      | some n => .nx env (st.set i (.lst (xs.set n x)))
      | none => .bad)
    | _ => .bad)
  | _, _ => .bad
theorem subX_rd {C : Ctx} {W : WX} {co ck : M D} {x : D} {v : V} {B : Bd} {env : Ev} {σ : Sl} {st : Sto} {E : Ends} (r : Rel C B env σ st) (rx : Rep C B x v) (q : postS C W B E (subX co ck x env st)) :
    gSub (te C W co) (te C W ck) rSetL v σ B.H E.nx := by
  refine (seqS r q).mono fun vo H2 ⟨dy, st2, B2, e2, x2, r2, p2, k2⟩ => ?_
  subst e2
  refine (seqS r2 k2).mono fun vk H3 ⟨dz, st3, B3, e3, x3, r3, p3, k3⟩ => ?_
  subst e3
  cases dy with
  | ref i =>
    cases dz with
    | int j =>
      dsimp only at k3
      cases ec : st3[i]? with
      | none => rw [ec] at k3; exact k3.elim
      | some cc =>
        rw [ec] at k3
        cases cc with
        | lst xs =>
          dsimp only at k3
          cases en : ixN xs.length j with
          | none => rw [en] at k3; exact k3.elim
          | some n =>
            rw [en] at k3
            obtain ⟨a, ha, rfl⟩ := (p2.mono x3).ref_inv
            obtain ⟨vs, hH, hz, t⟩ := r3.h.cell i _ a ec ha
            have rx' := rx.mono (x2.trans x3)
            obtain ⟨x4, r4⟩ := r3.h.write (o := .lst (vs.set n v)) (c := .lst (xs.set n x)) ha fun B' z e => ⟨_, e, by rw [List.length_set]; exact hz, ((t.mono z).set n (rx'.mono z))⟩
            refine ⟨a, vs, j, n, rfl, p3.int_inv, hH, by rw [t.length]; exact en, k3 σ _ x4 (r3.of x4 r4)⟩
        | _ => exact k3.elim
    | _ => exact k3.elim
  | _ => exact k3.elim
def msub2 (c o1 k1 o2 k2 : M D) : MS := mk c fun d => fun env st => match d with
  | .tup [x, y] => mthen (subX o1 k1 x) (subX o2 k2 y) env st
  | _ => .bad
theorem s_sub2 {X : Cx} {C : Ctx} {W : WX} {e o1 k1 o2 k2 : Expr} {c c1 d1 c2 d2 : M D} {kt : Nat} {pt sp1 sp2 pos : Pos} (hK : C.K = X.K := by rfl) (hc : X.calm = true := by rfl) (he : PE X e (te C W c))
    (ha1 : PG X (.Subscript o1 k1 sp1) (gSub (te C W c1) (te C W d1) rSetL)) (ha2 : PG X (.Subscript o2 k2 sp2) (gSub (te C W c2) (te C W d2) rSetL))
    (hn1 : (assignEach [.Subscript o2 k2 sp2] X.env).map (·.2) = assign (.Subscript o2 k2 sp2) X.env :: (assignEach [] X.env).map (·.2) := by rfl)
    (hn2 : (assignEach [.Subscript o1 k1 sp1, .Subscript o2 k2 sp2] X.env).map (·.2) = assign (.Subscript o1 k1 sp1) X.env :: (assignEach [.Subscript o2 k2 sp2] X.env).map (·.2) := by rfl)
    (hm1 : (assignEach [.Subscript o1 k1 sp1, .Subscript o2 k2 sp2] X.env).length = 2 := by rfl) (hm2 : (assignEach [.Subscript o1 k1 sp1, .Subscript o2 k2 sp2] X.env).findIdx? (·.1) = none := by rfl)
    (hs : swapsWithSole [.Tuple [.Subscript o1 k1 sp1, .Subscript o2 k2 sp2] kt pt] e pos.line X.env = pure false := by rfl) (hw : swappedStores [.Tuple [.Subscript o1 k1 sp1, .Subscript o2 k2 sp2] kt pt] e X.env = pure none := by rfl)
    (hl : (assignEach [.Tuple [.Subscript o1 k1 sp1, .Subscript o2 k2 sp2] kt pt] X.env).map (·.2) = [assign (.Tuple [.Subscript o1 k1 sp1, .Subscript o2 k2 sp2] kt pt) X.env] := by rfl) :
    PS X (.Assign [.Tuple [.Subscript o1 k1 sp1, .Subscript o2 k2 sp2] kt pt] e pos) (ts C W (msub2 c c1 d1 c2 d2)) :=
  (ps_asg he (pg_tup hc (pgs_cons ha1 (pgs_cons ha2 pgs_nil hn1) hn2) hm1 hm2) hs hw hl).imp fun E σ H ⟨env, st, B, e, r, q⟩ => by
    subst e
    refine (seqS r q).mono fun v H1 ⟨d, st1, B1, e1, x1, r1, p1, k1⟩ => ?_
    subst e1
    split at k1
    · rename_i x y
      obtain ⟨a, us, rfl, hz, hq, t⟩ := p1.tup_inv
      obtain ⟨vx, t1, rfl, qx, t2⟩ := t.cons_inv
      obtain ⟨vy, t3, rfl, qy, t4⟩ := t2.cons_inv
      cases t4.nil_inv
      refine ⟨a, _, rfl, hK ▸ hq, rfl, vx, [vy], rfl, ?_⟩
      have key : postS C W B1 { E with nx := fun σ' H' => gCons (gSub (te C W c2) (te C W d2) rSetL) gNil [vy] σ' H' E.nx } (subX c1 d1 x env st1) := by
        unfold mthen at k1
        cases q : subX c1 d1 x env st1 with
        | nx e' st' =>
          rw [q] at k1
          intro σ' B' xx r'
          exact ⟨vy, [], rfl, subX_rd (E := { E with nx := fun σ2 H2 => gNil [] σ2 H2 E.nx }) r' (qy.mono xx) (by
            have k2 : postS C W B' E (subX c2 d2 y e' st') := postS.later xx k1
            revert k2
            cases subX c2 d2 y e' st' with
            | nx e3 st3 => exact fun k2 σ3 B3 x3 r3 => ⟨rfl, k2 σ3 B3 x3 r3⟩
            | bk _ _ => exact fun k2 => k2
            | ct _ _ => exact fun k2 => k2
            | ret _ _ => exact fun k2 => k2
            | exc _ _ _ => exact fun k2 => k2
            | bad => exact fun k2 => k2)⟩
        | bk _ _ => rw [q] at k1; exact k1
        | ct _ _ => rw [q] at k1; exact k1
        | ret _ _ => rw [q] at k1; exact k1
        | exc _ _ _ => rw [q] at k1; exact k1
        | bad => rw [q] at k1; exact k1
      exact subX_rd r1 qx key
    · exact k1.elim
end Ly
/-! enumerate of a tuple. -/
namespace Ly
open PySem PySem.Spec PyProof.Rows L2
open Sem (wp)
open AutoSeq1 (wpAny_loadPart')
def itObj (t : Addr) : Obj := { cls := .type "tuple_iterator", data := .fields #[.ref t, .int 0 0] }
def enObj (i : Addr) : Obj := { cls := .type "enumerate", data := .fields #[.none, .bool false, .ref i, rawInt 0, .none, .none] }
theorem meets_enumTup (t : Addr) (xs : Array Value) :
    Meets (Builtin.«enumerate.__new__» ⟨[.type "enumerate", .ref t], []⟩) (fun _ R s => s.heap.IsTuple t xs ∧
      R (.ok (.ret (.ref (s.heap.push (itObj t)).objs.size))) { s with heap := (s.heap.push (itObj t)).push (enObj s.heap.objs.size) }) :=
  .of_wp fun prog w A R s hyp => by
    obtain ⟨h0, g0, d0, k0, o0⟩ := s
    obtain ⟨hT, hR⟩ := hyp
    have sub := sub_enumerate
    wp_walk
    refine wpAny_stack_any fun sk => wpAny_pure ?_
    split
    · rename_i c _ _ _ _ _
      cases (c == Value.type "enumerate")
      · wp_walk using wpAny_pyIter_tuple hT
        exact ⟨_, rfl, hR⟩
      · wp_walk using wpAny_pyIter_tuple hT
        exact ⟨_, rfl, hR⟩
    · wp_walk using wpAny_pyIter_tuple hT
      exact ⟨_, rfl, hR⟩
section
variable {prog : Program} {w : World} {A : Around} {E : Value → Shared → Prop} {s : Shared}
theorem call_enumTup {t : Addr} {xs : Array Value} {Q : Value → Shared → Prop} (hT : s.heap.IsTuple t xs)
    (k : ∀ g, IsEnum g (s.heap.objs.size + 1) s.heap.objs.size 0 .none → g.IsTupleIter s.heap.objs.size t 0 → (∀ b o, s.heap.get? b = some o → g.get? b = some o) →
      Q (.ref (s.heap.objs.size + 1)) { s with heap := g }) : wpAny (model prog w) A (call (.type "enumerate") [.ref t]) Q E s := by
  have sz : (s.heap.push (itObj t)).objs.size = s.heap.objs.size + 1 := Heap.size_push ..
  have at1 : ((s.heap.push (itObj t)).push (enObj s.heap.objs.size)).get? (s.heap.objs.size + 1) = some (enObj s.heap.objs.size) := by
    have := Heap.get?_push_size (s.heap.push (itObj t)) (o := enObj s.heap.objs.size) rfl
    rwa [sz] at this
  have at0 : ((s.heap.push (itObj t)).push (enObj s.heap.objs.size)).get? s.heap.objs.size = some (itObj t) := Heap.get?_push_of_some _ (Heap.get?_push_size _ rfl)
  refine callType_new F.called_enumerate (by decide) (F.typeCall_enumerate_1 _) (F.newCall_enumerate_1 _) (fun ob => F.args_object_init_2 ob _) F.entry_enumerate_new (meets_enumTup t xs) ⟨hT, ?_⟩
  rw [sz]
  exact ⟨⟨_, at1, rfl⟩, k _ at1 ⟨itObj t, at0, rfl, rfl⟩ fun b o q => Heap.get?_push_of_some _ (Heap.get?_push_of_some _ q)⟩
end
/-- the tuple at a, each item in a new pair -/
def ItE (K : PySem.W.Frag) (a : Addr) : It where
  go := fun i H => ∃ (xs : List V) (x : V), SqT K H a xs ∧ xs[i]? = some x
  yld := fun i H v H' => ∃ T x, v = .ref T ∧ H T = none ∧ H' = upd H T (.tup [.int (i : Nat), x]) ∧ ∀ xs, SqT K H a xs → xs[i]? = some x
  stop := fun i H => ∃ xs : List V, SqT K H a xs ∧ xs.length ≤ i
theorem turn_enumT {P : Program} {w : World} {K : PySem.W.Frag} {elts : List Expr} {kk : Nat} {tp : Pos} (a e it : Addr) :
    Turn P w K (.Tuple elts kk tp) (ItE K a) [e, it] e (fun i h => (∃ old, IsEnum h e it ((i : Nat) : Int) old) ∧ h.IsTupleIter it a i ∧ e ≠ it) where
  mem := List.mem_cons_self
  obj := fun i h st b hb => by
    obtain ⟨⟨old, en⟩, ⟨o, ho, _, od⟩, _⟩ := st
    rcases List.mem_cons.mp hb with z | hb
    · subst z; exact ⟨_, en, fun v q => by cases q⟩
    · have z := List.mem_singleton.mp hb
      subst z; exact ⟨o, ho, fun v q => by rw [od] at q; cases q⟩
  keep := fun i h g st k => by
    obtain ⟨⟨old, en⟩, ti, ne⟩ := st
    exact ⟨⟨old, k e List.mem_cons_self _ en⟩, ti.at fun o q => k it (List.mem_cons_of_mem _ List.mem_cons_self) o q, ne⟩
  item := by
    intro X eP ew eK cal i pins s σ H E I fpo st gi
    subst eP ew eK
    obtain ⟨⟨old, en⟩, ti, ne⟩ := st
    obtain ⟨xs, x, sq, ex⟩ := gi
    obtain ⟨its, rv, tt, _⟩ := I.tuple sq
    obtain ⟨u, eu, ru⟩ := rv.get ex
    have neA : a ≠ it := fun q => by
      obtain ⟨o1, q1, c1, _⟩ := ti
      obtain ⟨o2, q2, c2, _⟩ := tt
      rw [q, q1] at q2
      cases q2
      rw [c1] at c2
      exact absurd (Value.type.inj c2) (by decide)
    have neE : e ≠ a := fun q => by
      obtain ⟨o2, q2, c2, _⟩ := tt
      rw [← q, en] at q2
      cases q2
      exact absurd (Value.type.inj c2) (by decide)
    have inE : e ∉ [it, a] := by simp [ne, neE]
    have lt : i < its.toArray.size := by
      have := (List.getElem?_eq_some_iff.mp eu).1
      simpa using this
    have eLt : e < s.heap.objs.size := Heap.lt_size en
    have iLt : it < s.heap.objs.size := by obtain ⟨_, q, _⟩ := ti; exact Heap.lt_size q
    refine wpAny_pyNext_enum_itemC (Draws.tuple (prog := X.prog) (w := X.w) (A := X.A.in1) (show X.A.in1.handled = none from I.ok.hd cal) it a neA its.toArray) en ⟨ti, tt⟩ lt ne inE fun y g tk py out st' hT _ hk => ?_
    have ey : y = u := by
      have : its.toArray[i]? = some u := by simpa using eu
      exact Option.some.inj (py.symm.trans this)
    subst ey
    refine ⟨_, rfl, wpAny_letOwnedTupleGo_enum (s := { s with heap := g, toks := tk + 1 }) out fun g2 en2 sb => ?_⟩
    have hT2 := (sb.2 _ (Nat.ne_of_gt eLt)).trans hT
    have nw : ObjOk X.prog X.w (upd H s.heap.objs.size (.tup [.int (i : Nat), x])) g2 s.heap.objs.size (.tup [.int (i : Nat), x]) :=
      ⟨by show 2 ≤ sizeLine; decide, [.int i tk, y], .cons ⟨_, rfl⟩ (.cons ru .nil), ⟨_, hT2, rfl, 0, rfl⟩⟩
    have I2 : Inv X pins σ (upd H s.heap.objs.size (.tup [.int (i : Nat), x])) { s with heap := g2, toks := tk + 1 } := by
      refine I.turnedNew (t' := tk + 1) (ch := [e, it]) (fun b ob nb q => ?_) fpo (Nat.le_refl _) nw
      have b1 : b ≠ e := fun z => nb (z ▸ List.mem_cons_self)
      have b2 : b ≠ it := fun z => nb (z ▸ List.mem_cons_of_mem _ List.mem_cons_self)
      exact (sb.2 b b1).trans (hk b ob b1 b2 q)
    refine ⟨.ref s.heap.objs.size, _, I2, rfl, ⟨_, x, rfl, I.hok.fresh (Nat.le_refl _), rfl, fun zs hz => by rw [I.tuple_inj hz sq]; exact ex⟩, ⟨⟨y, ?_⟩, st'.1.at fun o q => (sb.2 it (Ne.symm ne)).trans q, ne⟩, fun b hb => ?_⟩
    · rw [Int.natCast_add]; exact en2
    · have bl : b < s.heap.objs.size := by
        rcases List.mem_cons.mp hb with z | hb
        · rw [z]; exact eLt
        · rw [List.mem_singleton.mp hb]; exact iLt
      rw [upd_ne (Nat.ne_of_lt bl)]
      exact (fpo b hb).1
  done := by
    intro X eP ew eK cal i pins s σ H E I fpo st gi
    subst eP ew eK
    obtain ⟨⟨old, en⟩, ti, ne⟩ := st
    obtain ⟨xs, sq, le⟩ := gi
    obtain ⟨its, rv, tt, _⟩ := I.tuple sq
    have neA : a ≠ it := fun q => by
      obtain ⟨o1, q1, c1, _⟩ := ti
      obtain ⟨o2, q2, c2, _⟩ := tt
      rw [q, q1] at q2
      cases q2
      rw [c1] at c2
      exact absurd (Value.type.inj c2) (by decide)
    obtain ⟨f0, f1, f2, f3, f4, f5⟩ := fpo it (List.mem_cons_of_mem _ List.mem_cons_self)
    have over : its.toArray[i]? = none := by
      have := rv.length
      simp; omega
    have D : Draws X.prog X.w X.A.in1 it [it, a] i (fun _ _ => False) (fun j h => (h.IsTupleIter it a j ∧ h.IsTuple a its.toArray) ∧ j = i) :=
      { live := fun _ _ q => let ⟨o, ho, _⟩ := q.1.1; ⟨o, ho⟩
        frame := fun _ _ _ q k => ⟨⟨q.1.1.at fun o z => k it (by simp) o z, q.1.2.at fun o z => k a (by simp) o z⟩, q.2⟩
        item := fun j _ _ _ lt q _ => absurd q.2 (Nat.ne_of_lt lt)
        done := fun s2 Q2 E2 q k => by
          obtain ⟨⟨q1, q2⟩, q3⟩ := q
          exact wpAny_nextOf_tuple_end (show X.A.in1.handled = none from I.ok.hd cal) q1 q2 over k }
    exact wpAny_pyNext_enum_endD D en ⟨⟨ti, tt⟩, rfl⟩ fun g eb => ⟨rfl, I.turned (t' := s.toks) (fun b o nb q => eb b o nb q) f0 f1 f3 f4 f5⟩
  self := fun A i s Q E st h => by
    obtain ⟨⟨_, en⟩, _⟩ := st
    exact wpAny_pyIter_enum en h
/-- enumerate of a list, of a tuple -/
def iEnumA (K : PySem.W.Frag) (ta : TA) : TI := fun σ H R => ta σ H fun vs H1 => ∃ a xs, vs = [.ref a] ∧ ((SqL K H1 a xs ∧ R (Ite K a) H1) ∨ (SqT K H1 a xs ∧ R (ItE K a) H1))
theorem pi_enumA {X : Cx} {e : Expr} {ta : TA} {p pos tp : Pos} {elts : List Expr} {kk : Nat} (hg : Gl X "enumerate") (hm : X.mg "enumerate" = none) (ha : PA X [e] ta) (hs : starEach [e] X.env = [(false, eval e X.env)] := by rfl) :
    PI X (.Tuple elts kk tp) (.Call (.Name "enumerate" p) [e] [] pos) (iEnumA X.K ta) where
  run := fun pins s σ H R I hyp => by
    have arg := ha.run pos pins s σ H _ I hyp
    refine Call_ (ld_blt I hg hm boot_enumerate (PyProof.Rows.callWith_type1 (thn arg ?_) hs rfl))
    intro us s1 got
    obtain ⟨vs, H1, I1, rl, a, xs, ev, alt⟩ := got
    subst ev
    obtain ⟨u, rest, eu, ru, rr⟩ : ∃ u rest, us = u :: rest ∧ RelV (.ref a) u ∧ Vals [] rest := by
      cases rl with
      | cons q qs => exact ⟨_, _, rfl, q, qs⟩
    cases rr
    subst eu
    obtain rfl : u = Value.ref a := ru
    have fresh : ∀ b ∈ [s1.heap.objs.size + 1, s1.heap.objs.size], FpOk X pins H1 b := fun b hb => by
      have le : s1.heap.objs.size ≤ b := by
        rcases List.mem_cons.mp hb with z | hb
        · omega
        · have := List.mem_singleton.mp hb; omega
      exact I1.fpOk le (I1.hok.fresh le)
    rcases alt with ⟨sq, q⟩ | ⟨sq, q⟩
    · obtain ⟨its, rv, tt, _⟩ := I1.list sq
      refine call_enumerate_list tt.isList fun g en ti _ kp => wpAny_pyIter_enum en ?_
      exact ⟨s1.heap.objs.size + 1, [s1.heap.objs.size + 1, s1.heap.objs.size], _, _, H1, rfl, I1.kept (t' := s1.toks) kp, turn_enum a (s1.heap.objs.size + 1) s1.heap.objs.size, ⟨⟨.none, en⟩, ti, Nat.succ_ne_self _⟩, fresh, q⟩
    · obtain ⟨its, rv, tt, _⟩ := I1.tuple sq
      refine call_enumTup (xs := its.toArray) tt fun g en ti kp => wpAny_pyIter_enum en ?_
      exact ⟨s1.heap.objs.size + 1, [s1.heap.objs.size + 1, s1.heap.objs.size], _, _, H1, rfl, I1.kept (t' := s1.toks) kp, turn_enumT a (s1.heap.objs.size + 1) s1.heap.objs.size, ⟨⟨.none, en⟩, ti, Nat.succ_ne_self _⟩, fresh, q⟩
def enumM (as : M (List D)) : M Src := bnd as fun ds => lift fun st => match ds with
  | [x] => (srcOf st x).map fun s => (⟨pairs (rng 0 s.xs.length) s.xs, s.ok⟩, st)
  | _ => none
theorem rng_get {n i : Nat} {d : D} (h : (rng 0 n)[i]? = some d) : d = .int (i : Nat) := by
  unfold rng at h
  rw [List.getElem?_map] at h
  cases e : (List.range n)[i]? with
  | none => rw [e] at h; cases h
  | some k =>
    rw [e] at h; cases h
    obtain ⟨_, q⟩ := List.getElem?_eq_some_iff.mp e
    rw [List.getElem_range] at q
    subst q
    show D.int (0 + (i : Int)) = _
    rw [Int.zero_add]
theorem i_enum {X : Cx} {C : Ctx} {W : WX} {e : Expr} {as : M (List D)} {p pos tpos : Pos} {elts : List Expr} {kk : Nat} (hK : C.K = X.K := by rfl) (hg : Gl X "enumerate") (hm : X.mg "enumerate" = none) (ha : PA X [e] (ta C W as))
    (hs : starEach [e] X.env = [(false, eval e X.env)] := by rfl) : PI X (.Tuple elts kk tpos) (.Call (.Name "enumerate" p) [e] [] pos) (ti C W (enumM as)) :=
  (pi_enumA hg hm ha hs).imp fun σ H R ⟨env, st, B, e, r, q⟩ => by
    subst e
    refine (seq r q).mono fun vs H1 ⟨ds, st1, B1, e1, x1, r1, p1, k1⟩ => ?_
    subst e1
    obtain ⟨s0, st', e, k⟩ := post_lift k1
    split at e
    · rename_i x
      cases es : srcOf st1 x with
      | none => rw [es] at e; cases e
      | some s =>
        rw [es] at e
        cases e
        obtain ⟨v, tt, rfl, qx, h2⟩ := p1.cons_inv
        rw [h2.nil_inv]
        have plen : (pairs (rng 0 s.xs.length) s.xs).length = s.xs.length := by rw [pairs_length, rng_length, Nat.min_self]
        have hlen : (pairs (rng 0 s.xs.length) s.xs).length ≤ sizeLine := by rw [plen]; exact src_len r1.h es qx
        rcases src_list r1.h es qx with ⟨a, us, rfl, hqa, rfl⟩ | ⟨hta, a, us, rfl, hqa, ka⟩
        · refine ⟨a, us, rfl, .inr ⟨hK ▸ hqa, k _ B1 (Ext.refl _ _) r1 ⟨hlen, fun B2 st2 i kk R2 ok => ?_⟩⟩⟩
          obtain ⟨a', u1, e1, z1, q1, t1⟩ := (kk _ _ qx).tup_inv
          cases e1
          rw [← hK]
          refine ⟨fun hi => ⟨u1, q1, by rw [t1.length]; rw [← plen]; exact hi⟩, fun d hd => ?_⟩
          obtain ⟨dx, dy, hx, hy, rfl⟩ := pairs_get hd
          have ex := rng_get hx
          subst ex
          obtain ⟨w2, hw2, r2'⟩ := t1.get hy
          refine ⟨⟨u1, w2, q1, hw2⟩, fun z H3 hyl => ?_⟩
          obtain ⟨T, zy, rfl, nT, rfl, f2⟩ := hyl
          have g2 := f2 u1 q1; rw [hw2] at g2; cases g2
          obtain ⟨x3, r3, q3⟩ := new_tuple R2 nT (by show 2 ≤ sizeLine; decide) (.cons rep_int (.cons r2' .nil))
          exact ⟨_, rfl, x3, r3, q3⟩
        · refine ⟨a, us, rfl, .inl ⟨hK ▸ hqa, k _ B1 (Ext.refl _ _) r1 ⟨hlen, fun B2 st2 i kk R2 ok => ?_⟩⟩⟩
          obtain ⟨u1, q1, z1, t1⟩ := ka B2 st2 (kk _ _ qx) R2 ok
          rw [← hK]
          refine ⟨fun hi => ⟨u1, q1, by rw [t1.length]; rw [← plen]; exact hi⟩, fun d hd => ?_⟩
          obtain ⟨dx, dy, hx, hy, rfl⟩ := pairs_get hd
          have ex := rng_get hx
          subst ex
          obtain ⟨w2, hw2, r2'⟩ := t1.get hy
          refine ⟨⟨u1, w2, q1, hw2⟩, fun z H3 hyl => ?_⟩
          obtain ⟨T, zy, rfl, nT, rfl, f2⟩ := hyl
          have g2 := f2 u1 q1; rw [hw2] at g2; cases g2
          obtain ⟨x3, r3, q3⟩ := new_tuple R2 nT (by show 2 ≤ sizeLine; decide) (.cons rep_int (.cons r2' .nil))
          exact ⟨_, rfl, x3, r3, q3⟩
    · cases e
end Ly
/-! A tuple backwards: t[::-1]. -/
namespace Ly
open PySem PySem.Spec PyProof.Rows L2
theorem adj_back (n : Nat) : Builtin.Slice.sliceAdjust none none (-1) (n : Int) = ((n : Int) - 1, -1) := rfl
theorem plc_back (n : Nat) : Builtin.Slice.slicePlaces ((n : Int) - 1) (-1) (-1) = n := by
  unfold Builtin.Slice.slicePlaces
  have h : ¬ ((-1 : Int) > 0) := by decide
  rw [if_neg h]
  have e : -(-1 : Int) = 1 := rfl
  rw [e, Int.ediv_one]
  split <;> omega
section
variable {prog : Program} {w : World} {A : Around} {E : Value → Shared → Prop} {s : Shared}
theorem applied_back {z : Addr} {k : Tok} {n : Nat} {Q : Int × Int × Nat → Shared → Prop} (hz : s.heap.IsSliceOf z .none .none (.int (-1) k)) (q : Q ((n : Int) - 1, -1, n) s) :
    wpAny (model prog w) A (Builtin.Slice.sliceApplied (.ref z) (pure (n : Int))) Q E s := by
  obtain ⟨oz, h1, _, h2⟩ := id hz
  unfold Builtin.Slice.sliceApplied Builtin.Slice.sliceFields
  refine wpAny_bind (wpAny_bind (wpAny_field h1 h2 (x := .none) rfl (wpAny_bind (wpAny_field h1 h2 (x := .none) rfl (wpAny_bind (wpAny_field h1 h2 (x := .int (-1) k) rfl (wpAny_pure ?_)))))))
  refine wpAny_bind (HT.slicePart_ (.int (-1) k) ?_)
  show wpAny _ _ (if ((-1 : Int) == 0) = true then _ else _) _ _ s
  rw [if_neg (by decide)]
  refine wpAny_bind (HT.slicePart_ .none (wpAny_bind (HT.slicePart_ .none (wpAny_bind (wpAny_pure ?_)))))
  show wpAny _ _ (match Builtin.Slice.sliceAdjust none none (-1) (n : Int) with | (u, v) => pure (u, (-1 : Int), Builtin.Slice.slicePlaces u v (-1))) _ _ s
  rw [adj_back]
  show wpAny _ _ (pure ((n : Int) - 1, (-1 : Int), Builtin.Slice.slicePlaces ((n : Int) - 1) (-1) (-1))) _ _ s
  rw [plc_back]
  exact wpAny_pure q
theorem picked_back (xs : Array Value) : ((List.range xs.size).filterMap fun (m : Nat) => xs[((xs.size : Int) - 1 + (m : Int) * -1).toNat]?).toArray = xs.toList.reverse.toArray := by
  congr 1
  refine List.ext_getElem? fun i => ?_
  have gen : ∀ (L : List Nat), (∀ m ∈ L, m < xs.size) → L.filterMap (fun (m : Nat) => xs[((xs.size : Int) - 1 + (m : Int) * -1).toNat]?) = L.map fun (m : Nat) => xs.getD (xs.size - 1 - m) .none := by
    intro L
    induction L with
    | nil => intro _; rfl
    | cons m L ih =>
      intro hL
      have hm := hL m List.mem_cons_self
      have e2 : ((xs.size : Int) - 1 + (m : Int) * -1).toNat = xs.size - 1 - m := by omega
      have lt : xs.size - 1 - m < xs.size := by omega
      have e3 : xs[xs.size - 1 - m]? = some (xs.getD (xs.size - 1 - m) .none) := by simp [Array.getD, lt]
      rw [List.filterMap_cons, List.map_cons, e2, e3, ih fun k hk => hL k (List.mem_cons_of_mem _ hk)]
  have e := gen (List.range xs.size) fun m hm => List.mem_range.mp hm
  rw [e, List.getElem?_map]
  by_cases h : i < xs.size
  · rw [List.getElem?_range h, List.getElem?_reverse (by simpa using h)]
    have lt : xs.size - 1 - i < xs.size := by omega
    simp [Array.getD, lt]
  · rw [List.getElem?_eq_none (by simp; omega), List.getElem?_eq_none (by simp; omega)]
    rfl
theorem tuple_back {t z : Addr} {xs : Array Value} {k : Tok} {Q : Value → Shared → Prop} (ht : IsTup s.heap t xs) (hz : s.heap.IsSliceOf z .none .none (.int (-1) k)) (small : xs.size ≤ sizeLine)
    (q : Q (.ref s.heap.objs.size) { s with heap := s.heap.push { cls := .type "tuple", data := .seq xs.toList.reverse.toArray } }) : wpAny (model prog w) A (getItem (.ref t) (.ref z)) Q E s := by
  have fits : sizeOk (.seq xs.toList.reverse.toArray) := by
    show xs.toList.reverse.toArray.size ≤ sizeLine
    rw [List.size_toArray, List.length_reverse, Array.length_toList]
    exact small
  obtain ⟨oz, h1, h2, h3⟩ := id hz
  have isSl : s.TypeIs (.ref z) "slice" := ⟨oz, h1, h2⟩
  unfold getItem
  try with_reducible refine wpAny_holding ?_
  first | refine wpAny_bind (wpAny_pure ?_) | skip
  refine wpAny_bind (wpAny_sequenceKey ht.typeIs (by decide) ?_)
  refine wpAny_bind (wpAny_callSpecial?_slot (name := Str.ofString "__getitem__") ht.typeIs slot_tuple_getitem (wpAny_call_entry slot_tuple_getitem ht.typeIs entry_tuple_getitem ?_ (args_tuple_getitem _ _)))
  show wpAny _ _ (Builtin.Tuple.tupleItemsOf (.ref t) >>= _) _ _ s
  refine wpAny_bind (tupleItemsOf_ ht (wpAny_bind (wpAny_typeOf isSl ?_)))
  rw [if_pos (by decide)]
  refine wpAny_bind (applied_back hz ?_)
  show wpAny _ _ (if (((xs.size : Int) - 1 == 0 && (-1 : Int) == 1 && xs.size == xs.size)) = true then _ else _) _ _ s
  have no : ¬ (((xs.size : Int) - 1 == 0 && (-1 : Int) == 1 && xs.size == xs.size) = true) := by simp
  rw [if_neg no, picked_back]
  first
    | exact wpAny_bind (m := Builtin.Tuple.tupleExact _) (wpAny_newObj_type (wpAny_pure ⟨_, rfl, wpAny_pure q⟩) fits)
    | exact wpAny_bind (m := Builtin.Tuple.tupleExact _) (wpAny_newObj_type (wpAny_bind (wpAny_pure (wpAny_pure ⟨_, rfl, wpAny_pure q⟩))) fits)
    | exact wpAny_bind (wpAny_bind (m := Builtin.Tuple.tupleExact _) (wpAny_newObj_type (wpAny_pure (wpAny_pure ⟨_, rfl, wpAny_pure q⟩)) fits))
    | exact wpAny_bind (wpAny_bind (m := Builtin.Tuple.tupleExact _) (wpAny_newObj_type (wpAny_pure ⟨_, rfl, wpAny_pure q⟩) fits))
end
/-- x[::-1], x a list or a tuple -/
def tBack (K : PySem.W.Frag) (te : TE) : TE := fun σ H Q => te σ H fun x H1 => ∃ a xs, x = .ref a ∧
  ((SqL K H1 a xs ∧ ∀ p, H1 p = none → Q (.ref p) (upd H1 p (.lst xs.reverse))) ∨ (SqT K H1 a xs ∧ ∀ p, H1 p = none → Q (.ref p) (upd H1 p (.tup xs.reverse))))
theorem pe_back {X : Cx} {e : Expr} {te : TE} {k : Nat} {p1 p2 p3 pos : Pos} (he : PE X e te) : PE X (.Subscript e (.Slice none none (some (.UnaryOp .USub (.Constant (.int 1) k p1) p2)) p3) pos) (tBack X.K te) where
  run := fun pins s σ H Q I hyp => by
    have step : PO X (some (.UnaryOp .USub (.Constant (.int 1) k p1) p2)) (tPart (tUn (rU fun i => .int (-i)) (tC (.int 1)))) := po_some (pe_un un_neg pe_int)
    refine Subscript_ (thn (he.run pins s σ H _ I hyp) ?_)
    intro v s1 got
    obtain ⟨x, H1, I1, rx, a, xs, ex, alt⟩ := got
    subst ex
    obtain rfl : v = Value.ref a := rx
    refine wpAny_Slice (thn (po_none.run pins s1 σ H1 (fun o G => o = none ∧ G = H1) I1 ⟨rfl, rfl⟩) ?_)
    intro v1 s2 g1
    obtain ⟨o1, G1, I2, q1, eo1, eg1⟩ := g1
    subst eo1 eg1
    cases q1
    refine thn (po_none.run pins s2 σ G1 (fun o G => o = none ∧ G = G1) I2 ⟨rfl, rfl⟩) ?_
    intro v2 s3 g2
    obtain ⟨o2, G2, I3, q2, eo2, eg2⟩ := g2
    subst eo2 eg2
    cases q2
    refine thn (step.run pins s3 σ G2 (fun o G => o = some (-1) ∧ G = G2) I3 ⟨1, rfl, -1, rfl, rfl, rfl⟩) ?_
    intro v3 s4 g3
    obtain ⟨o3, G3, I4, q3, eo3, eg3⟩ := g3
    subst eo3 eg3
    have I5 : Inv X pins σ G3 { s4 with heap := s4.heap.push { cls := .type "slice", data := .fields #[.none, .none, v3] } } := I4.kept (t' := s4.toks) fun b ob q => Heap.get?_push_of_some _ q
    show wpAny (model X.prog X.w) X.A (subscriptTail e (.Slice none none (some (.UnaryOp .USub (.Constant (.int 1) k p1) p2)) p3) (.ref a) (.ref s4.heap.objs.size)) (EP X pins σ Q) X.xe { s4 with heap := s4.heap.push { cls := .type "slice", data := .fields #[.none, .none, v3] } }
    rcases alt with ⟨sq, q⟩ | ⟨sq, q⟩
    · obtain ⟨its, rv, tt, hz⟩ := I5.list sq
      have ln := rv.length
      refine tail_any (ops := [.ref a, .ref s4.heap.objs.size]) tt.isList.typeIs slot_list_getitem.lookup ?_ (by with_unfolding_all rfl)
      refine wpAny_getItem_list_slice tt.isList (Heap.IsSliceOf.new _ .none .none v3) .none .none q3 (by decide) ?_ (by rw [List.size_toArray]; omega)
      rw [PySem.W.krv_pick]
      have nw := I5.laid (t' := s4.toks) (a := (s4.heap.push { cls := .type "slice", data := .fields #[.none, .none, v3] }).objs.size) (o := .lst xs.reverse) (fun b ob z => Heap.get?_push_of_some _ z) (Nat.le_refl _) ⟨by rw [List.length_reverse]; exact hz, _, 0, rv.reverse, Heap.get?_push_size _ rfl⟩
      exact ⟨.ref _, _, nw, rfl, q _ (I5.hok.fresh (Nat.le_refl _))⟩
    · obtain ⟨its, rv, tt, hz⟩ := I5.tuple sq
      have ln := rv.length
      cases q3 with
      | int i tok =>
        refine tail_any (ops := [.ref a, .ref s4.heap.objs.size]) tt.typeIs slot_tuple_getitem.lookup ?_ (by with_unfolding_all rfl)
        refine tuple_back tt (Heap.IsSliceOf.new _ .none .none _) (by rw [List.size_toArray]; omega) ?_
        have nw := I5.laid (t' := s4.toks) (a := (s4.heap.push { cls := .type "slice", data := .fields #[.none, .none, .int (-1) tok] }).objs.size) (o := .tup xs.reverse) (fun b ob z => Heap.get?_push_of_some _ z) (Nat.le_refl _) ⟨by rw [List.length_reverse]; exact hz, _, rv.reverse, ⟨{ cls := .type "tuple", data := .seq its.reverse.toArray }, Heap.get?_push_size _ rfl, rfl, 0, rfl⟩⟩
        exact ⟨.ref _, _, nw, rfl, q _ (I5.hok.fresh (Nat.le_refl _))⟩
def opRev (x : D) (st : Sto) : Option (D × Sto) := match x with
  | .tup xs => some (.tup xs.reverse, st)
  | x => (rdOf st x).map fun xs => (.lst xs.reverse, st)
theorem e_rev {X : Cx} {C : Ctx} {W : WX} {a : Expr} {ca : M D} {k : Nat} {p1 p2 p3 pos : Pos} (hK : C.K = X.K := by rfl) (ha : PE X a (te C W ca)) : PE X (.Subscript a (.Slice none none (some (.UnaryOp .USub (.Constant (.int 1) k p1) p2)) p3) pos) (te C W (un opRev ca)) :=
  (pe_back ha).imp fun σ H Q ⟨env, st, B, e, r, p⟩ => by
    subst e
    refine (seq r p).mono fun v H1 ⟨x, st1, B1, e1, x1, r1, p1, k1⟩ => ?_
    subst e1
    obtain ⟨d, st', e, k⟩ := post_lift k1
    unfold opRev at e
    split at e
    · rename_i xs
      cases e
      obtain ⟨a, us, rfl, hz, hq, t⟩ := p1.tup_inv
      refine ⟨a, us, rfl, .inr ⟨hK ▸ hq, fun p hp => ?_⟩⟩
      obtain ⟨x3, r3, q3⟩ := new_tuple r1.h hp (by rw [List.length_reverse]; exact hz) t.reverse
      exact k (.ref p) _ x3 (r1.of x3 r3) q3
    · cases ex : rdOf st1 x with
      | none => rw [ex] at e; cases e
      | some xs =>
        rw [ex] at e; cases e
        obtain ⟨a, vs, rfl, hq, hz, t⟩ := rdOf_rep r1.h ex p1
        refine ⟨a, vs, rfl, .inl ⟨hK ▸ hq, fun p hp => ?_⟩⟩
        obtain ⟨x2, r2, q⟩ := new_list r1.h hp (by rw [List.length_reverse]; exact hz) t.reverse
        obtain ⟨B2, e2, x3, r3, q3⟩ := q.tree r2
        have e2' : B2.H = upd B1.H p (.lst vs.reverse) := e2
        rw [← e2']
        exact k (.ref p) B2 (x2.trans x3) (r1.of (x2.trans x3) r3) q3
/-! in: flat things first, else data of any depth -/
theorem u65 {A : Around} {k : Nat} (hr : Room k A) : A.units + 65 < cLine := by have := hr.un; omega
def opInA (x y : D) (st : Sto) : Option (D × Sto) := match opIn x y st with
  | some r => some r
  | none => inD false x y st
def opNotInA (x y : D) (st : Sto) : Option (D × Sto) := match opNotIn x y st with
  | some r => some r
  | none => inD true x y st
theorem inA_alt (x y : D) (st : Sto) : opInA x y st = opIn x y st ∨ opInA x y st = inD false x y st := by unfold opInA; cases opIn x y st <;> simp
theorem notInA_alt (x y : D) (st : Sto) : opNotInA x y st = opNotIn x y st ∨ opNotInA x y st = inD true x y st := by unfold opNotInA; cases opNotIn x y st <;> simp
section
variable {X : Cx} {C : Ctx} {W : WX} {a b : Expr} {ca cb : M D} {pos : Pos}
theorem e_inA (hK : C.K = X.K := by rfl) (hu : X.A.units + 65 < cLine) (ha : PE X a (te C W ca)) (hb : PE X b (te C W cb)) (hm : behindInMarks .In b = false := by rfl) : PE X (.Compare a [.In] [b] pos) (te C W (bin opInA ca cb)) :=
  e_cmp ((op_in_sign.or (hK ▸ op_in_seq)).or (hK ▸ op_inD hu)) ((inS_ok.or inF_ok opIn_alt).or inD_ok inA_alt) ha hb hm
theorem e_notInA (hK : C.K = X.K := by rfl) (hu : X.A.units + 65 < cLine) (ha : PE X a (te C W ca)) (hb : PE X b (te C W cb)) (hm : behindInMarks .NotIn b = false := by rfl) : PE X (.Compare a [.NotIn] [b] pos) (te C W (bin opNotInA ca cb)) :=
  e_cmp ((op_notIn_sign.or (hK ▸ op_notIn_seq)).or (hK ▸ op_notInD hu)) ((inS_ok.or inF_ok opNotIn_alt).or notInD_ok notInA_alt) ha hb hm
theorem t_inA (hK : C.K = X.K := by rfl) (hu : X.A.units + 65 < cLine) (ha : PE X a (te C W ca)) (hb : PE X b (te C W cb)) (hm : behindInMarks .In b = false := by rfl) : PT X (.Compare a [.In] [b] pos) (tb C W (tst (bin opInA ca cb))) :=
  t_cmpG ((op_in_sign.or (hK ▸ op_in_seq)).or (hK ▸ op_inD hu)) ((inS_ok.or inF_ok opIn_alt).or inD_ok inA_alt) ha hb hm
theorem t_notInA (hK : C.K = X.K := by rfl) (hu : X.A.units + 65 < cLine) (ha : PE X a (te C W ca)) (hb : PE X b (te C W cb)) (hm : behindInMarks .NotIn b = false := by rfl) : PT X (.Compare a [.NotIn] [b] pos) (tb C W (tst (bin opNotInA ca cb))) :=
  t_cmpG ((op_notIn_sign.or (hK ▸ op_notIn_seq)).or (hK ▸ op_notInD hu)) ((inS_ok.or inF_ok opNotIn_alt).or notInD_ok notInA_alt) ha hb hm
end
@[simp] theorem enumM_run (as : M (List D)) (e : Ev) (st : Sto) : enumM as e st = (as e st).nxt fun ds st1 => match ds with
  | [x] => (match srcOf st1 x with
    | some s => .ok ⟨pairs (rng 0 s.xs.length) s.xs, s.ok⟩ st1
    | none => .bad)
  | _ => .bad := by
  unfold enumM
  rw [bnd_run]
  congr
  funext ds st1
  rw [lift_run]
  match ds with
  | [] => rfl
  | [x] =>
    dsimp only
    cases srcOf st1 x <;> rfl
  | _ :: _ :: _ => rfl
@[simp] theorem opRev_tup (xs : List D) (st : Sto) : opRev (.tup xs) st = some (.tup xs.reverse, st) := rfl
end Ly
namespace K73
open PySem PySem.Spec PyProof.Rows L2 Ly
def topS (i : Nat) : Stmt := PySem.Challenge.pw_lineasks_k73_whole_frames_held.main.body.getD i (.Pass ⟨0, 0, 0, 0⟩)
abbrev s_is_whole : Stmt := topS 5
abbrev s_are_bytes : Stmt := topS 6
abbrev s_is_frame : Stmt := topS 7
abbrev s_framed : Stmt := topS 8
abbrev s_look_parts : Stmt := topS 10
abbrev s_unlike : Stmt := topS 11
abbrev s_near_of : Stmt := topS 12
abbrev s_near_frames : Stmt := topS 13
abbrev s_law_cell : Stmt := topS 15
abbrev s_law_pick : Stmt := topS 16
abbrev s_law_frame : Stmt := topS 17
abbrev s_law : Stmt := topS 18
theorem sc_is_whole : FnScope ["thing", "low", "high"] ["thing", "low", "high"] (defScope s_is_whole) := ⟨rfl, rfl, rfl, by decide +kernel, rfl, by decide +kernel, by decide +kernel⟩
theorem sc_are_bytes : FnScope ["thing", "low", "high", "one"] ["thing", "low", "high"] (defScope s_are_bytes) := ⟨rfl, rfl, rfl, by decide +kernel, rfl, by decide +kernel, by decide +kernel⟩
theorem sc_is_frame : FnScope ["thing"] ["thing"] (defScope s_is_frame) := ⟨rfl, rfl, rfl, by decide +kernel, rfl, by decide +kernel, by decide +kernel⟩
theorem sc_framed : FnScope ["parts"] ["parts"] (defScope s_framed) := ⟨rfl, rfl, rfl, by decide +kernel, rfl, by decide +kernel, by decide +kernel⟩
theorem sc_look_parts : FnScope ["parts"] ["parts"] (defScope s_look_parts) := ⟨rfl, rfl, rfl, by decide +kernel, rfl, by decide +kernel, by decide +kernel⟩
theorem sc_unlike : FnScope ["one", "other", "size", "mine", "yours", "a", "b"] ["one", "other"] (defScope s_unlike) := ⟨rfl, rfl, rfl, by decide +kernel, rfl, by decide +kernel, by decide +kernel⟩
theorem sc_near_of : FnScope ["parts", "over", "made", "place", "byte"] ["parts"] (defScope s_near_of) := ⟨rfl, rfl, rfl, by decide +kernel, rfl, by decide +kernel, by decide +kernel⟩
theorem sc_near_frames : FnScope ["parts"] ["parts"] (defScope s_near_frames) := ⟨rfl, rfl, rfl, by decide +kernel, rfl, by decide +kernel, by decide +kernel⟩
theorem sc_law_cell : FnScope ["_law_script", "_law_k"] ["_law_script", "_law_k"] (defScope s_law_cell) := ⟨rfl, rfl, rfl, by decide +kernel, rfl, by decide +kernel, by decide +kernel⟩
theorem sc_law_pick : FnScope ["_law_script", "_law_k", "_law_many", "_law_drawn"] ["_law_script", "_law_k", "_law_many"] (defScope s_law_pick) := ⟨rfl, rfl, rfl, by decide +kernel, rfl, by decide +kernel, by decide +kernel⟩
theorem sc_law_frame : FnScope ["_law_script", "_law_at", "_law_own", "_law_way", "_law_parts", "_law_top", "_law_k"] ["_law_script", "_law_at"] (defScope s_law_frame) := ⟨rfl, rfl, rfl, by decide +kernel, rfl, by decide +kernel, by decide +kernel⟩
theorem sc_law : FnScope ["_law_script", "_law_frame_here", "_law_spoilt", "_law_other", "_law_some", "_law_spot", "_law_by", "_law_one", "_law_two"] ["_law_script"] (defScope s_law) := ⟨rfl, rfl, rfl, by decide +kernel, rfl, by decide +kernel, by decide +kernel⟩
/-! the defs -/
def b_is_whole : MS := (mblock [(mret (vand (un (opIsi ["int"]) (mvar 0)) (vand (vnot (un (opIsi ["bool"]) (mvar 0))) (chain opLe opLe (mvar 1) (mvar 0) (mvar 2)))))])
def f_is_whole : List D → Sto → R D := fn 3 3 b_is_whole
def b_are_bytes : MS := (mblock [(mcond (mor (mnot (tst (un (opIsi ["list", "tuple"]) (mvar 0)))) (mnot (tst (chain opLe opLe (mvar 1) (calls fLen (args [(mvar 0)])) (mvar 2))))) (mblock [(mret (ret (.bl false)))]) (mblock [])),
  (mret (calls fAll (args [(tree (comp (walk (mvar 0)) (.nm 3) [3] (ret true) (callF f_is_whole (args [(mvar 3), (ret (.int 0)), (ret (.int 255))]))))])))])
def f_are_bytes : List D → Sto → R D := fn 3 4 b_are_bytes
def b_is_frame : MS := (mblock [(mret (vand (un (opIsi ["tuple"]) (mvar 0)) (vand (callF f_are_bytes (args [(mvar 0), (ret (.int 2)), (ret (.int 20))])) (bin opEq (bin opMod (calls fSumA (args [(mvar 0)])) (ret (.int 256))) (ret (.int 0))))))])
def f_is_frame : List D → Sto → R D := fn 1 1 b_is_frame
def b_framed : MS := (mblock [(mcond (mnot (tst (callF f_are_bytes (args [(mvar 0), (ret (.int 1)), (bin opSub (ret (.int 20)) (ret (.int 1)))])))) (mblock [(mraise ("NoFrame" : Str))]) (mblock [])),
  (mret (bin opAdd (calls fTuple (args [(mvar 0)])) (dtup [(bin opMod (bin opSub (ret (.int 0)) (calls fSumA (args [(mvar 0)]))) (ret (.int 256)))])))])
def f_framed : List D → Sto → R D := fn 1 1 b_framed
def b_look_parts : MS := (mblock [(mcond (mor (mnot (tst (un (opIsi ["list", "tuple"]) (mvar 0)))) (mnot (tst (callF f_are_bytes (args [(mvar 0), (ret (.int 2)), (ret (.int 20))]))))) (mblock [(mraise ("NoFrame" : Str))]) (mblock []))])
def f_look_parts : List D → Sto → R D := fn 1 1 b_look_parts
def b_unlike : MS := (mblock [(mdo (callF f_look_parts (args [(mvar 0)]))),
  (mdo (callF f_look_parts (args [(mvar 1)]))),
  (mset 2 (calls fMax (args [(calls fLen (args [(mvar 0)])), (calls fLen (args [(mvar 1)]))]))),
  (mset 3 (tree (bin catN (tree (calls fList (args [(mvar 0)]))) (tree (bin repN2 (tree (dlst [(ret .non)])) (bin opSub (mvar 2) (calls fLen (args [(mvar 0)])))))))),
  (mset 4 (tree (bin catN (tree (calls fList (args [(mvar 1)]))) (tree (bin repN2 (tree (dlst [(ret .non)])) (bin opSub (mvar 2) (calls fLen (args [(mvar 1)])))))))),
  (mret (calls fLen (args [(tree (comp (zipM (args [(mvar 3), (mvar 4)])) (.tp [5, 6]) [5, 6] (tst (bin opNe (mvar 5) (mvar 6))) (ret (.int 1))))])))])
def f_unlike : List D → Sto → R D := fn 2 7 b_unlike
def b_near_of : MS := (mblock [(mcond (tst (callF f_is_frame (args [(calls fTuple (args [(mvar 0)]))]))) (mblock [(mret (tree (dlst [(calls fTuple (args [(mvar 0)]))])))]) (mblock [])),
  (mset 1 (bin opMod (calls fSumA (args [(mvar 0)])) (ret (.int 256)))),
  (mset 2 (box (dlst []))),
  (mfor (enumM (args [(mvar 0)])) (.tp [3, 4]) (mblock [(mdo (meth "list" fAppend (mvar 2) (args [(bin opAdd (bin opAdd (calls fTuple (args [(slice opSl (mvar 0) (ret none) (part (mvar 3)))])) (dtup [(bin opMod (bin opSub (mvar 4) (mvar 1)) (ret (.int 256)))])) (calls fTuple (args [(slice opSl (mvar 0) (part (bin opAdd (mvar 3) (ret (.int 1)))) (ret none))])))])))])),
  (mret (tree (calls fSortT (args [(mvar 2)]))))])
def f_near_of : List D → Sto → R D := fn 1 5 b_near_of
def b_near_frames : MS := (mblock [(mdo (callF f_look_parts (args [(mvar 0)]))),
  (mret (callF f_near_of (args [(mvar 0)])))])
def f_near_frames : List D → Sto → R D := fn 1 1 b_near_frames
def b_law_cell : MS := (mblock [(mcond (tst (bin opLt (mvar 1) (calls fLen (args [(mvar 0)])))) (mblock [(mret (bin opIx (mvar 0) (mvar 1)))]) (mblock [])),
  (mcond (tst (bin opEq (mvar 0) (tree (dlst [])))) (mblock [(mret (ret (.int 0)))]) (mblock [])),
  (mret (bin opAdd (bin opMul (bin opIx (mvar 0) (bin opMod (mvar 1) (calls fLen (args [(mvar 0)])))) (ret (.int 31))) (mvar 1)))])
def f_law_cell : List D → Sto → R D := fn 2 2 b_law_cell
def b_law_pick : MS := (mblock [(mset 3 (bin opMod (bin opMul (bin opAdd (callF f_law_cell (args [(mvar 0), (mvar 1)])) (bin opMul (ret (.int 6151)) (bin opAdd (mvar 1) (ret (.int 1))))) (ret (.int 40692))) (ret (.int 2147483399)))),
  (mret (bin opMod (bin opMod (bin opAdd (bin opMul (mvar 3) (mvar 3)) (bin opDiv (mvar 3) (ret (.int 31)))) (ret (.int 2147483629))) (mvar 2)))])
def f_law_pick : List D → Sto → R D := fn 3 4 b_law_pick
def b_law_frame : MS := (mblock [(mset 2 (bin opAdd (ret (.int 1)) (callF f_law_pick (args [(mvar 0), (mvar 1), (ret (.int 99))])))),
  (mset 3 (callF f_law_pick (args [(mvar 0), (bin opAdd (mvar 1) (ret (.int 1))), (ret (.int 5))]))),
  (mcond (tst (bin opEq (mvar 3) (ret (.int 0)))) (mblock [(mset 4 (box (dlst [(mvar 2), (ret (.int 1)), (callF f_law_pick (args [(mvar 0), (bin opAdd (mvar 1) (ret (.int 2))), (ret (.int 16))])), (callF f_law_pick (args [(mvar 0), (bin opAdd (mvar 1) (ret (.int 3))), (ret (.int 16))]))]))),
  (mdo (meth "list" fExtend (mvar 4) (args [(tree (dlst [(bin opAdd (ret (.int 1)) (callF f_law_pick (args [(mvar 0), (bin opAdd (mvar 1) (ret (.int 4))), (ret (.int 8))])))]))])))]) (mblock [(mcond (tst (bin opEq (mvar 3) (ret (.int 1)))) (mblock [(mset 4 (box (dlst [(mvar 2), (ret (.int 2)), (callF f_law_pick (args [(mvar 0), (bin opAdd (mvar 1) (ret (.int 2))), (ret (.int 16))])), (callF f_law_pick (args [(mvar 0), (bin opAdd (mvar 1) (ret (.int 3))), (ret (.int 16))]))]))),
  (mset 4 (box (bin catN (mvar 4) (tree (comp (range1 (args [(bin opAdd (ret (.int 1)) (callF f_law_pick (args [(mvar 0), (bin opAdd (mvar 1) (ret (.int 4))), (ret (.int 8))])))])) (.nm 6) [6] (ret true) (callF f_law_pick (args [(mvar 0), (bin opAdd (bin opAdd (mvar 1) (ret (.int 5))) (mvar 6)), (ret (.int 256))])))))))]) (mblock [(mset 5 (bin opIx (tree (dlst [(ret (.int 4)), (ret (.int 30)), (ret (.int 256))])) (bin opSub (mvar 3) (ret (.int 2))))),
  (mset 4 (box (comp (range1 (args [(bin opAdd (ret (.int 1)) (callF f_law_pick (args [(mvar 0), (bin opAdd (mvar 1) (ret (.int 4))), (ret (.int 19))])))])) (.nm 6) [6] (ret true) (callF f_law_pick (args [(mvar 0), (bin opAdd (bin opAdd (mvar 1) (ret (.int 5))) (mvar 6)), (mvar 5)])))))]))])),
  (mret (bin opAdd (calls fTuple (args [(mvar 4)])) (dtup [(bin opMod (bin opSub (ret (.int 256)) (bin opMod (calls fSumA (args [(mvar 4)])) (ret (.int 256)))) (ret (.int 256)))])))])
def f_law_frame : List D → Sto → R D := fn 2 7 b_law_frame
def b_law : MS := (mblock [(mset 1 (callF f_law_frame (args [(mvar 0), (ret (.int 10))]))),
  (mcond (mor (tst (bin opNotB (callF f_is_frame (args [(mvar 1)])) (ret (.bl true)))) (mor (tst (bin opNe (callF f_framed (args [(slice opSl (mvar 1) (ret none) (part (un opNeg (ret (.int 1)))))])) (mvar 1))) (tst (bin opNe (callF f_framed (args [(tree (calls fList (args [(slice opSl (mvar 1) (ret none) (part (un opNeg (ret (.int 1)))))])))])) (mvar 1))))) (mblock [(mret (ret (.bl false)))]) (mblock [])),
  (mpar 5 6 (args [(callF f_law_pick (args [(mvar 0), (ret (.int 60)), (calls fLen (args [(mvar 1)]))])), (bin opAdd (ret (.int 1)) (callF f_law_pick (args [(mvar 0), (ret (.int 61)), (ret (.int 255))])))])),
  (mset 2 (bin opAdd (bin opAdd (slice opSl (mvar 1) (ret none) (part (mvar 5))) (dtup [(bin opMod (bin opAdd (bin opIx (mvar 1) (mvar 5)) (mvar 6)) (ret (.int 256)))])) (slice opSl (mvar 1) (part (bin opAdd (mvar 5) (ret (.int 1)))) (ret none)))),
  (mcond (mor (tst (bin opNotB (callF f_is_frame (args [(mvar 2)])) (ret (.bl false)))) (mor (tst (bin opNotInA (mvar 1) (callF f_near_frames (args [(mvar 2)])))) (tst (bin opNe (callF f_unlike (args [(mvar 1), (mvar 2)])) (ret (.int 1)))))) (mblock [(mret (ret (.bl false)))]) (mblock [])),
  (mset 3 (callF f_law_frame (args [(mvar 0), (ret (.int 70))]))),
  (mcond (mor (tst (bin opNe (callF f_is_frame (args [(bin opAdd (mvar 1) (mvar 3))])) (bin opLe (calls fLen (args [(bin opAdd (mvar 1) (mvar 3))])) (ret (.int 20))))) (tst (bin opNotB (callF f_is_frame (args [(tree (calls fList (args [(mvar 1)])))])) (ret (.bl false))))) (mblock [(mret (ret (.bl false)))]) (mblock [])),
  (mset 4 (box (calls fList (args [(mvar 1)])))),
  (mpar 7 8 (args [(callF f_law_pick (args [(mvar 0), (ret (.int 62)), (calls fLen (args [(mvar 1)]))])), (callF f_law_pick (args [(mvar 0), (ret (.int 63)), (calls fLen (args [(mvar 1)]))]))])),
  (msub2 (dtup [(bin opIx (mvar 4) (mvar 8)), (bin opIx (mvar 4) (mvar 7))]) (mvar 4) (mvar 7) (mvar 4) (mvar 8)),
  (mret (vand (bin opIsB (callF f_is_frame (args [(calls fTuple (args [(mvar 4)]))])) (ret (.bl true))) (bin opIsB (callF f_is_frame (args [(un opRev (mvar 1))])) (ret (.bl true)))))])
def f_law : List D → Sto → R D := fn 1 9 b_law
/-! what the top has written -/
structure Txt (K : PySem.W.Frag) (mg : Str → Option Value) : Prop where
  b_all : mg "all" = none
  b_bool : mg "bool" = none
  b_enumerate : mg "enumerate" = none
  b_int : mg "int" = none
  b_isinstance : mg "isinstance" = none
  b_len : mg "len" = none
  b_list : mg "list" = none
  b_max : mg "max" = none
  b_range : mg "range" = none
  b_sorted : mg "sorted" = none
  b_sum : mg "sum" = none
  b_tuple : mg "tuple" = none
  b_zip : mg "zip" = none
  c_LONGEST : ∃ t, mg "LONGEST" = some (.int 20 t)
  x_NoFrame : ExcF K mg "NoFrame"
  F_is_whole : StF K mg "is_whole" "is_whole" s_is_whole ["thing", "low", "high"]
  F_are_bytes : StF K mg "are_bytes" "are_bytes" s_are_bytes ["thing", "low", "high"]
  F_is_frame : StF K mg "is_frame" "is_frame" s_is_frame ["thing"]
  F_framed : StF K mg "framed" "framed" s_framed ["parts"]
  F_look_parts : StF K mg "look_parts" "look_parts" s_look_parts ["parts"]
  F_unlike : StF K mg "unlike" "unlike" s_unlike ["one", "other"]
  F_near_of : StF K mg "near_of" "near_of" s_near_of ["parts"]
  F_near_frames : StF K mg "near_frames" "near_frames" s_near_frames ["parts"]
  F_law_cell : StF K mg "_law_cell" "_law_cell" s_law_cell ["_law_script", "_law_k"]
  F_law_pick : StF K mg "_law_pick" "_law_pick" s_law_pick ["_law_script", "_law_k", "_law_many"]
  F_law_frame : StF K mg "_law_frame" "_law_frame" s_law_frame ["_law_script", "_law_at"]
  F_law : StF K mg "law" "law" s_law ["_law_script"]
section
variable {P : Program} {w : World} {K : PySem.W.Frag} {mg : Str → Option Value} {base : Heap} {S : Addr} {ns : List Int}
theorem ok_is_whole (T : Txt K mg) : Df P w K mg base ⟨K, mg, S, ns⟩ 1 "is_whole" 3 f_is_whole := df_ok T.F_is_whole sc_is_whole fun f cdv A outer s H E hr =>
  (ss_one (s_ret (e_and (e_isi (hg := rfl) (hm := T.b_isinstance) (hgT := rfl) (hmT := T.b_int) (hv := bt_int) (ht := by decide) (hn := by decide) (hd := by decide) (ha := (e_var 0))) (e_and (e_not (e_isi (hg := rfl) (hm := T.b_isinstance) (hgT := rfl) (hmT := T.b_bool) (hv := bt_bool) (ht := by decide) (hn := by decide) (hd := by decide) (ha := (e_var 0)))) (e_one (e_le_le (ha := (e_var 1)) (hb := (e_var 0)) (hc := (e_var 2))))))))
theorem ok_are_bytes (T : Txt K mg) : Df P w K mg base ⟨K, mg, S, ns⟩ 2 "are_bytes" 3 f_are_bytes := df_ok T.F_are_bytes sc_are_bytes fun f cdv A outer s H E hr =>
  (ss_cons (s_if (t_w (w_or (t_not (t_val (e_isi2 (hg := rfl) (hm := T.b_isinstance) (hgT := rfl) (hmT := T.b_list) (hv := bt_list) (ht := by decide) (hn := by decide) (hd := by decide) (hgT' := rfl) (hmT' := T.b_tuple) (hv' := bt_tuple) (ht' := by decide) (hn' := by decide) (hd' := by decide) (ha := (e_var 0))))) (w_or1 (t_not (t_le_le (ha := (e_var 1)) (hb := (e_len (hg := rfl) (hm := T.b_len) (ha := (a_cons (e_var 0) a_nil)))) (hc := (e_var 2))))))) (ss_one (s_ret e_bl)) ss_nil)
  (ss_one (s_ret (e_all (hg := rfl) (hm := T.b_all) (ha := (a_cons (e_tree (n_comp (own := [(("one" : Str), 3)]) (p := (.nm 3)) (hN := sc_are_bytes.nd) (hi := (i_walk (h := (e_var 0)))) (ok := blkOk_by (N := ["thing", "low", "high", "one"]) (sc := defScope s_are_bytes) (by decide +kernel)) (hg := (fun _ _ _ _ _ => (g_name (i := 3) sc_are_bytes.nd))) (ht := (fun _ _ _ _ _ => ts_nil)) (he := (fun _ _ _ _ _ => (e_call (ok_is_whole T) (hr.mono (by decide)) pass0W (a_cons (e_var 3) (a_cons e_int (a_cons e_int a_nil)))))))) a_nil))))))
theorem ok_is_frame (T : Txt K mg) : Df P w K mg base ⟨K, mg, S, ns⟩ 3 "is_frame" 1 f_is_frame := df_ok T.F_is_frame sc_is_frame fun f cdv A outer s H E hr =>
  (ss_one (s_ret (e_and (e_isi (hg := rfl) (hm := T.b_isinstance) (hgT := rfl) (hmT := T.b_tuple) (hv := bt_tuple) (ht := by decide) (hn := by decide) (hd := by decide) (ha := (e_var 0))) (e_and (e_call (ok_are_bytes T) (hr.mono (by decide)) (pass_of (takes_of rfl rfl rfl rfl)) (a_cons (e_var 0) (a_cons e_int (a_cons (e_globI T.c_LONGEST) a_nil)))) (e_one (e_eq (hu := hr.units) (ha := (e_mod (ha := (e_sumA (hg := rfl) (hm := T.b_sum) (ha := (a_cons (e_var 0) a_nil)))) (hb := e_int))) (hb := e_int)))))))
theorem ok_framed (T : Txt K mg) : Df P w K mg base ⟨K, mg, S, ns⟩ 3 "framed" 1 f_framed := df_ok T.F_framed sc_framed fun f cdv A outer s H E hr =>
  (ss_cons (s_if (t_not (t_val (e_call (ok_are_bytes T) (hr.mono (by decide)) (pass_of (takes_of rfl rfl rfl rfl)) (a_cons (e_var 0) (a_cons e_int (a_cons (e_sub (ha := (e_globI T.c_LONGEST)) (hb := e_int)) a_nil)))))) (ss_one (s_raise (tk := takes_of rfl rfl rfl rfl) (F := T.x_NoFrame))) ss_nil)
  (ss_one (s_ret (e_add (ha := (e_tuple (hg := rfl) (hm := T.b_tuple) (ha := (a_cons (e_var 0) a_nil)))) (hb := (e_tup (a_cons (e_mod (ha := (e_sub (ha := e_int) (hb := (e_sumA (hg := rfl) (hm := T.b_sum) (ha := (a_cons (e_var 0) a_nil)))))) (hb := e_int)) a_nil)))))))
theorem ok_look_parts (T : Txt K mg) : Df P w K mg base ⟨K, mg, S, ns⟩ 3 "look_parts" 1 f_look_parts := df_ok T.F_look_parts sc_look_parts fun f cdv A outer s H E hr =>
  (ss_one (s_if (t_w (w_or (t_not (t_val (e_isi2 (hg := rfl) (hm := T.b_isinstance) (hgT := rfl) (hmT := T.b_list) (hv := bt_list) (ht := by decide) (hn := by decide) (hd := by decide) (hgT' := rfl) (hmT' := T.b_tuple) (hv' := bt_tuple) (ht' := by decide) (hn' := by decide) (hd' := by decide) (ha := (e_var 0))))) (w_or1 (t_not (t_val (e_call (ok_are_bytes T) (hr.mono (by decide)) (pass_of (takes_of rfl rfl rfl rfl)) (a_cons (e_var 0) (a_cons e_int (a_cons (e_globI T.c_LONGEST) a_nil))))))))) (ss_one (s_raise (tk := takes_of rfl rfl rfl rfl) (F := T.x_NoFrame))) ss_nil))
theorem ok_unlike (T : Txt K mg) : Df P w K mg base ⟨K, mg, S, ns⟩ 4 "unlike" 2 f_unlike := df_ok T.F_unlike sc_unlike fun f cdv A outer s H E hr =>
  (ss_cons (s_expr (e_call (ok_look_parts T) (hr.mono (by decide)) (pass_of (takes_of rfl rfl rfl rfl)) (a_cons (e_var 0) a_nil)))
  (ss_cons (s_expr (e_call (ok_look_parts T) (hr.mono (by decide)) (pass_of (takes_of rfl rfl rfl rfl)) (a_cons (e_var 1) a_nil)))
  (ss_cons (s_set (i := 2) (hN := sc_unlike.nd) (he := (e_max (hg := rfl) (hm := T.b_max) (ha := (a_cons (e_len (hg := rfl) (hm := T.b_len) (ha := (a_cons (e_var 0) a_nil))) (a_cons (e_len (hg := rfl) (hm := T.b_len) (ha := (a_cons (e_var 1) a_nil))) a_nil))))))
  (ss_cons (s_set (i := 3) (hN := sc_unlike.nd) (he := (e_tree (n_cat (ha := (e_tree (n_list (hg := rfl) (hm := T.b_list) (ha := (a_cons (e_var 0) a_nil))))) (hb := (e_tree (n_rep (ha := (e_tree (n_lst (a_cons e_non a_nil)))) (hb := (e_sub (ha := (e_var 2)) (hb := (e_len (hg := rfl) (hm := T.b_len) (ha := (a_cons (e_var 0) a_nil)))))))))))))
  (ss_cons (s_set (i := 4) (hN := sc_unlike.nd) (he := (e_tree (n_cat (ha := (e_tree (n_list (hg := rfl) (hm := T.b_list) (ha := (a_cons (e_var 1) a_nil))))) (hb := (e_tree (n_rep (ha := (e_tree (n_lst (a_cons e_non a_nil)))) (hb := (e_sub (ha := (e_var 2)) (hb := (e_len (hg := rfl) (hm := T.b_len) (ha := (a_cons (e_var 1) a_nil)))))))))))))
  (ss_one (s_ret (e_len (hg := rfl) (hm := T.b_len) (ha := (a_cons (e_tree (n_comp (own := [(("a" : Str), 5), (("b" : Str), 6)]) (p := (.tp [5, 6])) (hN := sc_unlike.nd) (hi := (i_zip (hg := rfl) (hm := T.b_zip) (ha := (a_cons (e_var 3) (a_cons (e_var 4) a_nil))))) (ok := blkOk_by (N := ["one", "other", "size", "mine", "yours", "a", "b"]) (sc := defScope s_unlike) (by decide +kernel)) (hg := (fun _ _ _ _ _ => (g_tup (gs_cons 5 sc_unlike.nd (gs_cons 6 sc_unlike.nd gs_nil))))) (ht := (fun _ _ _ _ _ => (ts_one (t_ne (hu := hr.units) (ha := (e_var 5)) (hb := (e_var 6)))))) (he := (fun _ _ _ _ _ => e_int)))) a_nil))))))))))
theorem ok_near_of (T : Txt K mg) : Df P w K mg base ⟨K, mg, S, ns⟩ 4 "near_of" 1 f_near_of := df_ok T.F_near_of sc_near_of fun f cdv A outer s H E hr =>
  (ss_cons (s_if (t_val (e_call (ok_is_frame T) (hr.mono (by decide)) (pass_of (takes_of rfl rfl rfl rfl)) (a_cons (e_tuple (hg := rfl) (hm := T.b_tuple) (ha := (a_cons (e_var 0) a_nil))) a_nil))) (ss_one (s_ret (e_tree (n_lst (a_cons (e_tuple (hg := rfl) (hm := T.b_tuple) (ha := (a_cons (e_var 0) a_nil))) a_nil))))) ss_nil)
  (ss_cons (s_set (i := 1) (hN := sc_near_of.nd) (he := (e_mod (ha := (e_sumA (hg := rfl) (hm := T.b_sum) (ha := (a_cons (e_var 0) a_nil)))) (hb := e_int))))
  (ss_cons (s_set (i := 2) (hN := sc_near_of.nd) (he := (e_box (n_lst a_nil))))
  (ss_cons (s_for (hp := passes_of rfl) (hi := (i_enum (hg := rfl) (hm := T.b_enumerate) (ha := (a_cons (e_var 0) a_nil)))) (hg := (g_tup (gs_cons 3 sc_near_of.nd (gs_cons 4 sc_near_of.nd gs_nil)))) (hb := (ss_one (s_expr (e_append (ho := (e_var 2)) (ha := (a_cons (e_add (ha := (e_add (ha := (e_tuple (hg := rfl) (hm := T.b_tuple) (ha := (a_cons (e_slice (ha := (e_var 0)) (hl := o_none) (hh := (o_some (e_var 3)))) a_nil)))) (hb := (e_tup (a_cons (e_mod (ha := (e_sub (ha := (e_var 4)) (hb := (e_var 1)))) (hb := e_int)) a_nil))))) (hb := (e_tuple (hg := rfl) (hm := T.b_tuple) (ha := (a_cons (e_slice (ha := (e_var 0)) (hl := (o_some (e_add (ha := (e_var 3)) (hb := e_int)))) (hh := o_none)) a_nil))))) a_nil)))))))
  (ss_one (s_ret (e_tree (n_sortT (hg := rfl) (hm := T.b_sorted) (ha := (a_cons (e_var 2) a_nil))))))))))
theorem ok_near_frames (T : Txt K mg) : Df P w K mg base ⟨K, mg, S, ns⟩ 5 "near_frames" 1 f_near_frames := df_ok T.F_near_frames sc_near_frames fun f cdv A outer s H E hr =>
  (ss_cons (s_expr (e_call (ok_look_parts T) (hr.mono (by decide)) (pass_of (takes_of rfl rfl rfl rfl)) (a_cons (e_var 0) a_nil)))
  (ss_one (s_ret (e_call (ok_near_of T) (hr.mono (by decide)) (pass_of (takes_of rfl rfl rfl rfl)) (a_cons (e_var 0) a_nil)))))
theorem ok_law_cell (T : Txt K mg) : Df P w K mg base ⟨K, mg, S, ns⟩ 1 "_law_cell" 2 f_law_cell := df_ok T.F_law_cell sc_law_cell fun f cdv A outer s H E hr =>
  (ss_cons (s_if (t_lt (ha := (e_var 1)) (hb := (e_len (hg := rfl) (hm := T.b_len) (ha := (a_cons (e_var 0) a_nil))))) (ss_one (s_ret (e_ix (ha := (e_var 0)) (hb := (e_var 1))))) ss_nil)
  (ss_cons (s_if (t_eq (hu := hr.units) (ha := (e_var 0)) (hb := (e_tree (n_lst a_nil)))) (ss_one (s_ret e_int)) ss_nil)
  (ss_one (s_ret (e_add (ha := (e_mul (ha := (e_ix (ha := (e_var 0)) (hb := (e_mod (ha := (e_var 1)) (hb := (e_len (hg := rfl) (hm := T.b_len) (ha := (a_cons (e_var 0) a_nil)))))))) (hb := e_int))) (hb := (e_var 1)))))))
theorem ok_law_pick (T : Txt K mg) : Df P w K mg base ⟨K, mg, S, ns⟩ 2 "_law_pick" 3 f_law_pick := df_ok T.F_law_pick sc_law_pick fun f cdv A outer s H E hr =>
  (ss_cons (s_set (i := 3) (hN := sc_law_pick.nd) (he := (e_mod (ha := (e_mul (ha := (e_add (ha := (e_call (ok_law_cell T) (hr.mono (by decide)) (pass_of (takes_of rfl rfl rfl rfl)) (a_cons (e_var 0) (a_cons (e_var 1) a_nil)))) (hb := (e_mul (ha := e_int) (hb := (e_add (ha := (e_var 1)) (hb := e_int))))))) (hb := e_int))) (hb := e_int))))
  (ss_one (s_ret (e_mod (ha := (e_mod (ha := (e_add (ha := (e_mul (ha := (e_var 3)) (hb := (e_var 3)))) (hb := (e_div (ha := (e_var 3)) (hb := e_int))))) (hb := e_int))) (hb := (e_var 2))))))
theorem ok_law_frame (T : Txt K mg) : Df P w K mg base ⟨K, mg, S, ns⟩ 3 "_law_frame" 2 f_law_frame := df_ok T.F_law_frame sc_law_frame fun f cdv A outer s H E hr =>
  (ss_cons (s_set (i := 2) (hN := sc_law_frame.nd) (he := (e_add (ha := e_int) (hb := (e_call (ok_law_pick T) (hr.mono (by decide)) (pass_of (takes_of rfl rfl rfl rfl)) (a_cons (e_var 0) (a_cons (e_var 1) (a_cons e_int a_nil))))))))
  (ss_cons (s_set (i := 3) (hN := sc_law_frame.nd) (he := (e_call (ok_law_pick T) (hr.mono (by decide)) (pass_of (takes_of rfl rfl rfl rfl)) (a_cons (e_var 0) (a_cons (e_add (ha := (e_var 1)) (hb := e_int)) (a_cons e_int a_nil))))))
  (ss_cons (s_if (t_eq (hu := hr.units) (ha := (e_var 3)) (hb := e_int)) (ss_cons (s_set (i := 4) (hN := sc_law_frame.nd) (he := (e_box (n_lst (a_cons (e_var 2) (a_cons e_int (a_cons (e_call (ok_law_pick T) (hr.mono (by decide)) (pass_of (takes_of rfl rfl rfl rfl)) (a_cons (e_var 0) (a_cons (e_add (ha := (e_var 1)) (hb := e_int)) (a_cons e_int a_nil)))) (a_cons (e_call (ok_law_pick T) (hr.mono (by decide)) (pass_of (takes_of rfl rfl rfl rfl)) (a_cons (e_var 0) (a_cons (e_add (ha := (e_var 1)) (hb := e_int)) (a_cons e_int a_nil)))) a_nil))))))))
  (ss_one (s_expr (e_extend (ho := (e_var 4)) (ha := (a_cons (e_tree (n_lst (a_cons (e_add (ha := e_int) (hb := (e_call (ok_law_pick T) (hr.mono (by decide)) (pass_of (takes_of rfl rfl rfl rfl)) (a_cons (e_var 0) (a_cons (e_add (ha := (e_var 1)) (hb := e_int)) (a_cons e_int a_nil)))))) a_nil))) a_nil)))))) (ss_one (s_if (t_eq (hu := hr.units) (ha := (e_var 3)) (hb := e_int)) (ss_cons (s_set (i := 4) (hN := sc_law_frame.nd) (he := (e_box (n_lst (a_cons (e_var 2) (a_cons e_int (a_cons (e_call (ok_law_pick T) (hr.mono (by decide)) (pass_of (takes_of rfl rfl rfl rfl)) (a_cons (e_var 0) (a_cons (e_add (ha := (e_var 1)) (hb := e_int)) (a_cons e_int a_nil)))) (a_cons (e_call (ok_law_pick T) (hr.mono (by decide)) (pass_of (takes_of rfl rfl rfl rfl)) (a_cons (e_var 0) (a_cons (e_add (ha := (e_var 1)) (hb := e_int)) (a_cons e_int a_nil)))) a_nil))))))))
  (ss_one (s_set (i := 4) (hN := sc_law_frame.nd) (he := (e_box (n_cat (ha := (e_var 4)) (hb := (e_tree (n_comp (own := [(("_law_k" : Str), 6)]) (p := (.nm 6)) (hN := sc_law_frame.nd) (hi := (i_range1 rfl T.b_range (a_cons (e_add (ha := e_int) (hb := (e_call (ok_law_pick T) (hr.mono (by decide)) (pass_of (takes_of rfl rfl rfl rfl)) (a_cons (e_var 0) (a_cons (e_add (ha := (e_var 1)) (hb := e_int)) (a_cons e_int a_nil)))))) a_nil))) (ok := blkOk_by (N := ["_law_script", "_law_at", "_law_own", "_law_way", "_law_parts", "_law_top", "_law_k"]) (sc := defScope s_law_frame) (by decide +kernel)) (hg := (fun _ _ _ _ _ => (g_name (i := 6) sc_law_frame.nd))) (ht := (fun _ _ _ _ _ => ts_nil)) (he := (fun _ _ _ _ _ => (e_call (ok_law_pick T) (hr.mono (by decide)) pass0W (a_cons (e_var 0) (a_cons (e_add (ha := (e_add (ha := (e_var 1)) (hb := e_int))) (hb := (e_var 6))) (a_cons e_int a_nil))))))))))))))) (ss_cons (s_set (i := 5) (hN := sc_law_frame.nd) (he := (e_ix (ha := (e_tree (n_lst (a_cons e_int (a_cons e_int (a_cons e_int a_nil)))))) (hb := (e_sub (ha := (e_var 3)) (hb := e_int))))))
  (ss_one (s_setLcB (i := 4) (own := [(("_law_k" : Str), 6)]) (p := (.nm 6)) (hN := sc_law_frame.nd) (hi := (i_range1 rfl T.b_range (a_cons (e_add (ha := e_int) (hb := (e_call (ok_law_pick T) (hr.mono (by decide)) (pass_of (takes_of rfl rfl rfl rfl)) (a_cons (e_var 0) (a_cons (e_add (ha := (e_var 1)) (hb := e_int)) (a_cons e_int a_nil)))))) a_nil))) (ok := blkOk_by (N := ["_law_script", "_law_at", "_law_own", "_law_way", "_law_parts", "_law_top", "_law_k"]) (sc := defScope s_law_frame) (by decide +kernel)) (hg := (fun _ _ _ _ _ => (g_name (i := 6) sc_law_frame.nd))) (ht := (fun _ _ _ _ _ => ts_nil)) (he := (fun _ _ _ _ _ => (e_call (ok_law_pick T) (hr.mono (by decide)) pass0W (a_cons (e_var 0) (a_cons (e_add (ha := (e_add (ha := (e_var 1)) (hb := e_int))) (hb := (e_var 6))) (a_cons (e_var 5) a_nil))))))))))))
  (ss_one (s_ret (e_add (ha := (e_tuple (hg := rfl) (hm := T.b_tuple) (ha := (a_cons (e_var 4) a_nil)))) (hb := (e_tup (a_cons (e_mod (ha := (e_sub (ha := e_int) (hb := (e_mod (ha := (e_sumA (hg := rfl) (hm := T.b_sum) (ha := (a_cons (e_var 4) a_nil)))) (hb := e_int))))) (hb := e_int)) a_nil)))))))))
theorem ok_lawF {f : Addr} {fd : FuncData} (T : Txt K mg) (F : Fun K "law" "law" s_law f fd) : FnOk P w K mg base (L2.CX P w) 6 f fd ["_law_script"] (spOf ⟨K, mg, S, ns⟩ 1 f_law) := fn_ok (N := ["_law_script", "_law_frame_here", "_law_spoilt", "_law_other", "_law_some", "_law_spot", "_law_by", "_law_one", "_law_two"]) (ps := ["_law_script"]) F sc_law fun cdv A outer s H E hr =>
  (ss_cons (s_set (i := 1) (hN := sc_law.nd) (he := (e_call (ok_law_frame T) (hr.mono (by decide)) (pass_of (takes_of rfl rfl rfl rfl)) (a_cons (e_var 0) (a_cons e_int a_nil)))))
  (ss_cons (s_if (t_w (w_or (t_notB (e_call (ok_is_frame T) (hr.mono (by decide)) (pass_of (takes_of rfl rfl rfl rfl)) (a_cons (e_var 1) a_nil)) e_bl) (w_or (t_ne (hu := hr.units) (ha := (e_call (ok_framed T) (hr.mono (by decide)) (pass_of (takes_of rfl rfl rfl rfl)) (a_cons (e_slice (ha := (e_var 1)) (hl := o_none) (hh := (o_some (e_neg e_int)))) a_nil))) (hb := (e_var 1))) (w_or1 (t_ne (hu := hr.units) (ha := (e_call (ok_framed T) (hr.mono (by decide)) (pass_of (takes_of rfl rfl rfl rfl)) (a_cons (e_tree (n_list (hg := rfl) (hm := T.b_list) (ha := (a_cons (e_slice (ha := (e_var 1)) (hl := o_none) (hh := (o_some (e_neg e_int)))) a_nil)))) a_nil))) (hb := (e_var 1))))))) (ss_one (s_ret e_bl)) ss_nil)
  (ss_cons (s_par (i := 5) (j := 6) (hN := sc_law.nd) (ha := (a_cons (e_call (ok_law_pick T) (hr.mono (by decide)) (pass_of (takes_of rfl rfl rfl rfl)) (a_cons (e_var 0) (a_cons e_int (a_cons (e_len (hg := rfl) (hm := T.b_len) (ha := (a_cons (e_var 1) a_nil))) a_nil)))) (a_cons (e_add (ha := e_int) (hb := (e_call (ok_law_pick T) (hr.mono (by decide)) (pass_of (takes_of rfl rfl rfl rfl)) (a_cons (e_var 0) (a_cons e_int (a_cons e_int a_nil)))))) a_nil))))
  (ss_cons (s_set (i := 2) (hN := sc_law.nd) (he := (e_add (ha := (e_add (ha := (e_slice (ha := (e_var 1)) (hl := o_none) (hh := (o_some (e_var 5))))) (hb := (e_tup (a_cons (e_mod (ha := (e_add (ha := (e_ix (ha := (e_var 1)) (hb := (e_var 5)))) (hb := (e_var 6)))) (hb := e_int)) a_nil))))) (hb := (e_slice (ha := (e_var 1)) (hl := (o_some (e_add (ha := (e_var 5)) (hb := e_int)))) (hh := o_none))))))
  (ss_cons (s_if (t_w (w_or (t_notB (e_call (ok_is_frame T) (hr.mono (by decide)) (pass_of (takes_of rfl rfl rfl rfl)) (a_cons (e_var 2) a_nil)) e_bl) (w_or (t_notInA (hu := u65 hr) (ha := (e_var 1)) (hb := (e_call (ok_near_frames T) (hr.mono (by decide)) (pass_of (takes_of rfl rfl rfl rfl)) (a_cons (e_var 2) a_nil)))) (w_or1 (t_ne (hu := hr.units) (ha := (e_call (ok_unlike T) (hr.mono (by decide)) (pass_of (takes_of rfl rfl rfl rfl)) (a_cons (e_var 1) (a_cons (e_var 2) a_nil)))) (hb := e_int)))))) (ss_one (s_ret e_bl)) ss_nil)
  (ss_cons (s_set (i := 3) (hN := sc_law.nd) (he := (e_call (ok_law_frame T) (hr.mono (by decide)) (pass_of (takes_of rfl rfl rfl rfl)) (a_cons (e_var 0) (a_cons e_int a_nil)))))
  (ss_cons (s_if (t_w (w_or (t_ne (hu := hr.units) (ha := (e_call (ok_is_frame T) (hr.mono (by decide)) (pass_of (takes_of rfl rfl rfl rfl)) (a_cons (e_add (ha := (e_var 1)) (hb := (e_var 3))) a_nil))) (hb := (e_le (ha := (e_len (hg := rfl) (hm := T.b_len) (ha := (a_cons (e_add (ha := (e_var 1)) (hb := (e_var 3))) a_nil)))) (hb := e_int)))) (w_or1 (t_notB (e_call (ok_is_frame T) (hr.mono (by decide)) (pass_of (takes_of rfl rfl rfl rfl)) (a_cons (e_tree (n_list (hg := rfl) (hm := T.b_list) (ha := (a_cons (e_var 1) a_nil)))) a_nil)) e_bl)))) (ss_one (s_ret e_bl)) ss_nil)
  (ss_cons (s_set (i := 4) (hN := sc_law.nd) (he := (e_box (n_list (hg := rfl) (hm := T.b_list) (ha := (a_cons (e_var 1) a_nil))))))
  (ss_cons (s_par (i := 7) (j := 8) (hN := sc_law.nd) (ha := (a_cons (e_call (ok_law_pick T) (hr.mono (by decide)) (pass_of (takes_of rfl rfl rfl rfl)) (a_cons (e_var 0) (a_cons e_int (a_cons (e_len (hg := rfl) (hm := T.b_len) (ha := (a_cons (e_var 1) a_nil))) a_nil)))) (a_cons (e_call (ok_law_pick T) (hr.mono (by decide)) (pass_of (takes_of rfl rfl rfl rfl)) (a_cons (e_var 0) (a_cons e_int (a_cons (e_len (hg := rfl) (hm := T.b_len) (ha := (a_cons (e_var 1) a_nil))) a_nil)))) a_nil))))
  (ss_cons (s_sub2 (he := (e_tup (a_cons (e_ix (ha := (e_var 4)) (hb := (e_var 8))) (a_cons (e_ix (ha := (e_var 4)) (hb := (e_var 7))) a_nil)))) (ha1 := pg_sub (e_var 4) (e_var 7) set_list) (ha2 := pg_sub (e_var 4) (e_var 8) set_list))
  (ss_one (s_ret (e_and (e_isB (e_call (ok_is_frame T) (hr.mono (by decide)) (pass_of (takes_of rfl rfl rfl rfl)) (a_cons (e_tuple (hg := rfl) (hm := T.b_tuple) (ha := (a_cons (e_var 4) a_nil))) a_nil)) e_bl) (e_one (e_isB (e_call (ok_is_frame T) (hr.mono (by decide)) (pass_of (takes_of rfl rfl rfl rfl)) (a_cons (e_rev (ha := (e_var 1))) a_nil)) e_bl)))))))))))))))
end
/-! the end: the facts of the top, one by one -/
end K73
namespace K73
open PySem PySem.Spec PyProof.Rows L2 Ly
theorem whole_run (a l h : Int) (st : Sto) : f_is_whole [.int a, .int l, .int h] st = .ok (.bl (decide (l ≤ a) && decide (a ≤ h))) st := by
  unfold f_is_whole b_is_whole
  rw [fn_run (by rfl)]
  by_cases h1 : l ≤ a
  · simp -implicitDefEqProofs [opLe, h1]
    exact gcR_same (by simp)
  · simp -implicitDefEqProofs [opLe, h1]
    exact gcR_same (by simp)
def Byt (xs : List Int) : Prop := ∀ x ∈ xs, 0 ≤ x ∧ x ≤ 255
theorem all_run {xs : List Int} (hx : Byt xs) (e : Ev) (h3 : 3 < e.length) (st : Sto) : loopC (fun _ => true) (.nm 3) (ret true) (callF f_is_whole (args [(mvar 3), (ret (.int 0)), (ret (.int 255))])) e (xs.map .int) st = .ok (xs.map fun _ => .bl true) st := by
  rw [loopC_map D.int (fun _ => D.bl true) (fun _ => true) (fun x => e.set 3 (some (.int x))) xs, List.filter_eq_self.mpr (fun _ _ => rfl)]
  intro x hm
  refine ⟨rfl, rfl, fun _ => ?_⟩
  have := hx x hm
  have e3 : (e.set 3 (some (.int x)))[3]? = some (some (.int x)) := List.getElem?_set_self h3
  simp -implicitDefEqProofs only [callF_run, Ly.args_cons, Ly.args_nil, mvar_run, e3, nxt_ok, ret_run, whole_run]
  rw [decide_eq_true this.1, decide_eq_true this.2]
  rfl
theorem all_yes (xs : List Int) : (xs.all fun _ => true) = true := List.all_eq_true.mpr fun _ _ => rfl
theorem bytes_tup {xs : List Int} (hx : Byt xs) (lo hi : Int) (st : Sto) : f_are_bytes [.tup (xs.map .int), .int lo, .int hi] st = .ok (.bl (decide (lo ≤ xs.length) && decide ((xs.length : Int) ≤ hi))) st := by
  unfold f_are_bytes b_are_bytes
  rw [fn_run (by rfl)]
  have A := all_run hx [some (.tup (xs.map .int)), some (.int lo), some (.int hi), none] (by simp) st
  by_cases h1 : lo ≤ xs.length
  · by_cases h2 : (xs.length : Int) ≤ hi
    · simp -implicitDefEqProofs [opLe, h1, h2, wipeE, A, all_yes]
      exact gcR_same (by simp)
    · simp -implicitDefEqProofs [opLe, h1, h2]
      exact gcR_same (by simp)
  · simp -implicitDefEqProofs [opLe, h1]
    exact gcR_same (by simp)
theorem bytes_lst {xs : List Int} (hx : Byt xs) (lo hi : Int) (st : Sto) : f_are_bytes [.lst (xs.map .int), .int lo, .int hi] st = .ok (.bl (decide (lo ≤ xs.length) && decide ((xs.length : Int) ≤ hi))) st := by
  unfold f_are_bytes b_are_bytes
  rw [fn_run (by rfl)]
  have A := all_run hx [some (.lst (xs.map .int)), some (.int lo), some (.int hi), none] (by simp) st
  by_cases h1 : lo ≤ xs.length
  · by_cases h2 : (xs.length : Int) ≤ hi
    · simp -implicitDefEqProofs [opLe, h1, h2, wipeE, A, all_yes]
      exact gcR_same (by simp)
    · simp -implicitDefEqProofs [opLe, h1, h2]
      exact gcR_same (by simp)
  · simp -implicitDefEqProofs [opLe, h1]
    exact gcR_same (by simp)
@[simp] theorem sumA_tup (xs : List Int) (st : Sto) : fSumA [.tup (xs.map .int)] st = some (.int xs.sum, st) := by
  show (intsOf (xs.map D.int)).map _ = _
  rw [intsOf_map]; rfl
@[simp] theorem sumA_lst (xs : List Int) (st : Sto) : fSumA [.lst (xs.map .int)] st = some (.int xs.sum, st) := fSum_lst st xs
theorem sumA_ref {st : Sto} {p : Nat} {xs : List Int} (h : st[p]? = some (.lst (xs.map .int))) : fSumA [.ref p] st = some (.int xs.sum, st) := by
  show (rdOf st (.ref p)).bind _ = _
  rw [rdOf_ref h, Option.bind_some, intsOf_map]; rfl
def isF (xs : List Int) : Bool := (decide (2 ≤ (xs.length : Int)) && decide ((xs.length : Int) ≤ 20)) && decide (xs.sum % 256 = 0)
theorem frame_tup {xs : List Int} (hx : Byt xs) (st : Sto) : f_is_frame [.tup (xs.map .int)] st = .ok (.bl (isF xs)) st := by
  unfold f_is_frame b_is_frame isF
  rw [fn_run (by rfl)]
  have B := bytes_tup hx 2 20 st
  cases hb : (decide (2 ≤ (xs.length : Int)) && decide ((xs.length : Int) ≤ 20)) with
  | true =>
    rw [hb] at B
    simp -implicitDefEqProofs [B]
    exact gcR_same (by simp)
  | false =>
    rw [hb] at B
    simp -implicitDefEqProofs [B]
    exact gcR_same (by simp)
theorem frame_lst (xs : List Int) (st : Sto) : f_is_frame [.lst (xs.map .int)] st = .ok (.bl false) st := by
  unfold f_is_frame b_is_frame
  rw [fn_run (by rfl)]
  simp -implicitDefEqProofs
  exact gcR_same (by simp)
def withSum (xs : List Int) : List Int := xs ++ [(0 - xs.sum) % 256]
theorem framed_tup {xs : List Int} (hx : Byt xs) (h1 : 1 ≤ xs.length) (h2 : xs.length ≤ 19) (st : Sto) : f_framed [.tup (xs.map .int)] st = .ok (.tup ((withSum xs).map .int)) st := by
  unfold f_framed b_framed
  rw [fn_run (by rfl)]
  have B := bytes_tup hx 1 19 st
  rw [decide_eq_true (show (1 : Int) ≤ xs.length by omega), decide_eq_true (show (xs.length : Int) ≤ 19 by omega)] at B
  have z : xs.length + 1 ≤ sizeLine := sz _ (by omega)
  simp -implicitDefEqProofs [B, z, withSum]
  exact gcR_same (by simp [clL_append, clL_ints])
theorem framed_lst {xs : List Int} (hx : Byt xs) (h1 : 1 ≤ xs.length) (h2 : xs.length ≤ 19) (st : Sto) : f_framed [.lst (xs.map .int)] st = .ok (.tup ((withSum xs).map .int)) st := by
  unfold f_framed b_framed
  rw [fn_run (by rfl)]
  have B := bytes_lst hx 1 19 st
  rw [decide_eq_true (show (1 : Int) ≤ xs.length by omega), decide_eq_true (show (xs.length : Int) ≤ 19 by omega)] at B
  have z : xs.length + 1 ≤ sizeLine := sz _ (by omega)
  simp -implicitDefEqProofs [B, z, withSum]
  exact gcR_same (by simp [clL_append, clL_ints])
theorem look_tup {xs : List Int} (hx : Byt xs) (h1 : 2 ≤ xs.length) (h2 : xs.length ≤ 20) (st : Sto) : f_look_parts [.tup (xs.map .int)] st = .ok .non st := by
  unfold f_look_parts b_look_parts
  rw [fn_run (by rfl)]
  have B := bytes_tup hx 2 20 st
  rw [decide_eq_true (show (2 : Int) ≤ xs.length by omega), decide_eq_true (show (xs.length : Int) ≤ 20 by omega)] at B
  simp -implicitDefEqProofs [B]
  exact gcR_same (by simp)
/-! unlike -/
def diff (xs ys : List Int) : Nat := ((xs.zip ys).filter fun p => !decide (p.1 = p.2)).length
theorem unlike_run {xs ys : List Int} (hx : Byt xs) (hy : Byt ys) (hl : ys.length = xs.length) (h1 : 2 ≤ xs.length) (h2 : xs.length ≤ 20) (st : Sto) : f_unlike [.tup (xs.map .int), .tup (ys.map .int)] st = .ok (.int (diff xs ys)) st := by
  unfold f_unlike b_unlike
  rw [fn_run (by rfl)]
  have r0 : ∀ s : Sto, repN2 (.lst [.non]) (.int 0) s = some ([], s) := fun s => by
    show repD s (.lst [.non]) 0 = _
    unfold repD
    rw [show lstOf s (.lst [.non]) = some [.non] from rfl]
    dsimp only
    rw [if_pos ⟨by decide, by decide, sz _ (by decide)⟩]
    rfl
  have z : xs.length ≤ sizeLine := sz _ (by omega)
  have A : loopC (fun _ => true) (.tp [5, 6]) (tst (bin opNe (mvar 5) (mvar 6))) (ret (.int 1)) [some (.tup (xs.map .int)), some (.tup (ys.map .int)), some (.int xs.length), some (.lst (xs.map .int)), some (.lst (ys.map .int)), none, none] ((xs.zip ys).map fun p => D.tup [D.int p.1, D.int p.2]) st = .ok (((xs.zip ys).filter fun p => !decide (p.1 = p.2)).map fun _ => .int 1) st := by
    rw [loopC_map (fun p : Int × Int => D.tup [D.int p.1, D.int p.2]) (fun _ => D.int 1) (fun p => !decide (p.1 = p.2)) (fun p => [some (.tup (xs.map .int)), some (.tup (ys.map .int)), some (.int xs.length), some (.lst (xs.map .int)), some (.lst (ys.map .int)), some (.int p.1), some (.int p.2)]) (xs.zip ys)]
    intro p _
    exact ⟨rfl, by simp, fun _ => rfl⟩
  have P := pairs_map D.int D.int xs ys
  simp -implicitDefEqProofs [look_tup hx h1 h2, look_tup hy (by omega : 2 ≤ ys.length) (by omega : ys.length ≤ 20), hl, r0, z, isTup, P, wipeE, A]
  exact gcR_same (by simp)
/-! near frames -/
def var (zs : List Int) (k : Nat) : List Int := zs.take k ++ [(zs.getD k 0 - zs.sum) % 256] ++ zs.drop (k + 1)
def vars (zs : List Int) (n : Nat) : List (List Int) := (List.range n).map (var zs)
theorem var_len {zs : List Int} {k : Nat} (h : k < zs.length) : (var zs k).length = zs.length := by unfold var; simp; omega
theorem sort_ref {st : Sto} {p : Nat} {L : List (List Int)} (h : st[p]? = some (.lst (L.map tupD))) (c : L.length < 64 ∧ 1 ≤ (L.headD [0]).length ∧ okTups (L.headD [0]).length L = true) : fSortT [.ref p] st = some ((L.mergeSort ordT).map tupD, st) := by
  show (rdOf st (.ref p)).bind _ = _
  rw [rdOf_ref h, Option.bind_some, tupsI_map, Option.bind_some, if_pos c]
theorem var_ok {zs : List Int} (hz : Byt zs) (k : Nat) : Byt (var zs k) := by
  intro x hx
  unfold var at hx
  rcases List.mem_append.mp hx with hx | hx
  · rcases List.mem_append.mp hx with hx | hx
    · exact hz x (List.mem_of_mem_take hx)
    · have := List.mem_singleton.mp hx
      omega
  · exact hz x (List.mem_of_mem_drop hx)
theorem vars_ok {zs : List Int} (hz : Byt zs) (h2 : 2 ≤ zs.length) (h20 : zs.length ≤ 20) : (vars zs zs.length).length < 64 ∧ 1 ≤ ((vars zs zs.length).headD [0]).length ∧ okTups ((vars zs zs.length).headD [0]).length (vars zs zs.length) = true := by
  have hd : (vars zs zs.length).headD [0] = var zs 0 := by
    unfold vars
    obtain ⟨m, hm⟩ : ∃ m, zs.length = m + 1 := ⟨zs.length - 1, by omega⟩
    rw [hm, List.range_succ_eq_map, List.map_cons]
    rfl
  rw [hd, var_len (by omega)]
  refine ⟨by unfold vars; simp; omega, by omega, List.all_eq_true.mpr fun l hl => ?_⟩
  unfold vars at hl
  obtain ⟨k, hk, rfl⟩ := List.mem_map.mp hl
  rw [var_len (List.mem_range.mp hk), decide_eq_true rfl, Bool.true_and]
  refine List.all_eq_true.mpr fun i hi => ?_
  have := var_ok hz k i hi
  rw [Bool.and_eq_true, decide_eq_true_eq, decide_eq_true_eq]
  exact ⟨this.1, by show i < 4294967296; omega⟩
theorem near_run {zs : List Int} (hz : Byt zs) (h2 : 2 ≤ zs.length) (h20 : zs.length ≤ 20) (hf : isF zs = false) (g : Sto) : f_near_of [.tup (zs.map .int)] g = .ok (.lst (((vars zs zs.length).mergeSort ordT).map tupD)) g := by
  unfold f_near_of b_near_of
  rw [fn_run (by rfl)]
  have F := frame_tup hz g
  rw [hf] at F
  simp -implicitDefEqProofs [F]
  generalize hb : mblock [mdo _] = bd
  have P := pairs_map (fun (i : Nat) => D.int (0 + (i : Int))) D.int (List.range zs.length) zs
  simp -implicitDefEqProofs [rng_map, P, -Int.zero_add]
  have hlz : ((List.range zs.length).zip zs).length = zs.length := by simp
  obtain ⟨e2, st2, hfx, x3, x4, rfl, e2s⟩ := forX_map (p := .tp [3, 4]) (body := bd) (fun p : Nat × Int => D.tup [D.int (0 + (p.1 : Int)), D.int p.2]) ((List.range zs.length).zip zs) (fun k e s => ∃ x3 x4, e = [some (.tup (zs.map .int)), some (.int (zs.sum % 256)), some (.ref g.length), x3, x4] ∧ s = g ++ [.lst ((vars zs k).map tupD)])
    (e := [some (.tup (zs.map .int)), some (.int (zs.sum % 256)), some (.ref g.length), none, none]) (st := g ++ [.lst []]) ⟨none, none, rfl, rfl⟩ (by
      intro j hj e s ⟨x3, x4, he, hs⟩
      subst he hs hb
      have hj2 : j < zs.length := by rw [hlz] at hj; exact hj
      have ej : ((List.range zs.length).zip zs)[j] = (j, zs[j]) := by simp
      rw [ej]
      refine ⟨_, rfl, [some (.tup (zs.map .int)), some (.int (zs.sum % 256)), some (.ref g.length), some (.int j), some (.int zs[j])], g ++ [.lst ((vars zs (j + 1)).map tupD)], .inl ?_, _, _, rfl, rfl⟩
      have hv : vars zs (j + 1) = vars zs j ++ [var zs j] := by unfold vars; rw [List.range_succ, List.map_append]; rfl
      have h0 : (g ++ [Cell.lst ((vars zs j).map tupD)])[g.length]? = some (.lst ((vars zs j).map tupD)) := by simp
      have ap := append_ref h0 (by rw [List.length_map]; unfold vars; rw [List.length_map, List.length_range]; exact sz_lt _ (by omega)) (tupD (var zs j))
      rw [set1] at ap
      have i0 := isOf_ref h0
      have c1 : cut (zs.map D.int) none (some (j : Int)) = (zs.take j).map D.int := by rw [cut_map, cut_to]
      have c2 : cut (zs.map D.int) (some ((j : Int) + 1)) none = (zs.drop (j + 1)).map D.int := by rw [cut_map]; exact congrArg _ (cut_from zs (j + 1))
      have z1 : (zs.take j).length + 1 ≤ sizeLine := sz _ (by rw [List.length_take]; omega)
      have z2 : (zs.take j).length + 1 + (zs.drop (j + 1)).length ≤ sizeLine := sz _ (by rw [List.length_take, List.length_drop]; omega)
      have gj : zs.getD j 0 = zs[j] := by rw [List.getD_eq_getElem?_getD, List.getElem?_eq_getElem hj2]; rfl
      have tv : tupD (var zs j) = .tup ((zs.take j).map D.int ++ [.int ((zs[j] - zs.sum) % 256)] ++ (zs.drop (j + 1)).map D.int) := by
        unfold tupD var
        rw [gj, List.map_append, List.map_append]
        rfl
      rw [tv] at ap
      rw [hv, List.map_append, List.map_cons, List.map_nil, tv]
      simp -implicitDefEqProofs [setAll, i0, c1, c2, z1, z2, -List.map_take, -List.map_drop, -List.length_take, -List.length_drop, -List.append_assoc, ap])
  rw [hfx, e2s, hlz]
  have so := sort_ref (st := g ++ [.lst ((vars zs zs.length).map tupD)]) (p := g.length) (L := vars zs zs.length) (by simp) (vars_ok hz h2 h20)
  simp -implicitDefEqProofs [so]
  exact gcR_new (clL_map _ _ (fun l => by unfold tupD; simp [clL_ints]) _)
theorem nearf_run {zs : List Int} (hz : Byt zs) (h2 : 2 ≤ zs.length) (h20 : zs.length ≤ 20) (hf : isF zs = false) (g : Sto) : f_near_frames [.tup (zs.map .int)] g = .ok (.lst (((vars zs zs.length).mergeSort ordT).map tupD)) g := by
  unfold f_near_frames b_near_frames
  rw [fn_run (by rfl)]
  simp -implicitDefEqProofs [look_tup hz h2 h20, near_run hz h2 h20 hf]
  exact gcR_same (clL_map _ _ (fun l => by unfold tupD; simp [clL_ints]) _)
/-! frames drawn -/
def fr (ps : List Int) : List Int := ps ++ [(256 - ps.sum % 256) % 256]
theorem fr_sum (ps : List Int) : withSum ps = fr ps := by
  unfold withSum fr
  have : (0 - ps.sum) % 256 = (256 - ps.sum % 256) % 256 := by omega
  rw [this]
structure Frame (xs : List Int) : Prop where
  byt : Byt xs
  l2 : 2 ≤ xs.length
  l20 : xs.length ≤ 20
  sum : xs.sum % 256 = 0
theorem fr_frame {ps : List Int} (h : Byt ps) (h1 : 1 ≤ ps.length) (h2 : ps.length ≤ 19) : Frame (fr ps) := by
  unfold fr
  refine ⟨fun x hx => ?_, by simp; omega, by simp; omega, ?_⟩
  · rcases List.mem_append.mp hx with hx | hx
    · exact h x hx
    · have := List.mem_singleton.mp hx; omega
  · rw [List.sum_append]; simp only [List.sum_cons, List.sum_nil]; omega
theorem Frame.isF {xs : List Int} (h : Frame xs) : isF xs = true := by
  unfold K73.isF
  rw [decide_eq_true h.sum, decide_eq_true (show (2 : Int) ≤ xs.length by have := h.l2; omega), decide_eq_true (show (xs.length : Int) ≤ 20 by have := h.l20; omega)]
  rfl
theorem pick_eq : f_law_pick = stdPick := rfl
theorem catN_ref {st : Sto} {p : Nat} {xs ys : List D} (h : st[p]? = some (.lst xs)) (z : xs.length + ys.length ≤ sizeLine) : catN (.ref p) (.lst ys) st = some (xs ++ ys, st) := by
  unfold catN
  rw [lstOf_ref h]
  show (if xs.length + ys.length ≤ sizeLine then _ else _) = _
  rw [if_pos z]
theorem tail_run {st : Sto} {p : Nat} {ps : List Int} {a b c d e f : Option D} (h : st[p]? = some (.lst (ps.map .int))) (hz : ps.length ≤ 100) :
    mret (bin opAdd (calls fTuple (args [(mvar 4)])) (dtup [(bin opMod (bin opSub (ret (.int 256)) (bin opMod (calls fSumA (args [(mvar 4)])) (ret (.int 256)))) (ret (.int 256)))])) [a, b, c, d, some (.ref p), e, f] st = .ret (.tup ((fr ps).map .int)) st := by
  have z : ps.length + 1 ≤ sizeLine := sz _ (by omega)
  have q : (256 - ps.sum % 256) % 256 = (256 - ps.sum) % 256 := by omega
  simp -implicitDefEqProofs [tuple_ref h, sumA_ref h, z, fr, q]
def dr (ns : List Int) (at' M : Int) (n : Nat) : List Int := (List.range n).map fun (i : Nat) => pk ns (at' + 5 + (i : Int)) M
theorem draw_run {ns : List Int} (h : ns.length ≤ 63) {at' : Int} (h0 : 0 ≤ at') {own way x4 x5 : Option D} {m : M D} {M : Int} (hM : 0 < M) (hm : ∀ x s, m [some (.scr ns), some (.int at'), own, way, x4, x5, x] s = .ok (.int M) s) (n : Nat) (s : Sto) :
    loopC (fun _ => true) (.nm 6) (ret true) (callF stdPick (args [(mvar 0), (bin opAdd (bin opAdd (mvar 1) (ret (.int 5))) (mvar 6)), m])) [some (.scr ns), some (.int at'), own, way, x4, x5, none] (rng 0 n) s = .ok ((dr ns at' M n).map .int) s := by
  rw [rng_map, loopC_map (fun (i : Nat) => D.int (0 + (i : Int))) (fun (i : Nat) => D.int (pk ns (at' + 5 + (i : Int)) M)) (fun _ => true) (fun i => [some (.scr ns), some (.int at'), own, way, x4, x5, some (.int (0 + (i : Int)))]) (List.range n), List.filter_eq_self.mpr (fun _ _ => rfl)]
  · unfold dr; rw [List.map_map]; rfl
  · intro i _
    refine ⟨rfl, rfl, fun _ => ?_⟩
    rw [Int.zero_add]
    have := pick_run (ns := ns) (k := at' + 5 + (i : Int)) (m := M) (st := s) (by omega) hM (scr_ok h)
    simp -implicitDefEqProofs [hm, this]
theorem dr_ok {ns : List Int} {at' M : Int} (h1 : 0 < M) (h2 : M ≤ 256) (n : Nat) : Byt (dr ns at' M n) ∧ (dr ns at' M n).length = n := by
  refine ⟨fun x hx => ?_, by unfold dr; simp⟩
  unfold dr at hx
  obtain ⟨i, _, rfl⟩ := List.mem_map.mp hx
  have := pk_range ns (at' + 5 + (i : Int)) h1
  omega
theorem lf_run {ns : List Int} (h : ns.length ≤ 63) {at' : Int} (h0 : 0 ≤ at') (st : Sto) : ∃ ps, Byt ps ∧ 1 ≤ ps.length ∧ ps.length ≤ 19 ∧ f_law_frame [.scr ns, .int at'] st = .ok (.tup ((fr ps).map .int)) st := by
  have hP : ∀ (k m : Int) (s : Sto), 0 ≤ k → 0 < m → stdPick [.scr ns, .int k, .int m] s = .ok (.int (pk ns k m)) s := fun k m s hk hm => pick_run hk hm (scr_ok h)
  have p0 : ∀ s, _ := fun s => hP at' 99 s h0 (by decide)
  have p1 : ∀ s, _ := fun s => hP (at' + 1) 5 s (by omega) (by decide)
  have p2 : ∀ s, _ := fun s => hP (at' + 2) 16 s (by omega) (by decide)
  have p3 : ∀ s, _ := fun s => hP (at' + 3) 16 s (by omega) (by decide)
  have p4 : ∀ s, _ := fun s => hP (at' + 4) 8 s (by omega) (by decide)
  have p5 : ∀ s, _ := fun s => hP (at' + 4) 19 s (by omega) (by decide)
  have r0 := pk_range ns at' (m := 99) (by decide)
  have r1 := pk_range ns (at' + 1) (m := 5) (by decide)
  have r2 := pk_range ns (at' + 2) (m := 16) (by decide)
  have r3 := pk_range ns (at' + 3) (m := 16) (by decide)
  have r4 := pk_range ns (at' + 4) (m := 8) (by decide)
  have r5 := pk_range ns (at' + 4) (m := 19) (by decide)
  by_cases w0 : pk ns (at' + 1) 5 = 0
  · refine ⟨[1 + pk ns at' 99, 1, pk ns (at' + 2) 16, pk ns (at' + 3) 16, 1 + pk ns (at' + 4) 8], ?_, by simp, by simp, ?_⟩
    · intro x hx
      simp at hx
      omega
    · unfold f_law_frame b_law_frame
      rw [fn_run (by rfl), pick_eq]
      have hx := extend_ref (st := st ++ [.lst [.int (1 + pk ns at' 99), .int 1, .int (pk ns (at' + 2) 16), .int (pk ns (at' + 3) 16)]]) (p := st.length) (xs := [.int (1 + pk ns at' 99), .int 1, .int (pk ns (at' + 2) 16), .int (pk ns (at' + 3) 16)]) (by simp) (zs := [.int (1 + pk ns (at' + 4) 8)]) (sz _ (by simp))
      rw [set1] at hx
      have i0 := isOf_ref (st := st ++ [.lst [.int (1 + pk ns at' 99), .int 1, .int (pk ns (at' + 2) 16), .int (pk ns (at' + 3) 16)]]) (p := st.length) (xs := [.int (1 + pk ns at' 99), .int 1, .int (pk ns (at' + 2) 16), .int (pk ns (at' + 3) 16)]) (by simp)
      have t0 := tuple_ref (st := st ++ [.lst [.int (1 + pk ns at' 99), .int 1, .int (pk ns (at' + 2) 16), .int (pk ns (at' + 3) 16), .int (1 + pk ns (at' + 4) 8)]]) (p := st.length) (xs := [.int (1 + pk ns at' 99), .int 1, .int (pk ns (at' + 2) 16), .int (pk ns (at' + 3) 16), .int (1 + pk ns (at' + 4) 8)]) (by simp)
      have s0 := sumA_ref (st := st ++ [.lst [.int (1 + pk ns at' 99), .int 1, .int (pk ns (at' + 2) 16), .int (pk ns (at' + 3) 16), .int (1 + pk ns (at' + 4) 8)]]) (p := st.length) (xs := [1 + pk ns at' 99, 1, pk ns (at' + 2) 16, pk ns (at' + 3) 16, 1 + pk ns (at' + 4) 8]) (by simp)
      simp -implicitDefEqProofs [p0, p1, w0, p2, p3, p4, i0, hx, t0, s0, fr]
      exact gcR_new (by simp)
  · by_cases w1 : pk ns (at' + 1) 5 = 1
    · obtain ⟨n, hn⟩ : ∃ n : Nat, (n : Int) = 1 + pk ns (at' + 4) 8 := ⟨(1 + pk ns (at' + 4) 8).toNat, by omega⟩
      obtain ⟨d1, d2⟩ := dr_ok (ns := ns) (at' := at') (M := 256) (by decide) (by decide) n
      have e1 := range1_nat (n := n) (by omega)
      refine ⟨[1 + pk ns at' 99, 2, pk ns (at' + 2) 16, pk ns (at' + 3) 16] ++ dr ns at' 256 n, ?_, by simp, by simp; omega, ?_⟩
      · intro x hx
        rcases List.mem_append.mp hx with hx | hx
        · simp at hx; omega
        · exact d1 x hx
      · unfold f_law_frame b_law_frame
        rw [fn_run (by rfl), pick_eq]
        have A := fun s => draw_run h h0 (own := some (.int (1 + pk ns at' 99))) (way := some (.int 1)) (x4 := some (.ref st.length)) (x5 := none) (m := ret (.int 256)) (M := 256) (by decide) (fun _ _ => rfl) n s
        have c0 := catN_ref (st := st ++ [.lst [.int (1 + pk ns at' 99), .int 2, .int (pk ns (at' + 2) 16), .int (pk ns (at' + 3) 16)]]) (p := st.length) (xs := [.int (1 + pk ns at' 99), .int 2, .int (pk ns (at' + 2) 16), .int (pk ns (at' + 3) 16)]) (ys := (dr ns at' 256 n).map .int) (by simp) (sz _ (by simp [d2]; omega))
        generalize dr ns at' 256 n = rest at *
        simp -implicitDefEqProofs [p0, p1, w1, p2, p3, p4, ← hn, e1, wipeE, A, c0]
        have t0 := tuple_ref (st := st ++ [.lst [.int (1 + pk ns at' 99), .int 2, .int (pk ns (at' + 2) 16), .int (pk ns (at' + 3) 16)], .lst (.int (1 + pk ns at' 99) :: .int 2 :: .int (pk ns (at' + 2) 16) :: .int (pk ns (at' + 3) 16) :: rest.map .int)]) (p := st.length + 1) (xs := .int (1 + pk ns at' 99) :: .int 2 :: .int (pk ns (at' + 2) 16) :: .int (pk ns (at' + 3) 16) :: rest.map .int) get2b
        have s0 := sumA_ref (st := st ++ [.lst [.int (1 + pk ns at' 99), .int 2, .int (pk ns (at' + 2) 16), .int (pk ns (at' + 3) 16)], .lst (.int (1 + pk ns at' 99) :: .int 2 :: .int (pk ns (at' + 2) 16) :: .int (pk ns (at' + 3) 16) :: rest.map .int)]) (p := st.length + 1) (xs := (1 + pk ns at' 99) :: 2 :: pk ns (at' + 2) 16 :: pk ns (at' + 3) 16 :: rest) get2b
        have zz : rest.length + 1 + 1 + 1 + 1 + 1 ≤ sizeLine := sz _ (by omega)
        simp -implicitDefEqProofs [t0, s0, fr, zz]
        exact gcR_new (by simp [clL_append, clL_ints])
    · obtain ⟨n, hn⟩ : ∃ n : Nat, (n : Int) = 1 + pk ns (at' + 4) 19 := ⟨(1 + pk ns (at' + 4) 19).toNat, by omega⟩
      obtain ⟨M, hM, m1, m2⟩ : ∃ M : Int, atI [D.int 4, D.int 30, D.int 256] (pk ns (at' + 1) 5 - 2) = some (.int M) ∧ 0 < M ∧ M ≤ 256 := by
        have w : pk ns (at' + 1) 5 - 2 = 0 ∨ pk ns (at' + 1) 5 - 2 = 1 ∨ pk ns (at' + 1) 5 - 2 = 2 := by omega
        rcases w with w | w | w <;> rw [w]
        · exact ⟨4, rfl, by decide, by decide⟩
        · exact ⟨30, rfl, by decide, by decide⟩
        · exact ⟨256, rfl, by decide, by decide⟩
      obtain ⟨d1, d2⟩ := dr_ok (ns := ns) (at' := at') m1 m2 n
      have e1 := range1_nat (n := n) (by omega)
      refine ⟨dr ns at' M n, d1, by omega, by omega, ?_⟩
      unfold f_law_frame b_law_frame
      rw [fn_run (by rfl), pick_eq]
      have A := fun s => draw_run h h0 (own := some (.int (1 + pk ns at' 99))) (way := some (.int (pk ns (at' + 1) 5))) (x4 := none) (x5 := some (.int M)) (m := mvar 5) (M := M) m1 (fun _ _ => rfl) n s
      generalize dr ns at' M n = rest at *
      have t0 := tuple_ref (st := st ++ [.lst (rest.map .int)]) (p := st.length) (xs := rest.map .int) (by simp)
      have s0 := sumA_ref (st := st ++ [.lst (rest.map .int)]) (p := st.length) (xs := rest) (by simp)
      have zz : rest.length + 1 ≤ sizeLine := sz _ (by omega)
      simp -implicitDefEqProofs [p0, p1, w0, w1, hM, p2, p3, p5, ← hn, e1, wipeE, A, t0, s0, fr, zz]
      exact gcR_new (by simp [clL_append, clL_ints])
end K73
namespace K73
open PySem PySem.Spec PyProof.Rows L2 Ly
theorem cut_last {α : Type} (xs : List α) (a : α) : cut (xs ++ [a]) none (some (-1)) = xs := by
  unfold cut
  rw [HT.sIx_none, List.drop_zero, Nat.sub_zero]
  have : HT.sIx (xs ++ [a]).length (xs ++ [a]).length (some (-1)) = xs.length := by
    unfold HT.sIx
    simp
    omega
  rw [this, List.take_left]
theorem sum_set (xs : List Int) (i : Nat) (a : Int) (h : i < xs.length) : (xs.set i a).sum = xs.sum - xs[i] + a := by
  induction xs generalizing i with
  | nil => cases h
  | cons x r ih =>
    cases i with
    | zero => simp; omega
    | succ i =>
      have := ih i (by simpa using h)
      simp only [List.set_cons_succ, List.sum_cons, List.getElem_cons_succ, this]
      omega
theorem swap_sum (xs : List Int) (i j : Nat) (hi : i < xs.length) (hj : j < xs.length) : ((xs.set i xs[j]).set j xs[i]).sum = xs.sum := by
  rw [sum_set _ _ _ (by rw [List.length_set]; exact hj), sum_set _ _ _ hi, List.getElem_set]
  split
  · subst_vars; omega
  · omega
theorem swap_byt {xs : List Int} (h : Byt xs) (i j : Nat) (hi : i < xs.length) (hj : j < xs.length) : Byt ((xs.set i xs[j]).set j xs[i]) := by
  intro x hx
  rcases List.mem_or_eq_of_mem_set hx with hx | hx
  · rcases List.mem_or_eq_of_mem_set hx with hx | hx
    · exact h x hx
    · rw [hx]; exact h _ (List.getElem_mem hj)
  · rw [hx]; exact h _ (List.getElem_mem hi)
def spoil (xs : List Int) (i : Nat) (b : Int) : List Int := xs.take i ++ [(xs.getD i 0 + b) % 256] ++ xs.drop (i + 1)
theorem spoil_set (xs : List Int) (i : Nat) (b : Int) (h : i < xs.length) : spoil xs i b = xs.set i ((xs.getD i 0 + b) % 256) := by
  unfold spoil
  rw [List.set_eq_take_append_cons_drop, if_pos h, List.append_assoc]
  rfl
theorem var_set (xs : List Int) (i : Nat) (h : i < xs.length) : var xs i = xs.set i ((xs.getD i 0 - xs.sum) % 256) := by
  unfold var
  rw [List.set_eq_take_append_cons_drop, if_pos h, List.append_assoc]
  rfl
theorem getD_at (xs : List Int) (i : Nat) (h : i < xs.length) : xs.getD i 0 = xs[i] := by rw [List.getD_eq_getElem?_getD, List.getElem?_eq_getElem h]; rfl
theorem diff_set (xs : List Int) (i : Nat) (a : Int) (h : i < xs.length) (hne : xs[i] ≠ a) : diff xs (xs.set i a) = 1 := by
  unfold diff
  have same : ∀ l : List Int, (l.zip l).filter (fun p => !decide (p.1 = p.2)) = [] := fun l => by
    induction l with
    | nil => rfl
    | cons x r ih => rw [List.zip_cons_cons, List.filter_cons_of_neg (by simp)]; exact ih
  induction xs generalizing i with
  | nil => cases h
  | cons x r ih =>
    cases i with
    | zero =>
      have hx : x ≠ a := by simpa using hne
      rw [List.set_cons_zero, List.zip_cons_cons, List.filter_cons_of_pos (by simp [hx]), same]
      rfl
    | succ i =>
      rw [List.set_cons_succ, List.zip_cons_cons, List.filter_cons_of_neg (by simp)]
      exact ih i (by simpa using h) (by simpa using hne)
structure Spoilt (F Z : List Int) (i : Nat) : Prop where
  byt : Byt Z
  len : Z.length = F.length
  bad : isF Z = false
  back : F ∈ vars Z Z.length
  one : diff F Z = 1
theorem spoilt {F : List Int} (f : Frame F) (i : Nat) (h : i < F.length) (b : Int) (h1 : 1 ≤ b) (h2 : b ≤ 255) : Spoilt F (spoil F i b) i := by
  have hb := f.byt _ (List.getElem_mem h)
  have hs := f.sum
  have e := getD_at F i h
  rw [spoil_set F i b h, e]
  have len : (F.set i ((F[i] + b) % 256)).length = F.length := List.length_set
  have sm := sum_set F i ((F[i] + b) % 256) h
  refine ⟨fun x hx => ?_, len, ?_, ?_, diff_set F i _ h (by omega)⟩
  · rcases List.mem_or_eq_of_mem_set hx with hx | hx
    · exact f.byt x hx
    · omega
  · unfold isF
    have : ¬ (F.set i ((F[i] + b) % 256)).sum % 256 = 0 := by omega
    rw [decide_eq_false this, Bool.and_false]
  · unfold vars
    refine List.mem_map.mpr ⟨i, List.mem_range.mpr (by omega), ?_⟩
    rw [var_set _ _ (by omega), getD_at _ _ (by omega), List.getElem_set_self, List.set_set, sm]
    have : ((F[i] + b) % 256 - (F.sum - F[i] + (F[i] + b) % 256)) % 256 = F[i] := by omega
    rw [this, List.set_getElem_self]
theorem rev_frame {F : List Int} (f : Frame F) : Frame F.reverse := ⟨fun x hx => f.byt x (List.mem_reverse.mp hx), by rw [List.length_reverse]; exact f.l2, by rw [List.length_reverse]; exact f.l20, by rw [List.sum_reverse]; exact f.sum⟩
end K73
namespace K73
open PySem PySem.Spec PyProof.Rows L2 Ly
@[simp] theorem ne_bl (a b : Bool) (g : Sto) : opNe (.bl a) (.bl b) g = some (.bl (!decide (a = b)), g) := rfl
theorem subX_run (o k : M D) (x : D) (e : Ev) (st : Sto) : subX o k x e st = (o e st).toS e fun y st1 => (k e st1).toS e fun z st2 => match y, z with
  | .ref i, .int j => (match st2[i]? with
    | some (.lst xs) => (match ixN xs.length j with
      | some n => .nx e (st2.set i (.lst (xs.set n x)))
      | none => .bad)
    | _ => .bad)
  | _, _ => .bad := by
  unfold subX
  rw [mk_run]
  all_goals congr
theorem msub2_run (c o1 k1 o2 k2 : M D) (e : Ev) (st : Sto) : msub2 c o1 k1 o2 k2 e st = (c e st).toS e fun d st1 => match d with
  | .tup [x, y] => (subX o1 k1 x e st1).thn (subX o2 k2 y)
  | _ => .bad := by
  unfold msub2
  rw [mk_run]
  all_goals first | rfl | (congr; funext d st1; split <;> first | rw [mthen_run] | rfl)
theorem notIn_run (F : List Int) (L : List (List Int)) (h : F ∈ L) (g : Sto) (hf : (D.tup (F.map .int)).good) (hL : (D.lst (L.map tupD)).good) : opNotInA (.tup (F.map .int)) (.lst (L.map tupD)) g = some (.bl false, g) := by
  have flat : opNotIn (.tup (F.map .int)) (.lst (L.map tupD)) g = none := by rfl
  unfold opNotInA
  rw [flat]
  show inD true _ _ g = _
  unfold inD
  rw [top_lst]
  dsimp only
  rw [top_tup, if_pos (by simp [hf.1, hL.1, pl_ns hf.2, pl_ns hL.2])]
  have : ((L.map tupD).any fun z => D.eq z (.tup (F.map .int))) = true := by
    refine List.any_eq_true.mpr ⟨tupD F, List.mem_map.mpr ⟨F, h, rfl⟩, ?_⟩
    show D.eq (.tup (F.map .int)) (.tup (F.map .int)) = true
    rw [pl_eq hf.2 hf.2]
    simp
  rw [this]
  rfl
theorem good_tups (L : List (List Int)) : (D.lst (L.map tupD)).good := by
  refine ⟨?_, ?_⟩
  · show (decide (0 < 60) && D.okL 59 _) = true
    rw [okL_all 59 _ (fun x hx => by
      obtain ⟨a, _, rfl⟩ := List.mem_map.mp hx
      show (decide (0 < 59) && D.okL 58 _) = true
      rw [okL_all 58 _ (fun x hx => by obtain ⟨a, _, rfl⟩ := List.mem_map.mp hx; simp [D.ok])]; rfl)]
    rfl
  · show D.plL _ = true
    exact plL_all _ fun x hx => by
      obtain ⟨a, _, rfl⟩ := List.mem_map.mp hx
      exact (good_intsT a).2
theorem law_true (ns : List Int) (h : ns.length ≤ 63) : ∃ st, f_law [.scr ns] [] = .ok (.bl true) st := by
  refine ⟨[], ?_⟩
  unfold f_law b_law
  rw [fn_run (by rfl), pick_eq]
  have hP : ∀ (k m : Int) (st : Sto), 0 ≤ k → 0 < m → stdPick [.scr ns, .int k, .int m] st = .ok (.int (pk ns k m)) st := fun k m st hk hm => pick_run hk hm (scr_ok h)
  obtain ⟨ps, q1, q2, q3, l1⟩ := lf_run h (at' := 10) (by decide) []
  obtain ⟨os, o1, o2, o3, l2⟩ := lf_run h (at' := 70) (by decide) []
  have f := fr_frame q1 q2 q3
  have o := fr_frame o1 o2 o3
  have c1 : cut ((fr ps).map D.int) none (some (-1)) = ps.map .int := by rw [cut_map]; unfold fr; rw [cut_last]
  have g1 := framed_tup q1 q2 q3 []
  have g2 := framed_lst q1 q2 q3 []
  rw [fr_sum] at g1 g2
  have b1 := frame_tup f.byt []
  rw [f.isF] at b1
  have ne1 : opNe (.tup ((fr ps).map .int)) (.tup ((fr ps).map .int)) [] = some (.bl false, []) := by rw [ne_tup (good_intsT _) (good_intsT _)]; simp
  generalize fr ps = F at *
  generalize fr os = O at *
  have fl2 := f.l2
  have fl20 := f.l20
  have pl : ∀ k : Int, 0 ≤ k → ∃ i : Nat, pk ns k F.length = (i : Int) ∧ i < F.length := fun k hk => by
    have := pk_range ns k (m := F.length) (by omega)
    exact ⟨(pk ns k F.length).toNat, by omega, by omega⟩
  obtain ⟨i, ei, hi⟩ := pl 60 (by decide)
  obtain ⟨j1, ej1, hj1⟩ := pl 62 (by decide)
  obtain ⟨j2, ej2, hj2⟩ := pl 63 (by decide)
  have rb := pk_range ns 61 (m := 255) (by decide)
  have p60 : ∀ s, _ := fun s => hP 60 F.length s (by decide) (by omega)
  have p61 : ∀ s, _ := fun s => hP 61 255 s (by decide) (by decide)
  have p62 : ∀ s, _ := fun s => hP 62 F.length s (by decide) (by omega)
  have p63 : ∀ s, _ := fun s => hP 63 F.length s (by decide) (by omega)
  rw [ei] at p60
  rw [ej1] at p62
  rw [ej2] at p63
  have S := spoilt f i hi (1 + pk ns 61 255) (by omega) (by omega)
  have c2 : cut (F.map D.int) none (some (i : Int)) = (F.take i).map .int := by rw [cut_map, cut_to]
  have c3 : cut (F.map D.int) (some ((i : Int) + 1)) none = (F.drop (i + 1)).map .int := by rw [cut_map]; exact congrArg _ (cut_from F (i + 1))
  have x1 : atI (F.map D.int) (i : Int) = some (.int (F.getD i 0)) := atI_map F i (by omega) (by omega)
  have z1 : (F.take i).length + 1 ≤ sizeLine := sz _ (by rw [List.length_take]; omega)
  have z2 : (F.take i).length + 1 + (F.drop (i + 1)).length ≤ sizeLine := sz _ (by rw [List.length_take, List.length_drop]; omega)
  have zt : (F.take i).map D.int ++ [.int ((F.getD i 0 + (1 + pk ns 61 255)) % 256)] ++ (F.drop (i + 1)).map D.int = (spoil F i (1 + pk ns 61 255)).map .int := by unfold spoil; rw [List.map_append, List.map_append]; rfl
  generalize spoil F i (1 + pk ns 61 255) = Z at *
  have b2 := frame_tup S.byt []
  rw [S.bad] at b2
  have nf := nearf_run S.byt (by rw [S.len]; exact fl2) (by rw [S.len]; exact fl20) S.bad []
  have ni := notIn_run F ((vars Z Z.length).mergeSort ordT) (List.mem_mergeSort.mpr S.back) [] (good_intsT F) (good_tups _)
  have un := unlike_run f.byt S.byt S.len fl2 fl20 []
  rw [S.one] at un
  have bo : Byt (F ++ O) := fun x hx => by
    rcases List.mem_append.mp hx with hx | hx
    · exact f.byt x hx
    · exact o.byt x hx
  have b3 := frame_tup bo []
  have b3' : isF (F ++ O) = decide (((F.length : Int) + (O.length : Int)) ≤ 20) := by
    unfold isF
    have s : (F ++ O).sum % 256 = 0 := by rw [List.sum_append]; have := f.sum; have := o.sum; omega
    rw [decide_eq_true s, Bool.and_true, List.length_append, decide_eq_true (show (2 : Int) ≤ ((F.length + O.length : Nat) : Int) by omega), Bool.true_and]
    congr 1
  rw [b3', List.map_append] at b3
  have zo : F.length + O.length ≤ sizeLine := sz _ (by have := o.l20; omega)
  have b4 := frame_lst F []
  have x2 : atI (F.map D.int) (j1 : Int) = some (.int F[j1]) := by rw [← getD_at F j1 hj1]; exact atI_map F j1 (by omega) (by omega)
  have x3 : atI (F.map D.int) (j2 : Int) = some (.int F[j2]) := by rw [← getD_at F j2 hj2]; exact atI_map F j2 (by omega) (by omega)
  have o2' := opIx_ref (st := [.lst (F.map .int)]) (p := 0) rfl (j1 : Int)
  have o3' := opIx_ref (st := [.lst (F.map .int)]) (p := 0) rfl (j2 : Int)
  rw [x2] at o2'
  rw [x3] at o3'
  have sb := swap_byt f.byt j1 j2 hj1 hj2
  have ss := swap_sum F j1 j2 hj1 hj2
  have sF : Frame ((F.set j1 F[j2]).set j2 F[j1]) := ⟨sb, by simp; exact fl2, by simp; exact fl20, by rw [ss]; exact f.sum⟩
  have b5 := fun g => frame_tup sF.byt g
  rw [sF.isF] at b5
  have b6 := fun g => frame_tup (rev_frame f).byt g
  rw [(rev_frame f).isF] at b6
  simp only [List.map_reverse] at b6
  simp -implicitDefEqProofs [l1, b1, c1, g1, g2, ne1, p60, p61, c2, c3, x1, z1, z2, -List.map_take, -List.map_drop, -List.length_take, -List.length_drop, -List.append_assoc, -List.getD_eq_getElem?_getD]
  rw [zt]
  simp -implicitDefEqProofs [b2, nf, ni, un, l2, b3, zo, b4, opLe, -List.map_append, -List.append_assoc]
  have t5 := tuple_ref (st := [.lst (((F.map D.int).set j1 (.int F[j2])).set j2 (.int F[j1]))]) (p := 0) rfl
  have i1 : ixN F.length (j1 : Int) = some j1 := ixN_at hj1
  have i2 : ixN F.length (j2 : Int) = some j2 := ixN_at hj2
  rw [List.map_set, List.map_set] at b5
  have b7 : f_is_frame [.lst (F.map .int)] [] = .ok (.bl false) [] := b4
  simp -implicitDefEqProofs [b7, p62, p63, msub2_run, subX_run, o2', o3', i1, i2, t5, b5, b6]
  exact gcR_new (st := []) (by simp)
end K73
set_option maxHeartbeats 400000
open PySem PySem.W PyProof.Rows
set_option maxRecDepth 100000 in
set_option maxHeartbeats 0 in
theorem PySem.Challenge.cw_lineasks_k73_whole_frames_held_holds : PySem.Challenge.rw_lineasks_k73_whole_frames_held.Holds := by
  w_on; o_law; k_head; (case hw => w_witness2)
  k_fill
  refine L2.walk_of (l := PySem.Challenge.rw_lineasks_k73_whole_frames_held) (n := 63) (k := 6) (x := "_law_script") (CX := fun w => L2.CX PySem.Challenge.rw_lineasks_k73_whole_frames_held.prog w) (sp := fun w => Ly.spLaw _ K73.f_law) rfl (by decide) rfl ⟨rfl, by decide, by decide⟩ (fun w h Y => PySem.W.kIn_of Y) ?F (fun _ _ a ns hl hO hS => Ly.law_sp (K73.law_true ns hl) hl hO hS) (fun _ _ _ _ _ h => Ly.no_cx h)
  case F =>
    intro w mg fa h KX G hmg
    have q_b_all : mg "all" = none := by
      refine' PySem.W.mg_none_of KX G ?z; (case z => k_is)
    have q_b_bool : mg "bool" = none := by
      refine' PySem.W.mg_none_of KX G ?z; (case z => k_is)
    have q_b_enumerate : mg "enumerate" = none := by
      refine' PySem.W.mg_none_of KX G ?z; (case z => k_is)
    have q_b_int : mg "int" = none := by
      refine' PySem.W.mg_none_of KX G ?z; (case z => k_is)
    have q_b_isinstance : mg "isinstance" = none := by
      refine' PySem.W.mg_none_of KX G ?z; (case z => k_is)
    have q_b_len : mg "len" = none := by
      refine' PySem.W.mg_none_of KX G ?z; (case z => k_is)
    have q_b_list : mg "list" = none := by
      refine' PySem.W.mg_none_of KX G ?z; (case z => k_is)
    have q_b_max : mg "max" = none := by
      refine' PySem.W.mg_none_of KX G ?z; (case z => k_is)
    have q_b_range : mg "range" = none := by
      refine' PySem.W.mg_none_of KX G ?z; (case z => k_is)
    have q_b_sorted : mg "sorted" = none := by
      refine' PySem.W.mg_none_of KX G ?z; (case z => k_is)
    have q_b_sum : mg "sum" = none := by
      refine' PySem.W.mg_none_of KX G ?z; (case z => k_is)
    have q_b_tuple : mg "tuple" = none := by
      refine' PySem.W.mg_none_of KX G ?z; (case z => k_is)
    have q_b_zip : mg "zip" = none := by
      refine' PySem.W.mg_none_of KX G ?z; (case z => k_is)
    have q_c_LONGEST : ∃ t, mg "LONGEST" = some (.int 20 t) := by
      refine' Ly.glI_mk KX G ?z; (case z => k_is)
    refine' Ly.useF (Ly.excF_mk (x := "NoFrame") KX G ?a ?e ?k ?s ?t) ?r_NoFrame
    (case a => k_is); (case e => k_exc); (case k => k_is); (case s => k_is); (case t => k_is)
    intro q_x_NoFrame
    refine' Ly.useF (Ly.stF_mk (x := "is_whole") (qual := "is_whole") (st := K73.s_is_whole) (ps := ["thing", "low", "high"]) KX G ?a ?l ?c ?k (fun _ _ _ _ _ _ us hl => match us, hl with | [_, _, _], _ => rfl)) ?r_is_whole
    (case a => k_is); (case l => k_is); (case c => k_is); (case k => k_is)
    intro q_F_is_whole
    refine' Ly.useF (Ly.stF_mk (x := "are_bytes") (qual := "are_bytes") (st := K73.s_are_bytes) (ps := ["thing", "low", "high"]) KX G ?a ?l ?c ?k (fun _ _ _ _ _ _ us hl => match us, hl with | [_, _, _], _ => rfl)) ?r_are_bytes
    (case a => k_is); (case l => k_is); (case c => k_is); (case k => k_is)
    intro q_F_are_bytes
    refine' Ly.useF (Ly.stF_mk (x := "is_frame") (qual := "is_frame") (st := K73.s_is_frame) (ps := ["thing"]) KX G ?a ?l ?c ?k (fun _ _ _ _ _ _ us hl => match us, hl with | [_], _ => rfl)) ?r_is_frame
    (case a => k_is); (case l => k_is); (case c => k_is); (case k => k_is)
    intro q_F_is_frame
    refine' Ly.useF (Ly.stF_mk (x := "framed") (qual := "framed") (st := K73.s_framed) (ps := ["parts"]) KX G ?a ?l ?c ?k (fun _ _ _ _ _ _ us hl => match us, hl with | [_], _ => rfl)) ?r_framed
    (case a => k_is); (case l => k_is); (case c => k_is); (case k => k_is)
    intro q_F_framed
    refine' Ly.useF (Ly.stF_mk (x := "look_parts") (qual := "look_parts") (st := K73.s_look_parts) (ps := ["parts"]) KX G ?a ?l ?c ?k (fun _ _ _ _ _ _ us hl => match us, hl with | [_], _ => rfl)) ?r_look_parts
    (case a => k_is); (case l => k_is); (case c => k_is); (case k => k_is)
    intro q_F_look_parts
    refine' Ly.useF (Ly.stF_mk (x := "unlike") (qual := "unlike") (st := K73.s_unlike) (ps := ["one", "other"]) KX G ?a ?l ?c ?k (fun _ _ _ _ _ _ us hl => match us, hl with | [_, _], _ => rfl)) ?r_unlike
    (case a => k_is); (case l => k_is); (case c => k_is); (case k => k_is)
    intro q_F_unlike
    refine' Ly.useF (Ly.stF_mk (x := "near_of") (qual := "near_of") (st := K73.s_near_of) (ps := ["parts"]) KX G ?a ?l ?c ?k (fun _ _ _ _ _ _ us hl => match us, hl with | [_], _ => rfl)) ?r_near_of
    (case a => k_is); (case l => k_is); (case c => k_is); (case k => k_is)
    intro q_F_near_of
    refine' Ly.useF (Ly.stF_mk (x := "near_frames") (qual := "near_frames") (st := K73.s_near_frames) (ps := ["parts"]) KX G ?a ?l ?c ?k (fun _ _ _ _ _ _ us hl => match us, hl with | [_], _ => rfl)) ?r_near_frames
    (case a => k_is); (case l => k_is); (case c => k_is); (case k => k_is)
    intro q_F_near_frames
    refine' Ly.useF (Ly.stF_mk (x := "_law_cell") (qual := "_law_cell") (st := K73.s_law_cell) (ps := ["_law_script", "_law_k"]) KX G ?a ?l ?c ?k (fun _ _ _ _ _ _ us hl => match us, hl with | [_, _], _ => rfl)) ?r_law_cell
    (case a => k_is); (case l => k_is); (case c => k_is); (case k => k_is)
    intro q_F_law_cell
    refine' Ly.useF (Ly.stF_mk (x := "_law_pick") (qual := "_law_pick") (st := K73.s_law_pick) (ps := ["_law_script", "_law_k", "_law_many"]) KX G ?a ?l ?c ?k (fun _ _ _ _ _ _ us hl => match us, hl with | [_, _, _], _ => rfl)) ?r_law_pick
    (case a => k_is); (case l => k_is); (case c => k_is); (case k => k_is)
    intro q_F_law_pick
    refine' Ly.useF (Ly.stF_mk (x := "_law_frame") (qual := "_law_frame") (st := K73.s_law_frame) (ps := ["_law_script", "_law_at"]) KX G ?a ?l ?c ?k (fun _ _ _ _ _ _ us hl => match us, hl with | [_, _], _ => rfl)) ?r_law_frame
    (case a => k_is); (case l => k_is); (case c => k_is); (case k => k_is)
    intro q_F_law_frame
    refine' Exists.elim (Ly.lawF_mk (x := "law") (qual := "law") (st := K73.s_law) (p := "_law_script") KX G ?a ?l ?c ?k (fun _ _ _ _ _ _ us hl => match us, hl with | [_], _ => rfl)) ?r
    (case a => k_is); (case l => k_is); (case c => k_is); (case k => k_is)
    intro fl hfl
    obtain ⟨fdl, hF, hg, hb, hbd⟩ := hfl
    have T : K73.Txt (L2.KOf KX) mg := ⟨q_b_all, q_b_bool, q_b_enumerate, q_b_int, q_b_isinstance, q_b_len, q_b_list, q_b_max, q_b_range, q_b_sorted, q_b_sum, q_b_tuple, q_b_zip, q_c_LONGEST, q_x_NoFrame, q_F_is_whole, q_F_are_bytes, q_F_is_frame, q_F_framed, q_F_look_parts, q_F_unlike, q_F_near_of, q_F_near_frames, q_F_law_cell, q_F_law_pick, q_F_law_frame, ⟨⟨fl, fdl, hF, hg, hb⟩⟩⟩
    have e := hmg.symm.trans hg
    cases e
    refine ⟨fdl, hbd, fun base _ _ => Ly.law_fn rfl fun S ns => K73.ok_lawF T hF⟩
