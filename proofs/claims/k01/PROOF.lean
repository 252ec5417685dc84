import PyProof.Rows.All
import HandS.ForMost
import HandS.ForExc
import HandS.IsInst
import HandS.Zip
import HandS.CallSlots
import HandS.Lambda
import HandS.TupAny
import HandS.TupMul
import HandS.TupLe
import HandS.Flow
import HandS.Text
import HandS.SortInts
import HandS.Conv
import HandS.Iter
import HandS.Comp
import HandS.Exc
import HandS.ExcOwn
import HandS.WordsExc
import HandS.Ends
import HandS.Style
import HandS.Wide
import HandS.Deep
import HandS.TupSets
import KE.KTupSum
import KE.GoesEnum
import HandS.SetFor
import HandS.Replace
import HandS.ExcIs
import HandS.HotCalls
import HandS.EndTab
import KE.KNestM
import PySem.Challenge.RW_lineasks_k01_frames
set_option Elab.async false
set_option linter.all false
set_option maxRecDepth 100000
set_option maxHeartbeats 4000000
/-! Data, store, worlds: what a value of the machine stands for. -/
namespace Ly
open PySem PySem.Spec PyProof.Rows L2

inductive D where
  | non | bl (b : Bool) | int (i : Int) | str (s : Str)
  | tup (xs : List D) | lst (xs : List D) | dic (ks : List Key) (xs : List D)
  | ref (i : Nat) | exc (c : Str) | scr (ns : List Int) | thk | glo (x : Str)
  deriving Inhabited

mutual
def D.beq : D → D → Bool
  | .non, .non => true
  | .bl a, .bl b => a == b
  | .int a, .int b => a == b
  | .str a, .str b => decide (a = b)
  | .tup a, .tup b => D.beqL a b
  | .lst a, .lst b => D.beqL a b
  | .dic k a, .dic l b => decide (k = l) && D.beqL a b
  | .ref a, .ref b => a == b
  | .exc a, .exc b => decide (a = b)
  | .scr a, .scr b => decide (a = b)
  | .thk, .thk => true
  | .glo a, .glo b => decide (a = b)
  | _, _ => false
def D.beqL : List D → List D → Bool
  | [], [] => true
  | x :: xs, y :: ys => D.beq x y && D.beqL xs ys
  | _, _ => false
end
mutual
theorem D.eq_of_beq : ∀ {a b : D}, D.beq a b = true → a = b
  | .non, b, h => by cases b <;> simp [D.beq] at h <;> rfl
  | .bl x, b, h => by cases b <;> simp [D.beq] at h; rw [h]
  | .int x, b, h => by cases b <;> simp [D.beq] at h; rw [h]
  | .str x, b, h => by cases b <;> simp [D.beq] at h; rw [h]
  | .tup x, b, h => by cases b <;> simp [D.beq] at h; rw [D.eq_of_beqL h]
  | .lst x, b, h => by cases b <;> simp [D.beq] at h; rw [D.eq_of_beqL h]
  | .dic k x, b, h => by cases b <;> simp [D.beq] at h; rw [h.1, D.eq_of_beqL h.2]
  | .ref x, b, h => by cases b <;> simp [D.beq] at h; rw [h]
  | .exc x, b, h => by cases b <;> simp [D.beq] at h; rw [h]
  | .scr x, b, h => by cases b <;> simp [D.beq] at h; rw [h]
  | .thk, b, h => by cases b <;> simp [D.beq] at h <;> rfl
  | .glo x, b, h => by cases b <;> simp [D.beq] at h; rw [h]
theorem D.eq_of_beqL : ∀ {a b : List D}, D.beqL a b = true → a = b
  | [], b, h => by cases b <;> simp [D.beqL] at h; rfl
  | x :: xs, b, h => by
    cases b with
    | nil => simp [D.beqL] at h
    | cons y ys =>
      simp [D.beqL] at h
      rw [D.eq_of_beq h.1, D.eq_of_beqL h.2]
end
mutual
theorem D.beq_self : ∀ a : D, D.beq a a = true
  | .non => by simp [D.beq]
  | .bl x => by simp [D.beq]
  | .int x => by simp [D.beq]
  | .str x => by simp [D.beq]
  | .tup x => by simp [D.beq, D.beqL_self x]
  | .lst x => by simp [D.beq, D.beqL_self x]
  | .dic k x => by simp [D.beq, D.beqL_self x]
  | .ref x => by simp [D.beq]
  | .exc x => by simp [D.beq]
  | .scr x => by simp [D.beq]
  | .thk => by simp [D.beq]
  | .glo x => by simp [D.beq]
theorem D.beqL_self : ∀ a : List D, D.beqL a a = true
  | [] => by simp [D.beqL]
  | x :: xs => by simp [D.beqL, D.beq_self x, D.beqL_self xs]
end
instance : DecidableEq D := fun a b => if h : D.beq a b = true then .isTrue (D.eq_of_beq h) else .isFalse (fun e => h (e ▸ D.beq_self a))

/- no place at or beyond n is named -/
mutual
def D.cl (n : Nat) : D → Bool
  | .ref i => decide (i < n)
  | .tup xs => D.clL n xs
  | .lst xs => D.clL n xs
  | .dic _ xs => D.clL n xs
  | _ => true
def D.clL (n : Nat) : List D → Bool
  | [] => true
  | x :: xs => D.cl n x && D.clL n xs
end

/-- what stands at a place -/
inductive Cell where
  | lst (xs : List D)
  | ins (c : Str) (ks : List Str) (xs : List D)
  | dct (ks : List Key) (xs : List D)
  | dtt (ks : List (List Key)) (xs : List D)
  deriving DecidableEq, Inhabited
def Cell.cl (n : Nat) : Cell → Bool
  | .lst xs => D.clL n xs
  | .ins _ _ xs => D.clL n xs
  | .dct _ xs => D.clL n xs
  | .dtt _ xs => D.clL n xs
abbrev Sto := List Cell
abbrev Ev := List (Option D)

/-- a heap with the places' addresses and the addresses of the lists that nobody changes -/
structure Bd where
  H : Hp
  m : List Addr
  F : Addr → Prop
  /-- what stands where nobody of ours looks -/
  Z : List (Addr × HO) := []
/-- what is fixed: the written part, the module's names, the script's place and its ints; the tables of code objects; in a def that got a thunk the caller's world and the thunk's place -/
structure Ctx where
  K : PySem.W.Frag
  mg : Str → Option Value
  S : Addr
  ns : List Int
  T : List (Addr × Str)
  up : Option (Bd × Addr)
/-- an exception's object of the class cls, at a -/
def ExT (cls : Value) (a : Addr) : HO := .ext fun h => ∃ (oe : Obj) (vs : Array Value), h.get? a = some oe ∧ Zc cls none oe ∧ oe.data = .fields vs
/-- what a cell is -/
def MutC : HO → Prop
  | .lst _ => True
  | .ins _ _ _ => True
  | .dK _ => True
  | .dT _ => True
  | _ => False
/-- no table -/
def NoTb (o : HO) : Prop := ∀ ps, o ≠ .tbl ps

mutual
def Rep (C : Ctx) (B : Bd) : D → V → Prop
  | .non, v => v = .non
  | .bl b, v => v = .bl b
  | .int i, v => v = .int i
  | .str s, v => v = .str s
  | .tup ds, v => ∃ a vs, v = .ref a ∧ vs.length ≤ sizeLine ∧ SqT C.K B.H a vs ∧ RepL C B ds vs
  | .lst ds, v => ∃ a vs, v = .ref a ∧ vs.length ≤ sizeLine ∧ (B.F a ∧ B.H a = some (.lst vs)) ∧ RepL C B ds vs
  | .dic ks ds, v => ∃ a kvs, v = .ref a ∧ B.F a ∧ B.H a = some (.dK kvs) ∧ kvs.map (·.1) = ks ∧ RepL C B ds (kvs.map (·.2))
  | .ref i, v => ∃ a, B.m[i]? = some a ∧ v = .ref a
  | .exc c, v => ∃ a Ca, v = .ref a ∧ B.F a ∧ C.mg c = some (.ref Ca) ∧ B.H a = some (ExT (.ref Ca) a)
  | .scr ns, v => ns = C.ns ∧ v = .ref C.S
  | .thk, v => ∃ p, C.up = some p ∧ v = .ref p.2
  | .glo x, v => ∃ a, C.mg x = some (.ref a) ∧ v = .ref a
def RepL (C : Ctx) (B : Bd) : List D → List V → Prop
  | [], vs => vs = []
  | d :: ds, vs => ∃ v r, vs = v :: r ∧ Rep C B d v ∧ RepL C B ds r
end

structure Kp (C : Ctx) (B B' : Bd) : Prop where
  tup : ∀ a vs, SqT C.K B.H a vs → SqT C.K B'.H a vs
  fz : ∀ a, B.F a → B'.F a ∧ ∀ o, B.H a = some o → B'.H a = some o
  mm : ∀ (i : Nat) (a : Addr), B.m[i]? = some a → B'.m[i]? = some a
structure Ext (C : Ctx) (B B' : Bd) : Prop where
  tup : ∀ a vs, SqT C.K B.H a vs → SqT C.K B'.H a vs
  fz : ∀ a, B.F a → B'.F a ∧ ∀ o, B.H a = some o → B'.H a = some o
  mm : ∀ (i : Nat) (a : Addr), B.m[i]? = some a → B'.m[i]? = some a
  zz : B'.Z = B.Z
theorem Ext.refl (C : Ctx) (B : Bd) : Ext C B B := ⟨fun _ _ h => h, fun _ h => ⟨h, fun _ h => h⟩, fun _ _ h => h, rfl⟩
theorem Ext.trans {C : Ctx} {A B D : Bd} (a : Ext C A B) (b : Ext C B D) : Ext C A D :=
  ⟨fun x v h => b.tup x v (a.tup x v h), fun x h => ⟨(b.fz x (a.fz x h).1).1, fun o e => (b.fz x (a.fz x h).1).2 o ((a.fz x h).2 o e)⟩, fun i x h => b.mm i x (a.mm i x h), b.zz.trans a.zz⟩

section
variable {C : Ctx} {B B' : Bd}
mutual
theorem Rep.monoK (x : Kp C B B') : ∀ {d : D} {v : V}, Rep C B d v → Rep C B' d v
  | .non, v, h => by unfold Rep at h ⊢; exact h
  | .bl b, v, h => by unfold Rep at h ⊢; exact h
  | .int b, v, h => by unfold Rep at h ⊢; exact h
  | .str b, v, h => by unfold Rep at h ⊢; exact h
  | .tup ds, v, h => by
    unfold Rep at h ⊢
    obtain ⟨a, vs, e, z, q, r⟩ := h
    exact ⟨a, vs, e, z, x.tup _ _ q, RepL.monoK x r⟩
  | .lst ds, v, h => by
    unfold Rep at h ⊢
    obtain ⟨a, vs, e, z, q, r⟩ := h
    exact ⟨a, vs, e, z, ⟨(x.fz a q.1).1, (x.fz a q.1).2 _ q.2⟩, RepL.monoK x r⟩
  | .dic ks ds, v, h => by
    unfold Rep at h ⊢
    obtain ⟨a, kvs, e, q, q2, k, r⟩ := h
    exact ⟨a, kvs, e, (x.fz a q).1, (x.fz a q).2 _ q2, k, RepL.monoK x r⟩
  | .ref i, v, h => by
    unfold Rep at h ⊢
    obtain ⟨a, q, e⟩ := h
    exact ⟨a, x.mm i a q, e⟩
  | .exc c, v, h => by
    unfold Rep at h ⊢
    obtain ⟨a, Ca, e, q, g, q2⟩ := h
    exact ⟨a, Ca, e, (x.fz a q).1, g, (x.fz a q).2 _ q2⟩
  | .scr c, v, h => by unfold Rep at h ⊢; exact h
  | .thk, v, h => by unfold Rep at h ⊢; exact h
  | .glo c, v, h => by unfold Rep at h ⊢; exact h
theorem RepL.monoK (x : Kp C B B') : ∀ {ds : List D} {vs : List V}, RepL C B ds vs → RepL C B' ds vs
  | [], vs, h => by unfold RepL at h ⊢; exact h
  | d :: ds, vs, h => by
    unfold RepL at h ⊢
    obtain ⟨v, r, e, q, t⟩ := h
    exact ⟨v, r, e, Rep.monoK x q, RepL.monoK x t⟩
end

theorem Rep.mono (x : Ext C B B') {d : D} {v : V} (h : Rep C B d v) : Rep C B' d v := h.monoK ⟨x.tup, x.fz, x.mm⟩
theorem RepL.mono (x : Ext C B B') {d : List D} {v : List V} (h : RepL C B d v) : RepL C B' d v := h.monoK ⟨x.tup, x.fz, x.mm⟩
theorem RepL.nil : RepL C B [] [] := by unfold RepL; rfl
theorem RepL.cons {d : D} {v : V} {ds : List D} {vs : List V} (h : Rep C B d v) (t : RepL C B ds vs) : RepL C B (d :: ds) (v :: vs) := by
  unfold RepL; exact ⟨v, vs, rfl, h, t⟩
theorem RepL.nil_inv {vs : List V} (h : RepL C B [] vs) : vs = [] := by unfold RepL at h; exact h
theorem RepL.cons_inv {d : D} {ds : List D} {vs : List V} (h : RepL C B (d :: ds) vs) : ∃ v r, vs = v :: r ∧ Rep C B d v ∧ RepL C B ds r := by unfold RepL at h; exact h
theorem RepL.length : ∀ {ds : List D} {vs : List V}, RepL C B ds vs → vs.length = ds.length
  | [], _, h => by rw [h.nil_inv]; rfl
  | _ :: _, _, h => by
    obtain ⟨v, r, e, _, t⟩ := h.cons_inv
    rw [e, List.length_cons, List.length_cons, RepL.length t]
theorem RepL.get : ∀ {ds : List D} {vs : List V} {i : Nat} {d : D}, RepL C B ds vs → ds[i]? = some d → ∃ v, vs[i]? = some v ∧ Rep C B d v
  | [], _, i, d, _, e => by simp at e
  | x :: xs, _, 0, d, h, e => by
    obtain ⟨v, r, rfl, q, _⟩ := h.cons_inv
    simp at e; subst e
    exact ⟨v, rfl, q⟩
  | x :: xs, _, i + 1, d, h, e => by
    obtain ⟨v, r, rfl, _, t⟩ := h.cons_inv
    obtain ⟨u, e1, q⟩ := RepL.get (i := i) t (by simpa using e)
    exact ⟨u, by simpa using e1, q⟩
theorem RepL.get' : ∀ {ds : List D} {vs : List V} {i : Nat} {v : V}, RepL C B ds vs → vs[i]? = some v → ∃ d, ds[i]? = some d ∧ Rep C B d v
  | [], _, i, d, h, e => by rw [h.nil_inv] at e; simp at e
  | x :: xs, _, 0, d, h, e => by
    obtain ⟨v, r, rfl, q, _⟩ := h.cons_inv
    simp at e; subst e
    exact ⟨x, rfl, q⟩
  | x :: xs, _, i + 1, d, h, e => by
    obtain ⟨v, r, rfl, _, t⟩ := h.cons_inv
    obtain ⟨u, e1, q⟩ := RepL.get' (i := i) t (by simpa using e)
    exact ⟨u, by simpa using e1, q⟩
theorem RepL.append : ∀ {ds es : List D} {vs us : List V}, RepL C B ds vs → RepL C B es us → RepL C B (ds ++ es) (vs ++ us)
  | [], _, _, _, h, t => by rw [h.nil_inv]; exact t
  | x :: xs, _, _, _, h, t => by
    obtain ⟨v, r, rfl, q, h⟩ := h.cons_inv
    exact .cons q (RepL.append h t)
theorem RepL.take : ∀ {ds : List D} {vs : List V} (n : Nat), RepL C B ds vs → RepL C B (ds.take n) (vs.take n)
  | _, _, 0, _ => by rw [List.take_zero, List.take_zero]; exact .nil
  | [], _, n + 1, h => by rw [h.nil_inv, List.take_nil, List.take_nil]; exact .nil
  | x :: xs, _, n + 1, h => by
    obtain ⟨v, r, rfl, q, h⟩ := h.cons_inv
    exact .cons q (RepL.take n h)
theorem RepL.drop : ∀ {ds : List D} {vs : List V} (n : Nat), RepL C B ds vs → RepL C B (ds.drop n) (vs.drop n)
  | _, _, 0, h => h
  | [], _, n + 1, h => by rw [h.nil_inv, List.drop_nil, List.drop_nil]; exact .nil
  | x :: xs, _, n + 1, h => by
    obtain ⟨v, r, rfl, q, h⟩ := h.cons_inv
    exact RepL.drop n h
theorem RepL.set : ∀ {ds : List D} {vs : List V} {d : D} {v : V} (i : Nat), RepL C B ds vs → Rep C B d v → RepL C B (ds.set i d) (vs.set i v)
  | [], _, _, _, i, h, q => by rw [h.nil_inv]; exact .nil
  | x :: xs, _, _, _, 0, h, q => by
    obtain ⟨v, r, rfl, _, h⟩ := h.cons_inv
    exact .cons q h
  | x :: xs, _, _, _, i + 1, h, q => by
    obtain ⟨v, r, rfl, q0, h⟩ := h.cons_inv
    exact .cons q0 (RepL.set i h q)
theorem RepL.rep {ds : List D} {vs : List V} (h : RepL C B ds vs) : ∀ k : Nat, RepL C B (List.replicate k ds).flatten (List.replicate k vs).flatten
  | 0 => .nil
  | k + 1 => by
    rw [List.replicate_succ, List.replicate_succ, List.flatten_cons, List.flatten_cons]
    exact h.append (h.rep k)
theorem RepL.reverse : ∀ {ds : List D} {vs : List V}, RepL C B ds vs → RepL C B ds.reverse vs.reverse
  | [], _, h => by rw [h.nil_inv]; exact .nil
  | x :: xs, _, h => by
    obtain ⟨v, r, rfl, q, h⟩ := h.cons_inv
    rw [List.reverse_cons, List.reverse_cons]
    exact (RepL.reverse h).append (.cons q .nil)
theorem RepL.dropLast {ds : List D} {vs : List V} (h : RepL C B ds vs) : RepL C B ds.dropLast vs.dropLast := by
  rw [List.dropLast_eq_take, List.dropLast_eq_take, h.length]; exact h.take _
theorem RepL.ints : ∀ {ns : List Int} {vs : List V}, RepL C B (ns.map D.int) vs → vs = ns.map V.int
  | [], _, h => h.nil_inv
  | n :: ns, _, h => by
    obtain ⟨v, r, rfl, q, h⟩ := h.cons_inv
    unfold Rep at q
    rw [q, RepL.ints h]; rfl
theorem RepL.of_ints : ∀ (ns : List Int), RepL C B (ns.map D.int) (ns.map V.int)
  | [] => .nil
  | n :: ns => .cons (by unfold Rep; rfl) (RepL.of_ints ns)
theorem RepL.bls : ∀ {ns : List Bool} {vs : List V}, RepL C B (ns.map D.bl) vs → vs = ns.map V.bl
  | [], _, h => h.nil_inv
  | n :: ns, _, h => by
    obtain ⟨v, r, rfl, q, h⟩ := h.cons_inv
    unfold Rep at q
    rw [q, RepL.bls h]; rfl
theorem RepL.strs : ∀ {ns : List Str} {vs : List V}, RepL C B (ns.map D.str) vs → vs = ns.map V.str
  | [], _, h => h.nil_inv
  | n :: ns, _, h => by
    obtain ⟨v, r, rfl, q, h⟩ := h.cons_inv
    unfold Rep at q
    rw [q, RepL.strs h]; rfl
theorem RepL.of_strs : ∀ (ns : List Str), RepL C B (ns.map D.str) (ns.map V.str)
  | [] => .nil
  | n :: ns => .cons (by unfold Rep; rfl) (RepL.of_strs ns)
theorem rep_int {i : Int} : Rep C B (.int i) (.int i) := by unfold Rep; rfl
theorem rep_bl {i : Bool} : Rep C B (.bl i) (.bl i) := by unfold Rep; rfl
theorem rep_str {i : Str} : Rep C B (.str i) (.str i) := by unfold Rep; rfl
theorem rep_non : Rep C B .non .non := by unfold Rep; rfl
theorem Rep.int_inv {i : Int} {v : V} (h : Rep C B (.int i) v) : v = .int i := by unfold Rep at h; exact h
theorem Rep.bl_inv {i : Bool} {v : V} (h : Rep C B (.bl i) v) : v = .bl i := by unfold Rep at h; exact h
theorem Rep.str_inv {i : Str} {v : V} (h : Rep C B (.str i) v) : v = .str i := by unfold Rep at h; exact h
theorem Rep.non_inv {v : V} (h : Rep C B .non v) : v = .non := by unfold Rep at h; exact h
theorem Rep.tup_inv {ds : List D} {v : V} (h : Rep C B (.tup ds) v) : ∃ a vs, v = .ref a ∧ vs.length ≤ sizeLine ∧ SqT C.K B.H a vs ∧ RepL C B ds vs := by unfold Rep at h; exact h
theorem rep_tup {a : Addr} {ds : List D} {vs : List V} (hz : vs.length ≤ sizeLine) (h : SqT C.K B.H a vs) (r : RepL C B ds vs) : Rep C B (.tup ds) (.ref a) := by unfold Rep; exact ⟨a, vs, rfl, hz, h, r⟩
theorem rep_lst {a : Addr} {ds : List D} {vs : List V} (hz : vs.length ≤ sizeLine) (hF : B.F a) (h : B.H a = some (.lst vs)) (r : RepL C B ds vs) : Rep C B (.lst ds) (.ref a) := by unfold Rep; exact ⟨a, vs, rfl, hz, ⟨hF, h⟩, r⟩
theorem rep_ref {a : Addr} {i : Nat} (h : B.m[i]? = some a) : Rep C B (.ref i) (.ref a) := by unfold Rep; exact ⟨a, h, rfl⟩
theorem Rep.ref_inv {i : Nat} {v : V} (h : Rep C B (.ref i) v) : ∃ a, B.m[i]? = some a ∧ v = .ref a := by unfold Rep at h; exact h
end

def CellRep (C : Ctx) (B : Bd) (a : Addr) : Cell → Prop
  | .lst ds => ∃ vs, B.H a = some (.lst vs) ∧ vs.length ≤ sizeLine ∧ RepL C B ds vs
  | .ins c ks ds => ∃ Ca dx fvs, C.mg c = some (.ref Ca) ∧ B.H a = some (.ins Ca dx fvs) ∧ fvs.map (·.1) = ks ∧ RepL C B ds (fvs.map (·.2))
  | .dct ks ds => ∃ kvs, B.H a = some (.dK kvs) ∧ kvs.map (·.1) = ks ∧ RepL C B ds (kvs.map (·.2))
  | .dtt ks ds => ∃ kvs, B.H a = some (.dT kvs) ∧ kvs.map (·.1) = ks ∧ RepL C B ds (kvs.map (·.2))
/-- the script, known to the object or one of the module's own -/
def ScrOk (C : Ctx) (H : Hp) : Prop := C.ns.length ≤ sizeLine ∧ ((∃ o, H C.S = some (.frz o (.lst (C.ns.map V.int)))) ∨
  ∃ (o : Obj) (its : Array Value) (n : Nat), C.K.lookup C.S = some o ∧ o.cls = .type "list" ∧ o.dict = none ∧ o.data = .seq its n ∧ its.size ≤ sizeLine ∧ Vals (C.ns.map V.int) its.toList)
theorem ScrOk.sq {C : Ctx} {H : Hp} (h : ScrOk C H) : SqL C.K H C.S (C.ns.map V.int) := by
  obtain ⟨_, h⟩ := h
  rcases h with ⟨o, h⟩ | h
  · exact .inl (.inr ⟨o, h⟩)
  · exact .inr h
structure RelH (C : Ctx) (B : Bd) (st : Sto) : Prop where
  len : B.m.length = st.length
  nd : B.m.Nodup
  sep : ∀ a ∈ B.m, ¬ B.F a
  cell : ∀ (i : Nat) (c : Cell) (a : Addr), st[i]? = some c → B.m[i]? = some a → CellRep C B a c
  ff : ∀ a, B.F a → ∃ o, B.H a = some o ∧ NoTb o
  scr : ScrOk C B.H
  zz : ∀ p ∈ B.Z, B.H p.1 = some p.2 ∧ p.1 ∉ B.m ∧ ¬ B.F p.1
  zt : ∀ p ∈ B.Z, NoTb p.2
  tb : LamX.Tabs C.T B.H
  up : ∀ p, C.up = some p → Kp C p.1 B

theorem Kp.trans {C : Ctx} {A B D : Bd} (a : Kp C A B) (b : Kp C B D) : Kp C A D :=
  ⟨fun x v h => b.tup x v (a.tup x v h), fun x h => ⟨(b.fz x (a.fz x h).1).1, fun o e => (b.fz x (a.fz x h).1).2 o ((a.fz x h).2 o e)⟩, fun i x h => b.mm i x (a.mm i x h)⟩
theorem Ext.kp {C : Ctx} {A B : Bd} (x : Ext C A B) : Kp C A B := ⟨x.tup, x.fz, x.mm⟩
theorem RelH.fz {C : Ctx} {B : Bd} {st : Sto} (R : RelH C B st) : ∀ a, B.F a → B.H a ≠ none := fun a h => by
  obtain ⟨o, e, _⟩ := R.ff a h
  rw [e]; intro z; cases z
/-- what is known of the world below, a step on -/
theorem RelH.upx {C : Ctx} {B B' : Bd} {st : Sto} (R : RelH C B st) (x : Kp C B B') : ∀ p, C.up = some p → Kp C p.1 B' := fun p h => (R.up p h).trans x
theorem tabs_upd {T : List (Addr × Str)} {H : Hp} {p : Addr} {o : HO} (t : LamX.Tabs T H) (hp : ∀ u, H p = some u → NoTb u ∧ ∀ c q, u ≠ LamX.CodeO c q) : LamX.Tabs T (upd H p o) := fun q hq => by
  obtain ⟨ps, h1, h2, h3⟩ := t q hq
  refine ⟨ps, by rw [upd_ne (fun e => (hp _ (by rw [← e]; exact h1)).1 ps rfl)]; exact h1, h2, fun pos cv hc => ?_⟩
  obtain ⟨c, e1, e2⟩ := h3 pos cv hc
  exact ⟨c, e1, by rw [upd_ne (fun e => (hp _ (by rw [← e]; exact e2)).2 _ _ rfl)]; exact e2⟩
theorem tabs_new {T : List (Addr × Str)} {H : Hp} {p : Addr} {o : HO} (t : LamX.Tabs T H) (hp : H p = none) : LamX.Tabs T (upd H p o) := tabs_upd t fun u e => by rw [hp] at e; cases e
theorem tabs_mut {T : List (Addr × Str)} {H : Hp} {p : Addr} {o u : HO} (t : LamX.Tabs T H) (hp : H p = some u) (mu : MutC u) : LamX.Tabs T (upd H p o) := tabs_upd t fun w e => by
  rw [hp] at e; cases e
  exact ⟨fun ps z => by rw [z] at mu; exact mu, fun c q z => by rw [z] at mu; exact mu⟩
theorem mut_noTb {u : HO} (mu : MutC u) : NoTb u := fun ps z => by rw [z] at mu; exact mu

section
variable {C : Ctx} {B B' : Bd} {st : Sto}
theorem CellRep.monoK {a : Addr} {c : Cell} (x : Kp C B B') (e : B'.H a = B.H a) (h : CellRep C B a c) : CellRep C B' a c := by
  cases c with
  | lst ds => obtain ⟨vs, q, z, r⟩ := h; exact ⟨vs, by rw [e]; exact q, z, r.monoK x⟩
  | ins c ks ds => obtain ⟨Ca, dx, fvs, g, q, k, r⟩ := h; exact ⟨Ca, dx, fvs, g, by rw [e]; exact q, k, r.monoK x⟩
  | dct ks ds => obtain ⟨kvs, q, k, r⟩ := h; exact ⟨kvs, by rw [e]; exact q, k, r.monoK x⟩
  | dtt ks ds => obtain ⟨kvs, q, k, r⟩ := h; exact ⟨kvs, by rw [e]; exact q, k, r.monoK x⟩
theorem CellRep.mono {a : Addr} {c : Cell} (x : Ext C B B') (e : B'.H a = B.H a) (h : CellRep C B a c) : CellRep C B' a c := by
  cases c with
  | lst ds => obtain ⟨vs, q, z, r⟩ := h; exact ⟨vs, by rw [e]; exact q, z, r.mono x⟩
  | ins c ks ds => obtain ⟨Ca, dx, fvs, g, q, k, r⟩ := h; exact ⟨Ca, dx, fvs, g, by rw [e]; exact q, k, r.mono x⟩
  | dct ks ds => obtain ⟨kvs, q, k, r⟩ := h; exact ⟨kvs, by rw [e]; exact q, k, r.mono x⟩
  | dtt ks ds => obtain ⟨kvs, q, k, r⟩ := h; exact ⟨kvs, by rw [e]; exact q, k, r.mono x⟩
theorem CellRep.there {a : Addr} {c : Cell} (h : CellRep C B a c) : ∃ o, B.H a = some o ∧ MutC o := by
  cases c with
  | lst ds => obtain ⟨vs, q, _⟩ := h; exact ⟨_, q, trivial⟩
  | ins c ks ds => obtain ⟨Ca, dx, fvs, _, q, _⟩ := h; exact ⟨_, q, trivial⟩
  | dct ks ds => obtain ⟨kvs, q, _⟩ := h; exact ⟨_, q, trivial⟩
  | dtt ks ds => obtain ⟨kvs, q, _⟩ := h; exact ⟨_, q, trivial⟩
theorem nodupIx {α : Type} {N : List α} (hN : N.Nodup) {i j : Nat} {x : α} (a : N[i]? = some x) (b : N[j]? = some x) : i = j := by
  obtain ⟨h1, e1⟩ := List.getElem?_eq_some_iff.mp a
  obtain ⟨h2, e2⟩ := List.getElem?_eq_some_iff.mp b
  exact (List.getElem_inj hN).mp (e1.trans e2.symm)
theorem RelH.at (R : RelH C B st) {i : Nat} {a : Addr} (h : B.m[i]? = some a) : ∃ c, st[i]? = some c ∧ CellRep C B a c := by
  have hi : i < B.m.length := (List.getElem?_eq_some_iff.mp h).1
  rw [R.len] at hi
  exact ⟨st[i], List.getElem?_eq_getElem hi, R.cell i _ a (List.getElem?_eq_getElem hi) h⟩
theorem RelH.mut (R : RelH C B st) {a : Addr} (h : a ∈ B.m) : ∃ o, B.H a = some o ∧ MutC o := by
  obtain ⟨i, hi⟩ := List.mem_iff_getElem?.mp h
  obtain ⟨c, _, q⟩ := R.at hi
  exact q.there
theorem sqT_new {K : PySem.W.Frag} {H : Hp} {p a : Addr} {o : HO} {vs : List V} (hp : H p = none) (h : SqT K H a vs) : SqT K (upd H p o) a vs := by
  rcases h with (h | ⟨ob, h⟩) | h
  · exact .inl (.inl (by rw [upd_ne (ne_of_none h hp)]; exact h))
  · exact .inl (.inr ⟨ob, by rw [upd_ne (ne_of_none h hp)]; exact h⟩)
  · exact .inr h
theorem sqT_mut {K : PySem.W.Frag} {H : Hp} {p a : Addr} {o u : HO} {vs : List V} (hp : H p = some u) (mu : MutC u) (h : SqT K H a vs) : SqT K (upd H p o) a vs := by
  have ne : ∀ z, H a = some z → ¬ MutC z → a ≠ p := fun z e nm q => by
    subst q; rw [hp] at e; cases e; exact nm mu
  rcases h with (h | ⟨ob, h⟩) | h
  · exact .inl (.inl (by rw [upd_ne (ne _ h (fun z => z))]; exact h))
  · exact .inl (.inr ⟨ob, by rw [upd_ne (ne _ h (fun z => z))]; exact h⟩)
  · exact .inr h
theorem ScrOk.new {H : Hp} {p : Addr} {o : HO} (h : ScrOk C H) (hp : H p = none) : ScrOk C (upd H p o) := by
  refine ⟨h.1, ?_⟩
  rcases h.2 with ⟨ob, h⟩ | h
  · exact .inl ⟨ob, by rw [upd_ne (ne_of_none h hp)]; exact h⟩
  · exact .inr h
theorem ScrOk.mut {H : Hp} {p : Addr} {o u : HO} (h : ScrOk C H) (hp : H p = some u) (mu : MutC u) : ScrOk C (upd H p o) := by
  refine ⟨h.1, ?_⟩
  rcases h.2 with ⟨ob, h⟩ | h
  · exact .inl ⟨ob, by rw [upd_ne (fun q => by rw [q, hp] at h; cases h; exact mu)]; exact h⟩
  · exact .inr h

/-- something new at p -/
theorem RelH.new (R : RelH C B st) {p : Addr} {o : HO} (hp : B.H p = none) : Ext C B ⟨upd B.H p o, B.m, B.F, B.Z⟩ ∧ RelH C ⟨upd B.H p o, B.m, B.F, B.Z⟩ st := by
  have x : Ext C B ⟨upd B.H p o, B.m, B.F, B.Z⟩ := ⟨fun _ _ h => sqT_new hp h, fun a h => ⟨h, fun u e => by show upd B.H p o a = _; rw [upd_ne (ne_of_none e hp)]; exact e⟩, fun _ _ h => h, rfl⟩
  refine ⟨x, R.len, R.nd, R.sep, fun i c a h1 h2 => ?_, fun a h => ?_, R.scr.new hp, fun q hq => ⟨(upd_ne (ne_of_none (R.zz q hq).1 hp)).trans (R.zz q hq).1, (R.zz q hq).2⟩, R.zt, tabs_new R.tb hp, R.upx x.kp⟩
  · have q := R.cell i c a h1 h2
    obtain ⟨u, e, _⟩ := q.there
    exact q.mono x (upd_ne (ne_of_none e hp))
  · obtain ⟨u, e, n⟩ := R.ff a h
    exact ⟨u, (x.fz a h).2 _ e, n⟩
/-- a new thing that nobody changes -/
theorem RelH.newF (R : RelH C B st) {p : Addr} {o : HO} (hp : B.H p = none) (hn : NoTb o) : Ext C B ⟨upd B.H p o, B.m, fun a => B.F a ∨ a = p, B.Z⟩ ∧ RelH C ⟨upd B.H p o, B.m, fun a => B.F a ∨ a = p, B.Z⟩ st := by
  obtain ⟨x, r⟩ := R.new (o := o) hp
  have x2 : Ext C ⟨upd B.H p o, B.m, B.F, B.Z⟩ ⟨upd B.H p o, B.m, fun a => B.F a ∨ a = p, B.Z⟩ := ⟨fun _ _ h => h, fun a h => ⟨.inl h, fun _ e => e⟩, fun _ _ h => h, rfl⟩
  refine ⟨x.trans x2, R.len, R.nd, fun a ha hF => ?_, fun i c a h1 h2 => (r.cell i c a h1 h2).mono x2 rfl, fun a h => ?_, r.scr, fun q hq => ⟨(r.zz q hq).1, (r.zz q hq).2.1, fun hF => hF.elim (r.zz q hq).2.2 fun e => by
    have h1 := (R.zz q hq).1
    rw [e, hp] at h1; cases h1⟩, R.zt, r.tb, r.upx x2.kp⟩
  · rcases hF with hF | hF
    · exact R.sep a ha hF
    · obtain ⟨u, e, _⟩ := R.mut ha
      rw [hF, hp] at e; cases e
  · rcases h with h | h
    · exact r.ff a h
    · exact ⟨o, by show upd B.H p o a = _; rw [h, upd_same], hn⟩
/-- a new place -/
theorem RelH.newC (R : RelH C B st) {p : Addr} {o : HO} {c : Cell} (hp : B.H p = none) (hc : ∀ B' : Bd, Ext C B B' → B'.H p = some o → CellRep C B' p c) :
    Ext C B ⟨upd B.H p o, B.m ++ [p], B.F, B.Z⟩ ∧ RelH C ⟨upd B.H p o, B.m ++ [p], B.F, B.Z⟩ (st ++ [c]) ∧ (B.m ++ [p])[st.length]? = some p := by
  obtain ⟨x, r⟩ := R.new (o := o) hp
  have x2 : Ext C ⟨upd B.H p o, B.m, B.F, B.Z⟩ ⟨upd B.H p o, B.m ++ [p], B.F, B.Z⟩ := ⟨fun _ _ h => h, fun a h => ⟨h, fun _ e => e⟩, fun i a h => by
    show (B.m ++ [p])[i]? = some a
    have h : B.m[i]? = some a := h
    rw [List.getElem?_append_left (List.getElem?_eq_some_iff.mp h).1]; exact h, rfl⟩
  have nF : ¬ B.F p := fun h => R.fz p h hp
  have nm : p ∉ B.m := fun h => by
    obtain ⟨u, e, _⟩ := R.mut h
    rw [hp] at e; cases e
  have nZ : ∀ q ∈ B.Z, q.1 ∉ B.m ++ [p] := fun q hq hm => by
    rcases List.mem_append.mp hm with hm | hm
    · exact (R.zz q hq).2.1 hm
    · have h1 := (R.zz q hq).1
      rw [List.mem_singleton.mp hm, hp] at h1
      cases h1
  refine ⟨x.trans x2, ⟨by show (B.m ++ [p]).length = _; rw [List.length_append, List.length_append, R.len]; rfl, ?_, fun a ha => ?_, fun i c' a h1 h2 => ?_, r.ff, r.scr, fun q hq => ⟨(r.zz q hq).1, nZ q hq, (r.zz q hq).2.2⟩, R.zt, r.tb, r.upx x2.kp⟩, ?_⟩
  · show (B.m ++ [p]).Nodup
    rw [List.nodup_append]
    exact ⟨R.nd, by simp, fun a ha b hb e => by simp at hb; subst hb; subst e; exact nm ha⟩
  · have ha : a ∈ B.m ++ [p] := ha
    rcases List.mem_append.mp ha with ha | ha
    · exact R.sep a ha
    · simp at ha; rw [ha]; exact nF
  · have h2 : (B.m ++ [p])[i]? = some a := h2
    by_cases hi : i < st.length
    · rw [List.getElem?_append_left hi] at h1
      rw [List.getElem?_append_left (by rw [R.len]; exact hi)] at h2
      exact (r.cell i c' a h1 h2).mono x2 rfl
    · have hi2 : i = st.length := by
        have := (List.getElem?_eq_some_iff.mp h1).1
        simp at this; omega
      subst hi2
      rw [List.getElem?_append_right (Nat.le_refl _)] at h1
      rw [← R.len, List.getElem?_append_right (Nat.le_refl _)] at h2
      simp at h1 h2
      subst h1; subst h2
      exact hc _ (x.trans x2) upd_same
  · rw [← R.len, List.getElem?_append_right (Nat.le_refl _)]; simp
/-- a place is written -/
theorem RelH.write (R : RelH C B st) {i : Nat} {a : Addr} {c : Cell} {o : HO} (hm : B.m[i]? = some a) (hc : ∀ B' : Bd, Ext C B B' → B'.H a = some o → CellRep C B' a c) :
    Ext C B ⟨upd B.H a o, B.m, B.F, B.Z⟩ ∧ RelH C ⟨upd B.H a o, B.m, B.F, B.Z⟩ (st.set i c) := by
  have ha : a ∈ B.m := List.mem_of_getElem? hm
  obtain ⟨u, hu, mu⟩ := R.mut ha
  have hi : i < st.length := by rw [← R.len]; exact (List.getElem?_eq_some_iff.mp hm).1
  have x : Ext C B ⟨upd B.H a o, B.m, B.F, B.Z⟩ := ⟨fun _ _ h => sqT_mut hu mu h, fun b h => ⟨h, fun w e => by
    show upd B.H a o b = _
    rw [upd_ne (fun q => by subst q; exact R.sep _ ha h)]; exact e⟩, fun _ _ h => h, rfl⟩
  refine ⟨x, by rw [List.length_set]; exact R.len, R.nd, R.sep, fun j c' b h1 h2 => ?_, fun b h => ?_, R.scr.mut hu mu, fun q hq => ⟨(upd_ne (fun e => (R.zz q hq).2.1 (by rw [e]; exact ha))).trans (R.zz q hq).1, (R.zz q hq).2⟩, R.zt, tabs_mut R.tb hu mu, R.upx x.kp⟩
  · have h2 : B.m[j]? = some b := h2
    by_cases hj : j = i
    · subst hj
      rw [hm] at h2; cases h2
      rw [List.getElem?_set_self hi] at h1
      cases h1
      exact hc _ x upd_same
    · rw [List.getElem?_set_ne (Ne.symm hj)] at h1
      refine (R.cell j c' b h1 h2).mono x (upd_ne fun e => ?_)
      subst e
      exact hj (nodupIx R.nd h2 hm)
  · obtain ⟨w, e, n⟩ := R.ff b h
    exact ⟨w, (x.fz b h).2 _ e, n⟩
end
end Ly
/-! Computations over the store; what an expression's computation says of the machine's run. -/
namespace Ly
open PySem PySem.Spec PyProof.Rows L2

abbrev Sl := L2.St
inductive R (α : Type) where
  | ok (a : α) (st : Sto) | exc (x : Str) (st : Sto) | bad
abbrev M (α : Type) := Ev → Sto → R α
def ret {α : Type} (a : α) : M α := fun _ st => .ok a st
def bnd {α β : Type} (c : M α) (f : α → M β) : M β := fun e st => match c e st with
  | .ok a st' => f a e st'
  | .exc x st' => .exc x st'
  | .bad => .bad
/-- a step on the store that may fail -/
def lift {α : Type} (f : Sto → Option (α × Sto)) : M α := fun _ st => match f st with
  | some (a, st') => .ok a st'
  | none => .bad

def RelE (C : Ctx) (B : Bd) (env : Ev) (σ : Sl) : Prop := env.length = σ.length ∧ ∀ (i : Nat) (d : D), env[i]? = some (some d) → ∃ v, σ[i]? = some (some v) ∧ Rep C B d v
structure Rel (C : Ctx) (B : Bd) (env : Ev) (σ : Sl) (st : Sto) : Prop where
  h : RelH C B st
  e : RelE C B env σ
theorem RelE.mono {C : Ctx} {B B' : Bd} {env : Ev} {σ : Sl} (x : Ext C B B') (h : RelE C B env σ) : RelE C B' env σ :=
  ⟨h.1, fun i d e => let ⟨v, h1, h2⟩ := h.2 i d e; ⟨v, h1, h2.mono x⟩⟩
theorem RelE.set {C : Ctx} {B : Bd} {env : Ev} {σ : Sl} {d : D} {v : V} (h : RelE C B env σ) (i : Nat) (r : Rep C B d v) : RelE C B (env.set i (some d)) (σ.set i (some v)) := by
  refine ⟨by rw [List.length_set, List.length_set]; exact h.1, fun j d' e => ?_⟩
  by_cases hj : i = j
  · subst hj
    by_cases hi : i < env.length
    · rw [List.getElem?_set_self hi] at e
      cases e
      exact ⟨v, by rw [List.getElem?_set_self (by rw [← h.1]; exact hi)], r⟩
    · rw [List.getElem?_eq_none (by rw [List.length_set]; omega)] at e; cases e
  · rw [List.getElem?_set_ne hj] at e ⊢
    exact h.2 j d' e
theorem RelE.unset {C : Ctx} {B : Bd} {env : Ev} {σ : Sl} (h : RelE C B env σ) (i : Nat) : RelE C B (env.set i none) (σ.set i none) := by
  refine ⟨by rw [List.length_set, List.length_set]; exact h.1, fun j d' e => ?_⟩
  by_cases hj : i = j
  · subst hj
    by_cases hi : i < env.length
    · rw [List.getElem?_set_self hi] at e; cases e
    · rw [List.getElem?_eq_none (by rw [List.length_set]; omega)] at e; cases e
  · rw [List.getElem?_set_ne hj] at e ⊢
    exact h.2 j d' e

section
variable (C : Ctx) (W : WX) {α β : Type}
/-- what is wanted behind a computation -/
def post (rep : Bd → α → β → Prop) (σ : Sl) (env : Ev) (B : Bd) (Q : β → Hp → Prop) : R α → Prop
  | .ok d st' => ∀ v B', Ext C B B' → Rel C B' env σ st' → rep B' d v → Q v B'.H
  | .exc x st' => ∀ cls B', C.mg x = some cls → Ext C B B' → Rel C B' env σ st' → W cls none σ B'.H
  | .bad => False
/-- the reading that a computation is -/
def rd (rep : Bd → α → β → Prop) (c : M α) : Sl → Hp → (β → Hp → Prop) → Prop := fun σ H Q =>
  ∃ env st B, B.H = H ∧ Rel C B env σ st ∧ post C W rep σ env B Q (c env st)
abbrev te (c : M D) : TE := rd C W (fun B => Rep C B) c
abbrev ta (c : M (List D)) : TA := rd C W (fun B => RepL C B) c
abbrev tb (c : M Bool) : TT := rd C W (fun _ a b => a = b) c
abbrev to (c : M (Option Int)) : TO := rd C W (fun _ a b => a = b) c
/-- a list that was just made: at an address that nobody else names -/
def repN (B : Bd) (ds : List D) (v : V) : Prop := ∃ p vs, v = .ref p ∧ B.H p = some (.lst vs) ∧ vs.length ≤ sizeLine ∧ RepL C B ds vs ∧ p ∉ B.m ∧ ¬ B.F p ∧ ∀ q ∈ B.Z, q.1 ≠ p
abbrev tn (c : M (List D)) : TE := rd C W (repN C) c
end

section
variable {C : Ctx} {W : WX} {α β γ δ : Type} {rep : Bd → α → β → Prop} {rep2 : Bd → γ → δ → Prop} {σ : Sl} {env : Ev} {B B' : Bd} {st : Sto}
theorem post.mono {Q Q' : β → Hp → Prop} {r : R α} (h : post C W rep σ env B Q r) (k : ∀ v H, Q v H → Q' v H) : post C W rep σ env B Q' r := by
  cases r with
  | ok d st' => exact fun v B' x r p => k _ _ (h v B' x r p)
  | exc x st' => exact h
  | bad => exact h
theorem post.later {Q : β → Hp → Prop} {r : R α} (x : Ext C B B') (h : post C W rep σ env B Q r) : post C W rep σ env B' Q r := by
  cases r with
  | ok d st' => exact fun v B2 x2 r p => h v B2 (x.trans x2) r p
  | exc e st' => exact fun cls B2 g x2 r => h cls B2 g (x.trans x2) r
  | bad => exact h
theorem rd.mono {c : M α} {H : Hp} {Q Q' : β → Hp → Prop} (h : rd C W rep c σ H Q) (k : ∀ v H, Q v H → Q' v H) : rd C W rep c σ H Q' := by
  obtain ⟨env, st, B, e, r, p⟩ := h
  exact ⟨env, st, B, e, r, p.mono k⟩
/-- one computation, then another -/
theorem seq {c : M α} {f : α → M γ} {Q : δ → Hp → Prop} (R : Rel C B env σ st) (h : post C W rep2 σ env B Q (bnd c f env st)) :
    rd C W rep c σ B.H fun v H1 => ∃ d st1 B1, B1.H = H1 ∧ Ext C B B1 ∧ Rel C B1 env σ st1 ∧ rep B1 d v ∧ post C W rep2 σ env B1 Q (f d env st1) := by
  refine ⟨env, st, B, rfl, R, ?_⟩
  unfold bnd at h
  cases e : c env st with
  | ok d st1 =>
    rw [e] at h
    exact fun v B1 x r p => ⟨d, st1, B1, rfl, x, r, p, h.later x⟩
  | exc x st1 => rw [e] at h; exact h
  | bad => rw [e] at h; exact h
/-- a step that may fail, at the end -/
theorem post_lift {f : Sto → Option (α × Sto)} {Q : β → Hp → Prop} (h : post C W rep σ env B Q (lift f env st)) :
    ∃ d st', f st = some (d, st') ∧ ∀ v B', Ext C B B' → Rel C B' env σ st' → rep B' d v → Q v B'.H := by
  unfold lift at h
  cases e : f st with
  | none => rw [e] at h; exact h.elim
  | some p => obtain ⟨d, st'⟩ := p; rw [e] at h; exact ⟨d, st', rfl, h⟩
theorem Rel.of (R : Rel C B env σ st) {st' : Sto} (x : Ext C B B') (h : RelH C B' st') : Rel C B' env σ st' := ⟨h, R.e.mono x⟩
end

theorem _root_.L2.PE.imp {X : Cx} {e : Expr} {t t' : TE} (h : PE X e t) (k : ∀ σ H Q, t' σ H Q → t σ H Q) : PE X e t' := ⟨fun pins s σ H Q I q => h.run pins s σ H Q I (k σ H Q q)⟩
theorem _root_.L2.PT.imp {X : Cx} {e : Expr} {t t' : TT} (h : PT X e t) (k : ∀ σ H Q, t' σ H Q → t σ H Q) : PT X e t' := ⟨fun pins s σ H Q I q => h.run pins s σ H Q I (k σ H Q q)⟩
theorem _root_.L2.PW.imp {X : Cx} {e : Expr} {t t' : TT} (h : PW X e t) (k : ∀ σ H Q, t' σ H Q → t σ H Q) : PW X e t' := ⟨fun wh pins s σ H Q I q => h.run wh pins s σ H Q I (k σ H Q q)⟩
theorem _root_.L2.PA.imp {X : Cx} {e : List Expr} {t t' : TA} (h : PA X e t) (k : ∀ σ H Q, t' σ H Q → t σ H Q) : PA X e t' := ⟨fun pos pins s σ H Q I q => h.run pos pins s σ H Q I (k σ H Q q)⟩
theorem _root_.L2.PO.imp {X : Cx} {e : Option Expr} {t t' : TO} (h : PO X e t) (k : ∀ σ H Q, t' σ H Q → t σ H Q) : PO X e t' := ⟨fun pins s σ H Q I q => h.run pins s σ H Q I (k σ H Q q)⟩
theorem _root_.L2.PI.imp {X : Cx} {tg e : Expr} {t t' : TI} (h : PI X tg e t) (k : ∀ σ H R, t' σ H R → t σ H R) : PI X tg e t' := ⟨fun pins s σ H R I q => h.run pins s σ H R I (k σ H R q)⟩

/-! ### names, constants -/
def mvar (i : Nat) : M D := fun env st => match env[i]? with
  | some (some d) => .ok d st
  | _ => .bad
section
variable {X : Cx} {C : Ctx} {W : WX} {pos : Pos}
theorem e_var (i : Nat) {x : Str} (hN : X.N[i]? = some x := by rfl) (hv : Vis X.env.scope x := by first | exact Or.inl rfl | exact Or.inr (Or.inl rfl) | exact Or.inr (Or.inr rfl)) (hd : (x == ("__debug__" : Str)) = false := by decide)
    (hcd : (x == ("__classdict__" : Str)) = false := by decide) : PE X (.Name x pos) (te C W (mvar i)) := by
  refine (pe_var hN hv hd hcd).imp fun σ H Q ⟨env, st, B, e, r, p⟩ => ?_
  subst e
  unfold mvar at p
  cases q : env[i]? with
  | none => rw [q] at p; exact p.elim
  | some o =>
    cases o with
    | none => rw [q] at p; exact p.elim
    | some d =>
      rw [q] at p
      obtain ⟨v, h1, h2⟩ := r.e.2 i d q
      exact ⟨v, h1, p v B (Ext.refl _ _) r h2⟩
theorem te_ret {d : D} {v : V} {t : TE} (h : ∀ σ H Q, Q v H → t σ H Q) (hr : ∀ B, Rep C B d v) : ∀ σ H Q, te C W (ret d) σ H Q → t σ H Q := fun σ H Q ⟨env, st, B, e, r, p⟩ => by
  subst e
  exact h σ _ Q (p v B (Ext.refl _ _) r (hr B))
theorem e_int {i j pos} : PE X (.Constant (.int i) j pos) (te C W (ret (.int i))) := pe_int.imp (te_ret (fun _ _ _ h => h) fun _ => rep_int)
theorem e_bl {b j pos} : PE X (.Constant (.bool b) j pos) (te C W (ret (.bl b))) := pe_bl.imp (te_ret (fun _ _ _ h => h) fun _ => rep_bl)
theorem e_non {j pos} : PE X (.Constant .none j pos) (te C W (ret .non)) := pe_non.imp (te_ret (fun _ _ _ h => h) fun _ => rep_non)
theorem e_str {x j pos} : PE X (.Constant (.str x) j pos) (te C W (ret (.str x))) := pe_str.imp (te_ret (fun _ _ _ h => h) fun _ => rep_str)
/-- a constant of the module -/
theorem e_glob {x : Str} {v : V} {u : Value} {d : D} (hg : Gl X x) (hm : X.mg x = some u) (r : RelV v u) (hr : ∀ B, Rep C B d v) (hd : (x == ("__debug__" : Str)) = false := by decide) : PE X (.Name x pos) (te C W (ret d)) :=
  (pe_glob hg hm r hd).imp (te_ret (fun _ _ _ h => h) hr)
end

/-! ### argument lists -/
def args : List (M D) → M (List D)
  | [] => ret []
  | c :: cs => bnd c fun d => bnd (args cs) fun ds => ret (d :: ds)
section
variable {X : Cx} {C : Ctx} {W : WX} {e : Expr} {es : List Expr} {c : M D} {cs : List (M D)}
theorem a_nil : PA X [] (ta C W (args [])) := pa_nil.imp fun σ H Q ⟨env, st, B, e, r, p⟩ => by
  subst e
  exact p [] B (Ext.refl _ _) r .nil
theorem a_cons (ha : PE X e (te C W c)) (hr : PA X es (ta C W (args cs))) (hs : starEach (e :: es) X.env = (false, eval e X.env) :: starEach es X.env := by rfl) : PA X (e :: es) (ta C W (args (c :: cs))) := by
  refine (pa_cons ha hr hs).imp fun σ H Q ⟨env, st, B, e, r, p⟩ => ?_
  subst e
  refine (seq r p).mono fun v H1 ⟨d, st1, B1, e1, x1, r1, p1, k1⟩ => ?_
  subst e1
  refine (seq r1 k1).mono fun vs H2 ⟨ds, st2, B2, e2, x2, r2, p2, k2⟩ => ?_
  subst e2
  exact k2 (v :: vs) B2 (Ext.refl _ _) r2 (.cons (p1.mono x2) p2)
end

/-! ### lists just made -/
def tree (c : M (List D)) : M D := bnd c fun ds => ret (.lst ds)
def box (c : M (List D)) : M D := bnd c fun ds => lift fun st => some (.ref st.length, st ++ [.lst ds])
section
variable {X : Cx} {C : Ctx} {W : WX} {e : Expr} {es : List Expr} {c : M (List D)}
theorem Bd.freeze {B : Bd} {st : Sto} {p : Addr} (R : RelH C B st) (hn : ∃ o, B.H p = some o ∧ NoTb o) (hm : p ∉ B.m) (hZ : ∀ q ∈ B.Z, q.1 ≠ p) : Ext C B ⟨B.H, B.m, fun a => B.F a ∨ a = p, B.Z⟩ ∧ RelH C ⟨B.H, B.m, fun a => B.F a ∨ a = p, B.Z⟩ st := by
  have x : Ext C B ⟨B.H, B.m, fun a => B.F a ∨ a = p, B.Z⟩ := ⟨fun _ _ h => h, fun a h => ⟨.inl h, fun _ e => e⟩, fun _ _ h => h, rfl⟩
  refine ⟨x, R.len, R.nd, fun a ha hF => ?_, fun i c a h1 h2 => (R.cell i c a h1 h2).mono x rfl, fun a h => ?_, R.scr, fun q hq => ⟨(R.zz q hq).1, (R.zz q hq).2.1, fun hF => hF.elim (R.zz q hq).2.2 (hZ q hq)⟩, R.zt, R.tb, R.upx x.kp⟩
  · rcases hF with hF | hF
    · exact R.sep a ha hF
    · exact hm (hF ▸ ha)
  · rcases h with h | h
    · exact R.ff a h
    · rw [h]; exact hn
theorem e_tree (h : PE X e (tn C W c)) : PE X e (te C W (tree c)) := h.imp fun σ H Q ⟨env, st, B, e, r, p⟩ => by
  subst e
  refine (seq r p).mono fun v H1 ⟨ds, st1, B1, e1, x1, r1, p1, k1⟩ => ?_
  subst e1
  obtain ⟨a, vs, rfl, hH, hz, rl, nm, nF, nZ⟩ := p1
  obtain ⟨x2, r2⟩ := Bd.freeze (p := a) r1.h ⟨_, hH, fun _ z => by cases z⟩ nm nZ
  exact k1 (.ref a) ⟨B1.H, B1.m, fun b => B1.F b ∨ b = a, B1.Z⟩ x2 (r1.of x2 r2) (rep_lst hz (.inr rfl) hH (rl.mono x2))
theorem Bd.place {B : Bd} {st : Sto} {p : Addr} {c : Cell} (R : RelH C B st) (hc : CellRep C B p c) (hm : p ∉ B.m) (nF : ¬ B.F p) (hZ : ∀ q ∈ B.Z, q.1 ≠ p) :
    Ext C B ⟨B.H, B.m ++ [p], B.F, B.Z⟩ ∧ RelH C ⟨B.H, B.m ++ [p], B.F, B.Z⟩ (st ++ [c]) ∧ (B.m ++ [p])[st.length]? = some p := by
  have x : Ext C B ⟨B.H, B.m ++ [p], B.F, B.Z⟩ := ⟨fun _ _ h => h, fun a h => ⟨h, fun _ e => e⟩, fun i a h => by
    show (B.m ++ [p])[i]? = some a
    rw [List.getElem?_append_left (List.getElem?_eq_some_iff.mp h).1]; exact h, rfl⟩
  refine ⟨x, ⟨by show (B.m ++ [p]).length = _; rw [List.length_append, List.length_append, R.len]; rfl, ?_, fun a ha => ?_, fun i c' a h1 h2 => ?_, R.ff, R.scr, fun q hq => ⟨(R.zz q hq).1, fun hm => (List.mem_append.mp hm).elim (R.zz q hq).2.1 fun h => hZ q hq (List.mem_singleton.mp h), (R.zz q hq).2.2⟩, R.zt, R.tb, R.upx x.kp⟩, ?_⟩
  · show (B.m ++ [p]).Nodup
    rw [List.nodup_append]
    exact ⟨R.nd, by simp, fun a ha b hb e => by simp at hb; subst hb; subst e; exact hm ha⟩
  · have ha : a ∈ B.m ++ [p] := ha
    rcases List.mem_append.mp ha with ha | ha
    · exact R.sep a ha
    · simp at ha; rw [ha]; exact nF
  · have h2 : (B.m ++ [p])[i]? = some a := h2
    by_cases hi : i < st.length
    · rw [List.getElem?_append_left hi] at h1
      rw [List.getElem?_append_left (by rw [R.len]; exact hi)] at h2
      exact (R.cell i c' a h1 h2).mono x rfl
    · have hi2 : i = st.length := by
        have := (List.getElem?_eq_some_iff.mp h1).1
        simp at this; omega
      subst hi2
      rw [List.getElem?_append_right (Nat.le_refl _)] at h1
      rw [← R.len, List.getElem?_append_right (Nat.le_refl _)] at h2
      simp at h1 h2
      subst h1; subst h2
      exact hc.mono x rfl
  · rw [← R.len, List.getElem?_append_right (Nat.le_refl _)]; simp
theorem e_box (h : PE X e (tn C W c)) : PE X e (te C W (box c)) := h.imp fun σ H Q ⟨env, st, B, e, r, p⟩ => by
  subst e
  refine (seq r p).mono fun v H1 ⟨ds, st1, B1, e1, x1, r1, p1, k1⟩ => ?_
  subst e1
  obtain ⟨a, vs, rfl, hH, hz, rl, nm, nF, nZ⟩ := p1
  obtain ⟨x2, r2, g⟩ := Bd.place (c := .lst ds) r1.h ⟨vs, hH, hz, rl⟩ nm nF nZ
  obtain ⟨d, st', e, k⟩ := post_lift k1
  cases e
  exact k (.ref a) ⟨B1.H, B1.m ++ [a], B1.F, B1.Z⟩ x2 (r1.of x2 r2) (rep_ref g)
/-- a new list object at p -/
theorem new_list {B : Bd} {st : Sto} {p : Addr} {vs : List V} {ds : List D} (R : RelH C B st) (hp : B.H p = none) (hz : vs.length ≤ sizeLine) (rl : RepL C B ds vs) :
    Ext C B ⟨upd B.H p (.lst vs), B.m, B.F, B.Z⟩ ∧ RelH C ⟨upd B.H p (.lst vs), B.m, B.F, B.Z⟩ st ∧ repN C ⟨upd B.H p (.lst vs), B.m, B.F, B.Z⟩ ds (.ref p) := by
  obtain ⟨x, r⟩ := R.new (o := .lst vs) hp
  refine ⟨x, r, p, vs, rfl, upd_same, hz, rl.mono x, fun h => ?_, fun h => R.fz p h hp, fun q hq e => by
    have h1 := (R.zz q hq).1
    rw [e, hp] at h1; cases h1⟩
  obtain ⟨u, e, _⟩ := R.mut h
  rw [hp] at e; cases e
theorem new_tuple {B : Bd} {st : Sto} {p : Addr} {vs : List V} {ds : List D} (R : RelH C B st) (hp : B.H p = none) (hz : vs.length ≤ sizeLine) (rl : RepL C B ds vs) :
    Ext C B ⟨upd B.H p (.tup vs), B.m, B.F, B.Z⟩ ∧ RelH C ⟨upd B.H p (.tup vs), B.m, B.F, B.Z⟩ st ∧ Rep C ⟨upd B.H p (.tup vs), B.m, B.F, B.Z⟩ (.tup ds) (.ref p) := by
  obtain ⟨x, r⟩ := R.new (o := .tup vs) hp
  exact ⟨x, r, rep_tup hz (SqT.of upd_same) (rl.mono x)⟩
/-- a written list -/
def dlst (cs : List (M D)) : M (List D) := bnd (args cs) fun ds => lift fun st => if ds.length ≤ sizeLine then some (ds, st) else none
def dtup (cs : List (M D)) : M D := bnd (args cs) fun ds => lift fun st => if ds.length ≤ sizeLine then some (.tup ds, st) else none
variable {cs : List (M D)} {pos : Pos}
theorem n_lst (h : PA X es (ta C W (args cs))) : PE X (.List es pos) (tn C W (dlst cs)) := (pe_lst h).imp fun σ H Q ⟨env, st, B, e, r, p⟩ => by
  subst e
  refine (seq r p).mono fun vs H1 ⟨ds, st1, B1, e1, x1, r1, p1, k1⟩ => ?_
  subst e1
  obtain ⟨d, st', e, k⟩ := post_lift k1
  split at e
  · rename_i hz
    cases e
    have hz' : vs.length ≤ sizeLine := by rw [p1.length]; exact hz
    refine ⟨hz', fun a ha => ?_⟩
    obtain ⟨x2, r2, q⟩ := new_list r1.h ha hz' p1
    exact k (.ref a) _ x2 (r1.of x2 r2) q
  · cases e
theorem e_tup {x1} (h : PA X es (ta C W (args cs))) : PE X (.Tuple es x1 pos) (te C W (dtup cs)) := (pe_tup h).imp fun σ H Q ⟨env, st, B, e, r, p⟩ => by
  subst e
  refine (seq r p).mono fun vs H1 ⟨ds, st1, B1, e1, x1, r1, p1, k1⟩ => ?_
  subst e1
  obtain ⟨d, st', e, k⟩ := post_lift k1
  split at e
  · rename_i hz
    cases e
    have hz' : vs.length ≤ sizeLine := by rw [p1.length]; exact hz
    refine ⟨hz', fun a ha => ?_⟩
    obtain ⟨x2, r2, q⟩ := new_tuple r1.h ha hz' p1
    exact k (.ref a) _ x2 (r1.of x2 r2) q
  · cases e
end

/-! ### what may be read as a list -/
def lstOf (st : Sto) : D → Option (List D)
  | .lst xs => some xs
  | .ref i => match st[i]? with
    | some (.lst xs) => some xs
    | _ => none
  | _ => none
def rdOf (st : Sto) : D → Option (List D)
  | .scr ns => some (ns.map D.int)
  | d => lstOf st d
def tupOf : D → Option (List D)
  | .tup xs => some xs
  | _ => none
section
variable {C : Ctx} {B : Bd} {st : Sto} {d : D} {v : V} {ds : List D}
theorem lstOf_rep (R : RelH C B st) (h : lstOf st d = some ds) (r : Rep C B d v) : ∃ a vs, v = .ref a ∧ B.H a = some (.lst vs) ∧ vs.length ≤ sizeLine ∧ RepL C B ds vs := by
  unfold lstOf at h
  split at h
  · cases h
    unfold Rep at r
    obtain ⟨a, vs, e, hz, ⟨_, q⟩, t⟩ := r
    exact ⟨a, vs, e, q, hz, t⟩
  · rename_i i
    cases e : st[i]? with
    | none => rw [e] at h; cases h
    | some c =>
      rw [e] at h
      cases c with
      | lst xs =>
        cases h
        obtain ⟨a, q, rfl⟩ := r.ref_inv
        obtain ⟨vs, q2, hz, t⟩ := R.cell i _ a e q
        exact ⟨a, vs, rfl, q2, hz, t⟩
      | ins _ _ _ => cases h
      | dct _ _ => cases h
      | dtt _ _ => cases h
  · cases h
theorem rdOf_rep (R : RelH C B st) (h : rdOf st d = some ds) (r : Rep C B d v) : ∃ a vs, v = .ref a ∧ SqL C.K B.H a vs ∧ vs.length ≤ sizeLine ∧ RepL C B ds vs := by
  unfold rdOf at h
  split at h
  · rename_i ns
    cases h
    unfold Rep at r
    obtain ⟨e1, e2⟩ := r
    subst e1
    exact ⟨C.S, C.ns.map V.int, e2, R.scr.sq, by rw [List.length_map]; exact R.scr.1, RepL.of_ints _⟩
  · obtain ⟨a, vs, e, q, hz, t⟩ := lstOf_rep R h r
    exact ⟨a, vs, e, SqL.of q, hz, t⟩
theorem tupOf_rep (h : tupOf d = some ds) (r : Rep C B d v) : ∃ a vs, v = .ref a ∧ SqT C.K B.H a vs ∧ vs.length ≤ sizeLine ∧ RepL C B ds vs := by
  unfold tupOf at h
  split at h
  · cases h
    obtain ⟨a, vs, e, hz, q, t⟩ := r.tup_inv
    exact ⟨a, vs, e, q, hz, t⟩
  · cases h
end

/-! ### two-place operations -/
/-- a rule's reading follows from what a store step says -/
def BinOk (C : Ctx) (f : D → D → Sto → Option (D × Sto)) (r : R2) : Prop := ∀ (B : Bd) (st : Sto) (x y : D) (v u : V) (Q : VK) (d : D) (st' : Sto), RelH C B st → Rep C B x v → Rep C B y u → f x y st = some (d, st') →
  (∀ v' B', Ext C B B' → RelH C B' st' → Rep C B' d v' → Q v' B'.H) → r v u B.H Q
def BinOkN (C : Ctx) (f : D → D → Sto → Option (List D × Sto)) (r : R2) : Prop := ∀ (B : Bd) (st : Sto) (x y : D) (v u : V) (Q : VK) (ds : List D) (st' : Sto), RelH C B st → Rep C B x v → Rep C B y u → f x y st = some (ds, st') →
  (∀ v' B', Ext C B B' → RelH C B' st' → repN C B' ds v' → Q v' B'.H) → r v u B.H Q
def UnOk (C : Ctx) (f : D → Sto → Option (D × Sto)) (r : V → Hp → VK → Prop) : Prop := ∀ (B : Bd) (st : Sto) (x : D) (v : V) (Q : VK) (d : D) (st' : Sto), RelH C B st → Rep C B x v → f x st = some (d, st') →
  (∀ v' B', Ext C B B' → RelH C B' st' → Rep C B' d v' → Q v' B'.H) → r v B.H Q
/-- a call's rule by the arguments -/
def CallOk (C : Ctx) (f : List D → Sto → Option (D × Sto)) (r : List V → Hp → VK → Prop) : Prop := ∀ (B : Bd) (st : Sto) (xs : List D) (vs : List V) (Q : VK) (d : D) (st' : Sto), RelH C B st → RepL C B xs vs → f xs st = some (d, st') →
  (∀ v' B', Ext C B B' → RelH C B' st' → Rep C B' d v' → Q v' B'.H) → r vs B.H Q
def CallOkN (C : Ctx) (f : List D → Sto → Option (List D × Sto)) (r : List V → Hp → VK → Prop) : Prop := ∀ (B : Bd) (st : Sto) (xs : List D) (vs : List V) (Q : VK) (ds : List D) (st' : Sto), RelH C B st → RepL C B xs vs → f xs st = some (ds, st') →
  (∀ v' B', Ext C B B' → RelH C B' st' → repN C B' ds v' → Q v' B'.H) → r vs B.H Q
def un (f : D → Sto → Option (D × Sto)) (a : M D) : M D := bnd a fun x => lift (f x)
def bin {α : Type} (f : D → D → Sto → Option (α × Sto)) (a b : M D) : M α := bnd a fun x => bnd b fun y => lift (f x y)
def calls {α : Type} (f : List D → Sto → Option (α × Sto)) (as : M (List D)) : M α := bnd as fun xs => lift (f xs)

section
variable {X : Cx} {C : Ctx} {W : WX} {a b : Expr} {ca cb : M D} {pos : Pos}
theorem bin_rd {f : D → D → Sto → Option (D × Sto)} {r : R2} (hb : BinOk C f r) : ∀ σ H Q, te C W (bin f ca cb) σ H Q → tOp r (te C W ca) (te C W cb) σ H Q := fun σ H Q ⟨env, st, B, e, rr, p⟩ => by
  subst e
  refine (seq rr p).mono fun v H1 ⟨x, st1, B1, e1, x1, r1, p1, k1⟩ => ?_
  subst e1
  refine (seq r1 k1).mono fun u H2 ⟨y, st2, B2, e2, x2, r2, p2, k2⟩ => ?_
  subst e2
  obtain ⟨d, st', e, k⟩ := post_lift k2
  exact hb B2 st2 x y v u Q d st' r2.h (p1.mono x2) p2 e fun v' B' x' h' q => k v' B' x' (r2.of x' h') q
theorem bin_rdN {f : D → D → Sto → Option (List D × Sto)} {r : R2} (hb : BinOkN C f r) : ∀ σ H Q, tn C W (bin f ca cb) σ H Q → tOp r (te C W ca) (te C W cb) σ H Q := fun σ H Q ⟨env, st, B, e, rr, p⟩ => by
  subst e
  refine (seq rr p).mono fun v H1 ⟨x, st1, B1, e1, x1, r1, p1, k1⟩ => ?_
  subst e1
  refine (seq r1 k1).mono fun u H2 ⟨y, st2, B2, e2, x2, r2, p2, k2⟩ => ?_
  subst e2
  obtain ⟨d, st', e, k⟩ := post_lift k2
  exact hb B2 st2 x y v u Q d st' r2.h (p1.mono x2) p2 e fun v' B' x' h' q => k v' B' x' (r2.of x' h') q
theorem e_bin {op : Operator} {f : D → D → Sto → Option (D × Sto)} {r : R2} (ho : OpR X (binaryOp op) r) (hb : BinOk C f r) (ha : PE X a (te C W ca)) (hb' : PE X b (te C W cb)) : PE X (.BinOp a op b pos) (te C W (bin f ca cb)) := (pe_op ho ha hb').imp (bin_rd hb)
theorem n_bin {op : Operator} {f : D → D → Sto → Option (List D × Sto)} {r : R2} (ho : OpR X (binaryOp op) r) (hb : BinOkN C f r) (ha : PE X a (te C W ca)) (hb' : PE X b (te C W cb)) : PE X (.BinOp a op b pos) (tn C W (bin f ca cb)) := (pe_op ho ha hb').imp (bin_rdN hb)
theorem e_cmp {op : CmpOp} {f : D → D → Sto → Option (D × Sto)} {r : R2} (ho : OpR X (compareOp op) r) (hb : BinOk C f r) (ha : PE X a (te C W ca)) (hb' : PE X b (te C W cb)) (hm : behindInMarks op b = false) : PE X (.Compare a [op] [b] pos) (te C W (bin f ca cb)) := (pe_cmpR ho ha hb' hm).imp (bin_rd hb)
theorem un_rd {f : D → Sto → Option (D × Sto)} {r : V → Hp → VK → Prop} (hb : UnOk C f r) : ∀ σ H Q, te C W (un f ca) σ H Q → tUn r (te C W ca) σ H Q := fun σ H Q ⟨env, st, B, e, rr, p⟩ => by
  subst e
  refine (seq rr p).mono fun v H1 ⟨x, st1, B1, e1, x1, r1, p1, k1⟩ => ?_
  subst e1
  obtain ⟨d, st', e, k⟩ := post_lift k1
  exact hb B1 st1 x v Q d st' r1.h p1 e fun v' B' x' h' q => k v' B' x' (r1.of x' h') q
theorem e_un {op : UnaryOp} {f : D → Sto → Option (D × Sto)} {r : V → Hp → VK → Prop} (ho : UnR X (unaryOp op) r) (hb : UnOk C f r) (ha : PE X a (te C W ca)) : PE X (.UnaryOp op a pos) (te C W (un f ca)) := (pe_un ho ha).imp (un_rd hb)
theorem calls_rd {f : List D → Sto → Option (D × Sto)} {r : List V → Hp → VK → Prop} {as : M (List D)} (hb : CallOk C f r) : ∀ σ H Q, te C W (calls f as) σ H Q → tCB r (ta C W as) σ H Q := fun σ H Q ⟨env, st, B, e, rr, p⟩ => by
  subst e
  refine (seq rr p).mono fun v H1 ⟨x, st1, B1, e1, x1, r1, p1, k1⟩ => ?_
  subst e1
  obtain ⟨d, st', e, k⟩ := post_lift k1
  exact hb B1 st1 x v Q d st' r1.h p1 e fun v' B' x' h' q => k v' B' x' (r1.of x' h') q
theorem calls_rdN {f : List D → Sto → Option (List D × Sto)} {r : List V → Hp → VK → Prop} {as : M (List D)} (hb : CallOkN C f r) : ∀ σ H Q, tn C W (calls f as) σ H Q → tCB r (ta C W as) σ H Q := fun σ H Q ⟨env, st, B, e, rr, p⟩ => by
  subst e
  refine (seq rr p).mono fun v H1 ⟨x, st1, B1, e1, x1, r1, p1, k1⟩ => ?_
  subst e1
  obtain ⟨d, st', e, k⟩ := post_lift k1
  exact hb B1 st1 x v Q d st' r1.h p1 e fun v' B' x' h' q => k v' B' x' (r1.of x' h') q
end
end Ly
/-! Operators, comparisons, tests. -/
namespace Ly
open PySem PySem.Spec PyProof.Rows L2

/-! ### arithmetic -/
def opAdd (x y : D) (st : Sto) : Option (D × Sto) := match x, y with
  | .int i, .int j => some (.int (i + j), st)
  | .str a, .str b => if a.length + b.length ≤ sizeLine then some (.str (a ++ b), st) else none
  | .tup xs, .tup ys => if xs.length + ys.length ≤ sizeLine then some (.tup (xs ++ ys), st) else none
  | x, y => match lstOf st x, lstOf st y with
    | some xs, some ys => if xs.length + ys.length ≤ sizeLine then some (.lst (xs ++ ys), st) else none
    | _, _ => none
def catN (x y : D) (st : Sto) : Option (List D × Sto) := match lstOf st x, lstOf st y with
  | some xs, some ys => if xs.length + ys.length ≤ sizeLine then some (xs ++ ys, st) else none
  | _, _ => none
abbrev rAddAll (K : PySem.W.Frag) : R2 := fun x y H Q => rI0 (fun i j => .int (i + j)) x y H Q ∨ (∃ i j, x = .str i ∧ y = .str j ∧ i.length + j.length ≤ sizeLine ∧ Q (.str (i ++ j)) H) ∨ rCatA K x y H Q ∨ rCat x y H Q
theorem repN.tree {C : Ctx} {B : Bd} {st : Sto} {ds : List D} {v : V} (R : RelH C B st) (h : repN C B ds v) : ∃ B', B'.H = B.H ∧ Ext C B B' ∧ RelH C B' st ∧ Rep C B' (.lst ds) v := by
  obtain ⟨a, vs, rfl, hH, hz, rl, nm, nF, nZ⟩ := h
  obtain ⟨x2, r2⟩ := Bd.freeze (p := a) R ⟨_, hH, fun _ z => by cases z⟩ nm nZ
  exact ⟨⟨B.H, B.m, fun b => B.F b ∨ b = a, B.Z⟩, rfl, x2, r2, rep_lst hz (.inr rfl) hH (rl.mono x2)⟩
theorem catN_ok {C : Ctx} : BinOkN C catN rCat := fun B st x y v u Q ds st' R rx ry e k => by
  unfold catN at e
  cases ex : lstOf st x with
  | none => rw [ex] at e; cases e
  | some xs =>
    cases ey : lstOf st y with
    | none => rw [ex, ey] at e; cases e
    | some ys =>
      rw [ex, ey] at e
      dsimp only at e
      split at e
      · rename_i hz
        cases e
        obtain ⟨a, vs, rfl, hA, hzA, tA⟩ := lstOf_rep R ex rx
        obtain ⟨b, us, rfl, hB, hzB, tB⟩ := lstOf_rep R ey ry
        have hz' : vs.length + us.length ≤ sizeLine := by rw [tA.length, tB.length]; exact hz
        refine ⟨a, b, vs, us, rfl, rfl, hA, hB, hz', fun p hp => ?_⟩
        obtain ⟨x2, r2, q⟩ := new_list R hp (by rw [List.length_append]; exact hz') (tA.append tB)
        exact k (.ref p) _ x2 r2 q
      · cases e
theorem opAdd_ok {C : Ctx} : BinOk C opAdd (rAddAll C.K) := fun B st x y v u Q d st' R rx ry e k => by
  unfold opAdd at e
  split at e
  · cases e
    rw [rx.int_inv, ry.int_inv]
    exact .inl ⟨_, _, rfl, rfl, k _ B (Ext.refl _ _) R rep_int⟩
  · split at e
    · rename_i hz
      cases e
      rw [rx.str_inv, ry.str_inv]
      exact .inr (.inl ⟨_, _, rfl, rfl, hz, k _ B (Ext.refl _ _) R rep_str⟩)
    · cases e
  · split at e
    · rename_i xs ys hz
      cases e
      obtain ⟨a, vs, rfl, hzA, hA, tA⟩ := rx.tup_inv
      obtain ⟨b, us, rfl, hzB, hB, tB⟩ := ry.tup_inv
      have hz' : vs.length + us.length ≤ sizeLine := by rw [tA.length, tB.length]; exact hz
      refine .inr (.inr (.inl ⟨a, b, vs, us, rfl, rfl, hA, hB, hz', fun e => ?_, fun _ e => ?_, fun _ _ p hp => ?_⟩))
      · have e2 : xs = [] := by have := tA.length; rw [e] at this; exact List.length_eq_zero_iff.mp this.symm
        rw [e2] at k
        exact k _ B (Ext.refl _ _) R (rep_tup hzB hB tB)
      · have e2 : ys = [] := by have := tB.length; rw [e] at this; exact List.length_eq_zero_iff.mp this.symm
        rw [e2, List.append_nil] at k
        exact k _ B (Ext.refl _ _) R (rep_tup hzA hA tA)
      · obtain ⟨x2, r2, q⟩ := new_tuple R hp (by rw [List.length_append]; exact hz') (tA.append tB)
        exact k (.ref p) _ x2 r2 q
    · cases e
  · split at e
    · rename_i xs ys ex ey
      split at e
      · rename_i hz
        cases e
        refine .inr (.inr (.inr (catN_ok B st x y v u Q (xs ++ ys) st R rx ry (by unfold catN; rw [ex, ey]; dsimp only; rw [if_pos hz]) fun v' B' x' r' q => ?_)))
        obtain ⟨B2, e2, x2, r2, q2⟩ := q.tree r'
        rw [← e2]
        exact k v' B2 (x'.trans x2) r2 q2
      · cases e
    · cases e

def opSub (x y : D) (st : Sto) : Option (D × Sto) := match x, y with
  | .int i, .int j => some (.int (i - j), st)
  | _, _ => none
theorem opSub_ok {C : Ctx} : BinOk C opSub (rI0 fun i j => .int (i - j)) := fun B st x y v u Q d st' R rx ry e k => by
  unfold opSub at e
  split at e
  · cases e
    rw [rx.int_inv, ry.int_inv]
    exact ⟨_, _, rfl, rfl, k _ B (Ext.refl _ _) R rep_int⟩
  · cases e
def smallI (i : Int) : Bool := decide (-(2 ^ 64) < i) && decide (i < 2 ^ 64)
def repD (st : Sto) (x : D) (k : Int) : Option (List D × Sto) := match lstOf st x with
  | some xs => if -(2 ^ 63) ≤ k ∧ k < 2 ^ 63 ∧ xs.length * k.toNat ≤ sizeLine then some ((List.replicate k.toNat xs).flatten, st) else none
  | none => none
def opMul (x y : D) (st : Sto) : Option (D × Sto) := match x, y with
  | .int i, .int j => if smallI i || smallI j then some (.int (i * j), st) else none
  | .tup xs, .int k => if xs ≠ [] ∧ 2 ≤ k ∧ k ≤ 1000 ∧ xs.length ≤ 1000 then some (.tup (List.replicate k.toNat xs).flatten, st) else none
  | x, .int k => (repD st x k).map fun p => (.lst p.1, p.2)
  | _, _ => none
def repN2 (x y : D) (st : Sto) : Option (List D × Sto) := match y with
  | .int k => repD st x k
  | _ => none
theorem smallI_ok {i : Int} (h : smallI i = true) : -(2 ^ 64) < i ∧ i < 2 ^ 64 := by
  unfold smallI at h
  simpa [Bool.and_eq_true] using h
theorem repN2_ok {C : Ctx} : BinOkN C repN2 rRep := fun B st x y v u Q ds st' R rx ry e k => by
  unfold repN2 at e
  split at e
  · rename_i i
    unfold repD at e
    split at e
    · rename_i xs ex
      split at e
      · rename_i hz
        cases e
        obtain ⟨a, vs, rfl, hA, hzA, tA⟩ := lstOf_rep R ex rx
        rw [ry.int_inv]
        have hz' : vs.length * i.toNat ≤ sizeLine := by rw [tA.length]; exact hz.2.2
        refine ⟨a, i, vs, rfl, rfl, hA, hz.1, hz.2.1, hz', fun p hp => ?_⟩
        obtain ⟨x2, r2, q⟩ := new_list R hp (by rw [List.length_flatten]; simp [List.map_replicate]; rw [Nat.mul_comm]; exact hz') (tA.rep i.toNat)
        exact k (.ref p) _ x2 r2 q
      · cases e
    · cases e
  · cases e
abbrev rMulAll (K : PySem.W.Frag) : R2 := fun x y H Q => rI CMul (fun i j => .int (i * j)) x y H Q ∨ rRepT K x y H Q ∨ rRep x y H Q
theorem opMul_ok {C : Ctx} : BinOk C opMul (rMulAll C.K) := fun B st x y v u Q d st' R rx ry e k => by
  unfold opMul at e
  split at e
  · split at e
    · rename_i i j hz
      cases e
      rw [rx.int_inv, ry.int_inv]
      have hc : CMul i j := by
        rcases Bool.or_eq_true_iff.mp hz with h | h
        · exact .inl (smallI_ok h)
        · exact .inr (smallI_ok h)
      exact .inl ⟨_, _, rfl, rfl, hc, k _ B (Ext.refl _ _) R rep_int⟩
    · cases e
  · split at e
    · rename_i xs i hz
      cases e
      obtain ⟨a, vs, rfl, hzA, hA, tA⟩ := rx.tup_inv
      rw [ry.int_inv]
      have hl := tA.length
      have hne : vs ≠ [] := fun e => hz.1 (by rw [e] at hl; exact List.length_eq_zero_iff.mp hl.symm)
      refine .inr (.inl ⟨a, i, vs, rfl, rfl, hA, hne, hz.2.1, hz.2.2.1, by rw [hl]; exact hz.2.2.2, fun p hp => ?_⟩)
      have hb : (List.replicate i.toNat vs).flatten.length ≤ sizeLine := by
        rw [List.length_flatten]; simp [List.map_replicate]; rw [hl]
        have h1 : i.toNat ≤ 1000 := by omega
        have h2 := hz.2.2.2
        calc i.toNat * xs.length ≤ 1000 * 1000 := Nat.mul_le_mul h1 h2
          _ ≤ sizeLine := by decide
      obtain ⟨x2, r2, q⟩ := new_tuple R hp hb (tA.rep i.toNat)
      exact k (.ref p) _ x2 r2 q
    · cases e
  · rename_i i _ _
    cases er : repD st x i with
    | none => rw [er] at e; cases e
    | some p =>
      rw [er] at e
      obtain ⟨xs, st1⟩ := p
      cases e
      refine .inr (.inr (repN2_ok B st x (.int i) v u Q xs st1 R rx ry (by unfold repN2; exact er) fun v' B' x' r' q => ?_))
      obtain ⟨B2, e2, x2, r2, q2⟩ := q.tree r'
      rw [← e2]
      exact k v' B2 (x'.trans x2) r2 q2
  · cases e
def opDiv (x y : D) (st : Sto) : Option (D × Sto) := match x, y with
  | .int i, .int j => if 0 < j ∧ j < 1073741824 then some (.int (i / j), st) else none
  | _, _ => none
theorem opDiv_ok {C : Ctx} : BinOk C opDiv (rI CDiv fun i j => .int (i / j)) := fun B st x y v u Q d st' R rx ry e k => by
  unfold opDiv at e
  split at e
  · split at e
    · rename_i hz
      cases e
      rw [rx.int_inv, ry.int_inv]
      exact ⟨_, _, rfl, rfl, hz, k _ B (Ext.refl _ _) R rep_int⟩
    · cases e
  · cases e
def opMod (x y : D) (st : Sto) : Option (D × Sto) := match x, y with
  | .int i, .int j => if 0 < j then some (.int (i % j), st) else none
  | _, _ => none
theorem opMod_ok {C : Ctx} : BinOk C opMod (rI (fun _ j => 0 < j) fun i j => .int (i % j)) := fun B st x y v u Q d st' R rx ry e k => by
  unfold opMod at e
  split at e
  · split at e
    · rename_i hz
      cases e
      rw [rx.int_inv, ry.int_inv]
      exact ⟨_, _, rfl, rfl, hz, k _ B (Ext.refl _ _) R rep_int⟩
    · cases e
  · cases e
def opNeg (x : D) (st : Sto) : Option (D × Sto) := match x with
  | .int i => some (.int (-i), st)
  | _ => none
theorem opNeg_ok {C : Ctx} : UnOk C opNeg (rU fun i => .int (-i)) := fun B st x v Q d st' R rx e k => by
  unfold opNeg at e
  split at e
  · cases e
    rw [rx.int_inv]
    exact ⟨_, rfl, k _ B (Ext.refl _ _) R rep_int⟩
  · cases e

/-! ### comparisons -/
def opCmp (p : Int → Int → Bool) (x y : D) (st : Sto) : Option (D × Sto) := match x, y with
  | .int i, .int j => some (.bl (p i j), st)
  | _, _ => none
theorem opCmp_ok {C : Ctx} {p : Int → Int → Bool} : BinOk C (opCmp p) (rI0 fun i j => .bl (p i j)) := fun B st x y v u Q d st' R rx ry e k => by
  unfold opCmp at e
  split at e
  · cases e
    rw [rx.int_inv, ry.int_inv]
    exact ⟨_, _, rfl, rfl, k _ B (Ext.refl _ _) R rep_bl⟩
  · cases e
abbrev opLt := opCmp fun i j => decide (i < j)
abbrev opLe := opCmp fun i j => decide (i ≤ j)
abbrev opGt := opCmp fun i j => decide (j < i)
abbrev opGe := opCmp fun i j => decide (j ≤ i)

mutual
/-- a datum: no place in it, texts of signs, so deep at most -/
def D.ok (n : Nat) : D → Bool
  | .non => true
  | .bl _ => true
  | .int _ => true
  | .str s => PyData.strOk s
  | .tup xs => decide (0 < n) && D.okL (n - 1) xs
  | .lst xs => decide (0 < n) && D.okL (n - 1) xs
  | .scr _ => decide (0 < n)
  | _ => false
def D.okL (n : Nat) : List D → Bool
  | [] => true
  | x :: xs => D.ok n x && D.okL n xs
end
mutual
def D.py : D → PyData
  | .non => .none
  | .bl b => .bool b
  | .int i => .int i
  | .str s => .str s
  | .tup xs => .tuple (D.pyL xs)
  | .lst xs => .list (D.pyL xs)
  | .scr ns => .list (ns.map .int)
  | _ => .none
def D.pyL : List D → List PyData
  | [] => []
  | x :: xs => D.py x :: D.pyL xs
end
mutual
/-- == of data -/
def D.eq : D → D → Bool
  | .non, .non => true
  | .bl a, .bl b => a == b
  | .bl a, .int j => (if a then 1 else 0) == j
  | .int i, .bl b => i == (if b then 1 else 0)
  | .int i, .int j => i == j
  | .str a, .str b => a == b
  | .lst a, .lst b => D.eqL a b
  | .tup a, .tup b => D.eqL a b
  | _, _ => false
def D.eqL : List D → List D → Bool
  | [], [] => true
  | x :: xs, y :: ys => D.eq x y && D.eqL xs ys
  | _, _ => false
end
/-- a place's list, the script's, as a datum -/
def top (st : Sto) (d : D) : D := match rdOf st d with
  | some xs => .lst xs
  | none => d
/- no script within -/
mutual
def D.ns : D → Bool
  | .tup xs => D.nsL xs
  | .lst xs => D.nsL xs
  | .scr _ => false
  | .ref _ => false
  | .dic _ _ => false
  | .exc _ => false
  | .thk => false
  | .glo _ => false
  | _ => true
def D.nsL : List D → Bool
  | [] => true
  | x :: xs => D.ns x && D.nsL xs
end
mutual
theorem D.eqv_py : ∀ (x y : D), D.ns x = true → D.ns y = true → PyData.eqv (D.py x) (D.py y) = D.eq x y
  | .non, y, _, hy => by cases y <;> simp [D.py, D.eq, PyData.eqv] <;> simp [D.ns] at hy
  | .bl b, y, _, hy => by cases y <;> simp [D.py, D.eq, PyData.eqv] <;> simp [D.ns] at hy
  | .int i, y, _, hy => by cases y <;> simp [D.py, D.eq, PyData.eqv] <;> simp [D.ns] at hy
  | .str s, y, _, hy => by cases y <;> simp [D.py, D.eq, PyData.eqv] <;> simp [D.ns] at hy
  | .tup xs, y, hx, hy => by
    cases y <;> simp [D.py, D.eq, PyData.eqv] <;> simp [D.ns] at hx hy
    exact D.eqv_pyL _ _ hx hy
  | .lst xs, y, hx, hy => by
    cases y <;> simp [D.py, D.eq, PyData.eqv] <;> simp [D.ns] at hx hy
    exact D.eqv_pyL _ _ hx hy
  | .dic _ _, y, hx, _ => by simp [D.ns] at hx
  | .ref _, y, hx, _ => by simp [D.ns] at hx
  | .exc _, y, hx, _ => by simp [D.ns] at hx
  | .scr _, y, hx, _ => by simp [D.ns] at hx
  | .thk, y, hx, _ => by simp [D.ns] at hx
  | .glo _, y, hx, _ => by simp [D.ns] at hx
theorem D.eqv_pyL : ∀ (xs ys : List D), D.nsL xs = true → D.nsL ys = true → PyData.eqvAll (D.pyL xs) (D.pyL ys) = D.eqL xs ys
  | [], [], _, _ => by simp [D.pyL, D.eqL, PyData.eqvAll]
  | [], y :: ys, _, _ => by simp [D.pyL, D.eqL, PyData.eqvAll]
  | x :: xs, [], _, _ => by simp [D.pyL, D.eqL, PyData.eqvAll]
  | x :: xs, y :: ys, hx, hy => by
    simp [D.nsL] at hx hy
    simp [D.pyL, D.eqL, PyData.eqvAll]
    rw [D.eqv_py x y hx.1 hy.1, D.eqv_pyL xs ys hx.2 hy.2]
end
mutual
theorem D.ok_shape : ∀ (n : Nat) (x : D), D.ok n x = true → PyData.canLay0 (D.py x) = true ∧ PyData.depth (D.py x) ≤ n
  | n, .non, _ => by simp [D.py, PyData.canLay0, PyData.depth]
  | n, .bl _, _ => by simp [D.py, PyData.canLay0, PyData.depth]
  | n, .int _, _ => by simp [D.py, PyData.canLay0, PyData.depth]
  | n, .str s, h => by
    simp [D.ok] at h
    simp [D.py, PyData.canLay0, PyData.depth, h]
  | n, .tup xs, h => by
    simp [D.ok] at h
    obtain ⟨h1, h2⟩ := D.ok_shapeL (n - 1) xs h.2
    simp [D.py, PyData.canLay0, PyData.depth, h1]
    omega
  | n, .lst xs, h => by
    simp [D.ok] at h
    obtain ⟨h1, h2⟩ := D.ok_shapeL (n - 1) xs h.2
    simp [D.py, PyData.canLay0, PyData.depth, h1]
    omega
  | n, .scr ns, h => by
    simp [D.ok] at h
    have : ∀ ns : List Int, PyData.canLayAll0 (ns.map PyData.int) = true ∧ PyData.depthAll (ns.map PyData.int) = 0 := fun ns => by
      induction ns with
      | nil => simp [PyData.canLayAll0, PyData.depthAll]
      | cons a r ih => simp [PyData.canLayAll0, PyData.depthAll, PyData.canLay0, PyData.depth, ih]
    simp [D.py, PyData.canLay0, PyData.depth, this]
    omega
  | n, .dic _ _, h => by simp [D.ok] at h
  | n, .ref _, h => by simp [D.ok] at h
  | n, .exc _, h => by simp [D.ok] at h
  | n, .thk, h => by simp [D.ok] at h
  | n, .glo _, h => by simp [D.ok] at h
theorem D.ok_shapeL : ∀ (n : Nat) (xs : List D), D.okL n xs = true → PyData.canLayAll0 (D.pyL xs) = true ∧ PyData.depthAll (D.pyL xs) ≤ n
  | n, [], _ => by simp [D.pyL, PyData.canLayAll0, PyData.depthAll]
  | n, x :: xs, h => by
    simp [D.okL] at h
    obtain ⟨h1, h2⟩ := D.ok_shape n x h.1
    obtain ⟨h3, h4⟩ := D.ok_shapeL n xs h.2
    simp [D.pyL, PyData.canLayAll0, PyData.depthAll, h1, h3]
    omega
end
theorem D.ok_shaped {x : D} (h : D.ok 60 x = true) : SeqAt.shaped (D.py x) = true := by
  obtain ⟨h1, h2⟩ := D.ok_shape 60 x h
  unfold SeqAt.shaped
  simp [h1]; omega
section
variable {C : Ctx} {B : Bd} {st : Sto}
mutual
theorem D.dp (R : RelH C B st) : ∀ (n : Nat) (x : D) (v : V), D.ok n x = true → D.ns x = true → Rep C B x v → Dp C.K B.H v (D.py x)
  | _, .non, v, _, _, r => by rw [r.non_inv]; simp only [D.py]; exact .non
  | _, .bl _, v, _, _, r => by rw [r.bl_inv]; simp only [D.py]; exact .bl _
  | _, .int _, v, _, _, r => by rw [r.int_inv]; simp only [D.py]; exact .int _
  | _, .str _, v, _, _, r => by rw [r.str_inv]; simp only [D.py]; exact .str _
  | n, .tup xs, v, h, hn, r => by
    simp [D.ok] at h
    simp [D.ns] at hn
    obtain ⟨a, vs, rfl, _, q, t⟩ := r.tup_inv
    simp only [D.py]
    exact .tup q (D.dpL R (n - 1) xs vs h.2 hn t)
  | n, .lst xs, v, h, hn, r => by
    simp [D.ok] at h
    simp [D.ns] at hn
    obtain ⟨a, vs, rfl, q, _, t⟩ := lstOf_rep R (d := .lst xs) rfl r
    simp only [D.py]
    exact .lst (SqL.of q) (D.dpL R (n - 1) xs vs h.2 hn t)
  | _, .scr ns, v, _, hn, r => by simp [D.ns] at hn
  | _, .dic _ _, v, h, _, r => by simp [D.ok] at h
  | _, .ref _, v, h, _, r => by simp [D.ok] at h
  | _, .exc _, v, h, _, r => by simp [D.ok] at h
  | _, .thk, v, h, _, r => by simp [D.ok] at h
  | _, .glo _, v, h, _, r => by simp [D.ok] at h
theorem D.dpL (R : RelH C B st) : ∀ (n : Nat) (xs : List D) (vs : List V), D.okL n xs = true → D.nsL xs = true → RepL C B xs vs → DpAll C.K B.H vs (D.pyL xs)
  | _, [], vs, _, _, r => by rw [r.nil_inv]; simp only [D.pyL]; exact .nil
  | n, x :: xs, vs, h, hn, r => by
    simp [D.okL] at h
    simp [D.nsL] at hn
    obtain ⟨v, u, rfl, q, t⟩ := r.cons_inv
    simp only [D.pyL]
    exact .cons (D.dp R n x v h.1 hn.1 q) (D.dpL R n xs u h.2 hn.2 t)
end
/-- a datum, or a place's list -/
theorem top_dp (R : RelH C B st) {d : D} {v : V} (h : D.ok 60 (top st d) = true) (hn : D.ns (top st d) = true) (r : Rep C B d v) : Dp C.K B.H v (D.py (top st d)) := by
  unfold top at h hn ⊢
  cases e : rdOf st d with
  | none => rw [e] at h hn; exact D.dp R 60 d v h hn r
  | some xs =>
    rw [e] at h hn
    obtain ⟨a, vs, rfl, q, _, t⟩ := rdOf_rep R e r
    simp [D.ok] at h
    simp [D.ns] at hn
    show Dp C.K B.H (.ref a) (D.py (.lst xs))
    simp only [D.py]
    exact .lst q (D.dpL R 59 xs vs h hn t)
end
/-- two flat things that == tells apart as data does -/
def flat2 : D → D → Option Bool
  | .non, .non => some true
  | .int i, .int j => some (decide (i = j))
  | .str a, .str b => some (decide (a = b))
  | .bl a, .bl b => some (decide (a = b))
  | .int _, .str _ => some false
  | .str _, .int _ => some false
  | _, _ => none
def eqOf (st : Sto) (x y : D) : Option Bool := match flat2 x y with
  | some b => some b
  | none => if D.ok 60 (top st x) && D.ns (top st x) && (D.ok 60 (top st y) && D.ns (top st y)) then some (D.eq (top st x) (top st y)) else none
def opEq (x y : D) (st : Sto) : Option (D × Sto) := (eqOf st x y).map fun b => (.bl b, st)
def opNe (x y : D) (st : Sto) : Option (D × Sto) := (eqOf st x y).map fun b => (.bl !b, st)
theorem flat2_scal {C : Ctx} {B : Bd} {x y : D} {v u : V} {b : Bool} (h : flat2 x y = some b) (rx : Rep C B x v) (ry : Rep C B y u) : scal v u = true ∧ decide (v = u) = b := by
  unfold flat2 at h
  split at h <;> cases h
  · rw [rx.non_inv, ry.non_inv]; exact ⟨rfl, by simp⟩
  · rw [rx.int_inv, ry.int_inv]; exact ⟨rfl, by simp⟩
  · rw [rx.str_inv, ry.str_inv]; exact ⟨rfl, by simp⟩
  · rw [rx.bl_inv, ry.bl_inv]; exact ⟨rfl, by simp⟩
  · rw [rx.int_inv, ry.str_inv]; exact ⟨rfl, by simp⟩
  · rw [rx.str_inv, ry.int_inv]; exact ⟨rfl, by simp⟩
abbrev rEqAll (K : PySem.W.Frag) : R2 := fun x y H Q => rEq x y H Q ∨ rEqD K x y H Q
abbrev rNeAll (K : PySem.W.Frag) : R2 := fun x y H Q => rNe x y H Q ∨ rNeD K x y H Q
theorem opEq_ok {C : Ctx} : BinOk C opEq (rEqAll C.K) := fun B st x y v u Q d st' R rx ry e k => by
  unfold opEq eqOf at e
  cases f : flat2 x y with
  | some b =>
    rw [f] at e; cases e
    obtain ⟨h1, h2⟩ := flat2_scal f rx ry
    exact .inl ⟨h1, by rw [h2]; exact k _ B (Ext.refl _ _) R rep_bl⟩
  | none =>
    rw [f] at e
    dsimp only at e
    split at e
    · rename_i h
      cases e
      simp only [Bool.and_eq_true] at h
      exact .inr ⟨_, _, top_dp R h.1.1 h.1.2 rx, top_dp R h.2.1 h.2.2 ry, D.ok_shaped h.1.1, D.ok_shaped h.2.1, by rw [D.eqv_py _ _ h.1.2 h.2.2]; exact k _ B (Ext.refl _ _) R rep_bl⟩
    · cases e
theorem opNe_ok {C : Ctx} : BinOk C opNe (rNeAll C.K) := fun B st x y v u Q d st' R rx ry e k => by
  unfold opNe eqOf at e
  cases f : flat2 x y with
  | some b =>
    rw [f] at e; cases e
    obtain ⟨h1, h2⟩ := flat2_scal f rx ry
    exact .inl ⟨h1, by rw [h2]; exact k _ B (Ext.refl _ _) R rep_bl⟩
  | none =>
    rw [f] at e
    dsimp only at e
    split at e
    · rename_i h
      cases e
      simp only [Bool.and_eq_true] at h
      exact .inr ⟨_, _, top_dp R h.1.1 h.1.2 rx, top_dp R h.2.1 h.2.2 ry, D.ok_shaped h.1.1, D.ok_shaped h.2.1, by rw [D.eqv_py _ _ h.1.2 h.2.2]; exact k _ B (Ext.refl _ _) R rep_bl⟩
    · cases e
theorem Rep.non_iff {C : Ctx} {B : Bd} {x : D} {v : V} (r : Rep C B x v) : decide (v = .non) = decide (x = .non) := by
  cases x with
  | non => rw [r.non_inv]; simp
  | bl b => rw [r.bl_inv]; simp
  | int b => rw [r.int_inv]; simp
  | str b => rw [r.str_inv]; simp
  | tup b => obtain ⟨a, vs, rfl, _⟩ := r.tup_inv; simp
  | lst b => unfold Rep at r; obtain ⟨a, vs, rfl, _⟩ := r; simp
  | dic k b => unfold Rep at r; obtain ⟨a, vs, rfl, _⟩ := r; simp
  | ref i => obtain ⟨a, _, rfl⟩ := r.ref_inv; simp
  | exc c => unfold Rep at r; obtain ⟨a, Ca, rfl, _⟩ := r; simp
  | scr ns => unfold Rep at r; rw [r.2]; simp
  | thk => unfold Rep at r; obtain ⟨p, _, rfl⟩ := r; simp
  | glo c => unfold Rep at r; obtain ⟨a, _, rfl⟩ := r; simp
def opIsN (x y : D) (st : Sto) : Option (D × Sto) := if y = .non then some (.bl (decide (x = .non)), st) else none
def opNotN (x y : D) (st : Sto) : Option (D × Sto) := if y = .non then some (.bl (!decide (x = .non)), st) else none
theorem opIsN_ok {C : Ctx} : BinOk C opIsN (fun x y H Q => y = .non ∧ Q (.bl (decide (x = .non))) H) := fun B st x y v u Q d st' R rx ry e k => by
  unfold opIsN at e
  split at e
  · rename_i hy
    subst hy
    cases e
    exact ⟨ry.non_inv, by rw [rx.non_iff]; exact k _ B (Ext.refl _ _) R rep_bl⟩
  · cases e
theorem opNotN_ok {C : Ctx} : BinOk C opNotN (fun x y H Q => y = .non ∧ Q (.bl (!decide (x = .non))) H) := fun B st x y v u Q d st' R rx ry e k => by
  unfold opNotN at e
  split at e
  · rename_i hy
    subst hy
    cases e
    exact ⟨ry.non_inv, by rw [rx.non_iff]; exact k _ B (Ext.refl _ _) R rep_bl⟩
  · cases e

/-! ### the rules -/
section
variable {X : Cx} {C : Ctx} {W : WX} {a b c : Expr} {ca cb cc : M D} {pos : Pos}
theorem e_add (hK : C.K = X.K := by rfl) (ha : PE X a (te C W ca)) (hb : PE X b (te C W cb)) : PE X (.BinOp a .Add b pos) (te C W (bin opAdd ca cb)) :=
  e_bin (op_add.or (op_add_str.or ((hK ▸ op_catA).or op_cat))) opAdd_ok ha hb
theorem n_cat (ha : PE X a (te C W ca)) (hb : PE X b (te C W cb)) : PE X (.BinOp a .Add b pos) (tn C W (bin catN ca cb)) := n_bin op_cat catN_ok ha hb
theorem e_sub (ha : PE X a (te C W ca)) (hb : PE X b (te C W cb)) : PE X (.BinOp a .Sub b pos) (te C W (bin opSub ca cb)) := e_bin op_sub opSub_ok ha hb
theorem e_mul (hK : C.K = X.K := by rfl) (ha : PE X a (te C W ca)) (hb : PE X b (te C W cb)) : PE X (.BinOp a .Mult b pos) (te C W (bin opMul ca cb)) := e_bin (op_mul.or ((hK ▸ op_repT).or op_rep)) opMul_ok ha hb
theorem n_rep (ha : PE X a (te C W ca)) (hb : PE X b (te C W cb)) : PE X (.BinOp a .Mult b pos) (tn C W (bin repN2 ca cb)) := n_bin op_rep repN2_ok ha hb
theorem e_div (ha : PE X a (te C W ca)) (hb : PE X b (te C W cb)) : PE X (.BinOp a .FloorDiv b pos) (te C W (bin opDiv ca cb)) := e_bin op_fdiv opDiv_ok ha hb
theorem e_mod (ha : PE X a (te C W ca)) (hb : PE X b (te C W cb)) : PE X (.BinOp a .Mod b pos) (te C W (bin opMod ca cb)) := e_bin op_mod opMod_ok ha hb
theorem e_neg (ha : PE X a (te C W ca)) : PE X (.UnaryOp .USub a pos) (te C W (un opNeg ca)) := e_un un_neg opNeg_ok ha
theorem e_lt (ha : PE X a (te C W ca)) (hb : PE X b (te C W cb)) : PE X (.Compare a [.Lt] [b] pos) (te C W (bin opLt ca cb)) := e_cmp op_lt opCmp_ok ha hb (nomark _)
theorem e_le (ha : PE X a (te C W ca)) (hb : PE X b (te C W cb)) : PE X (.Compare a [.LtE] [b] pos) (te C W (bin opLe ca cb)) := e_cmp op_le opCmp_ok ha hb (nomark _)
theorem e_gt (ha : PE X a (te C W ca)) (hb : PE X b (te C W cb)) : PE X (.Compare a [.Gt] [b] pos) (te C W (bin opGt ca cb)) := e_cmp op_gt opCmp_ok ha hb (nomark _)
theorem e_ge (ha : PE X a (te C W ca)) (hb : PE X b (te C W cb)) : PE X (.Compare a [.GtE] [b] pos) (te C W (bin opGe ca cb)) := e_cmp op_ge opCmp_ok ha hb (nomark _)
theorem e_eq (hK : C.K = X.K := by rfl) (hu : X.A.units + 64 < cLine) (ha : PE X a (te C W ca)) (hb : PE X b (te C W cb)) : PE X (.Compare a [.Eq] [b] pos) (te C W (bin opEq ca cb)) := e_cmp (op_eq.or (hK ▸ op_eqD hu)) opEq_ok ha hb (nomark _)
theorem e_ne (hK : C.K = X.K := by rfl) (hu : X.A.units + 64 < cLine) (ha : PE X a (te C W ca)) (hb : PE X b (te C W cb)) : PE X (.Compare a [.NotEq] [b] pos) (te C W (bin opNe ca cb)) := e_cmp (op_ne.or (hK ▸ op_neD hu)) opNe_ok ha hb (nomark _)
theorem e_isN (ha : PE X a (te C W ca)) (hb : PE X b (te C W cb)) : PE X (.Compare a [.Is] [b] pos) (te C W (bin opIsN ca cb)) := e_cmp op_isN opIsN_ok ha hb (nomark _)
theorem e_notN (ha : PE X a (te C W ca)) (hb : PE X b (te C W cb)) : PE X (.Compare a [.IsNot] [b] pos) (te C W (bin opNotN ca cb)) := e_cmp op_notN opNotN_ok ha hb (nomark _)

/-- a op b op' c -/
def chain (f g : D → D → Sto → Option (D × Sto)) (a b c : M D) : M D := bnd a fun x => bnd b fun y => bnd (lift (f x y)) fun k => match k with
  | .bl true => bnd c fun z => lift (g y z)
  | .bl false => ret (.bl false)
  | _ => fun _ _ => .bad
theorem e_chain {op op' : CmpOp} {r r' : R2} {f g : D → D → Sto → Option (D × Sto)} (ho : OpR X (compareOp op) r) (ho' : OpR X (compareOp op') r') (hf : BinOk C f r) (hg : BinOk C g r')
    (ha : PE X a (te C W ca)) (hb : PE X b (te C W cb)) (hc : PE X c (te C W cc)) (hm : lastMarks [op, op'] [b, c] = false := by with_unfolding_all rfl) : PE X (.Compare a [op, op'] [b, c] pos) (te C W (chain f g ca cb cc)) := by
  refine (pe_chain ho ho' ha hb hc hm).imp fun σ H Q ⟨env, st, B, e, rr, p⟩ => ?_
  subst e
  refine (seq rr p).mono fun v H1 ⟨x, st1, B1, e1, x1, r1, p1, k1⟩ => ?_
  subst e1
  refine (seq r1 k1).mono fun u H2 ⟨y, st2, B2, e2, x2, r2, p2, k2⟩ => ?_
  subst e2
  cases ef : f x y st2 with
  | none => unfold bnd lift at k2; rw [ef] at k2; exact k2.elim
  | some q =>
    obtain ⟨d, st3⟩ := q
    unfold bnd lift at k2
    rw [ef] at k2
    dsimp only at k2
    refine hf B2 st2 x y v u _ d st3 r2.h (p1.mono x2) p2 ef fun v' B3 x3 r3 q3 => ?_
    have rr3 := r2.of x3 r3
    split at k2
    · refine ⟨true, q3.bl_inv, ?_⟩
      rw [if_pos rfl]
      have k2 : post C W (fun B => Rep C B) σ env B2 Q (bnd cc (fun z => lift (g y z)) env st3) := k2
      refine (seq rr3 (k2.later x3)).mono fun w H4 ⟨z, st4, B4, e4, x4, r4, p4, k4⟩ => ?_
      subst e4
      obtain ⟨d', st', e, k⟩ := post_lift k4
      exact hg B4 st4 y z u w Q d' st' r4.h (p2.mono (x3.trans x4)) p4 e fun v' B' x' h' q => k v' B' x' (r4.of x' h') q
    · refine ⟨false, q3.bl_inv, ?_⟩
      rw [if_neg Bool.false_ne_true]
      exact k2 (.bl false) B3 x3 rr3 rep_bl
    · exact k2.elim
theorem e_le_le (ha : PE X a (te C W ca)) (hb : PE X b (te C W cb)) (hc : PE X c (te C W cc)) (hm : lastMarks [.LtE, .LtE] [b, c] = false := by with_unfolding_all rfl) : PE X (.Compare a [.LtE, .LtE] [b, c] pos) (te C W (chain opLe opLe ca cb cc)) := e_chain op_le op_le opCmp_ok opCmp_ok ha hb hc hm
theorem e_le_lt (ha : PE X a (te C W ca)) (hb : PE X b (te C W cb)) (hc : PE X c (te C W cc)) (hm : lastMarks [.LtE, .Lt] [b, c] = false := by with_unfolding_all rfl) : PE X (.Compare a [.LtE, .Lt] [b, c] pos) (te C W (chain opLe opLt ca cb cc)) := e_chain op_le op_lt opCmp_ok opCmp_ok ha hb hc hm

/-! ### tests -/
/-- a value that is True or False, as a test -/
def tst (c : M D) : M Bool := bnd c fun d => match d with
  | .bl b => ret b
  | _ => fun _ _ => .bad
def mnot (c : M Bool) : M Bool := bnd c fun b => ret !b
def mand (a b : M Bool) : M Bool := bnd a fun x => if x = true then b else ret false
def mor (a b : M Bool) : M Bool := bnd a fun x => if x = true then ret true else b
variable {ta' tb' : M Bool} {rest : List Expr}
theorem t_val {e : Expr} (h : PE X e (te C W ca)) (he : ∀ whole, isTrue e X.env whole = (do let v ← whole; standAt e.pos; holding [v] (truthy v)) := by intro _; rfl) : PT X e (tb C W (tst ca)) :=
  (pt_val h he).imp fun σ H Q ⟨env, st, B, e, rr, p⟩ => by
    subst e
    refine (seq rr p).mono fun v H1 ⟨x, st1, B1, e1, x1, r1, p1, k1⟩ => ?_
    subst e1
    split at k1
    · exact ⟨_, p1.bl_inv, k1 _ B1 (Ext.refl _ _) r1 rfl⟩
    · exact k1.elim
/-- a comparison as a test -/
theorem t_cmp {op : List CmpOp} {bs : List Expr} (h : PE X (.Compare a op bs pos) (te C W ca)) (ht : ∀ {t}, PE X (.Compare a op bs pos) t → PT X (.Compare a op bs pos) (tTest t)) : PT X (.Compare a op bs pos) (tb C W (tst ca)) :=
  (ht h).imp fun σ H Q ⟨env, st, B, e, rr, p⟩ => by
    subst e
    refine (seq rr p).mono fun v H1 ⟨x, st1, B1, e1, x1, r1, p1, k1⟩ => ?_
    subst e1
    split at k1
    · exact ⟨_, p1.bl_inv, k1 _ B1 (Ext.refl _ _) r1 rfl⟩
    · exact k1.elim
theorem t_not (h : PT X a (tb C W ta')) : PT X (.UnaryOp .Not a pos) (tb C W (mnot ta')) := (pt_not h).imp fun σ H Q ⟨env, st, B, e, rr, p⟩ => by
  subst e
  refine (seq rr p).mono fun v H1 ⟨x, st1, B1, e1, x1, r1, p1, k1⟩ => ?_
  subst e1
  subst p1
  exact k1 _ B1 (Ext.refl _ _) r1 rfl
theorem w_and1 (h : PT X a (tb C W ta')) : PW X (.BoolOp .And [a] pos) (tb C W ta') := pw_and1 h
theorem w_or1 (h : PT X a (tb C W ta')) : PW X (.BoolOp .Or [a] pos) (tb C W ta') := pw_or1 h
theorem w_and (ha : PT X a (tb C W ta')) (hb : PW X (.BoolOp .And (b :: rest) pos) (tb C W tb')) : PW X (.BoolOp .And (a :: b :: rest) pos) (tb C W (mand ta' tb')) := (pw_and ha hb).imp fun σ H Q ⟨env, st, B, e, rr, p⟩ => by
  subst e
  refine (seq rr p).mono fun v H1 ⟨x, st1, B1, e1, x1, r1, p1, k1⟩ => ?_
  subst e1
  subst p1
  cases x with
  | true => rw [if_pos rfl] at k1 ⊢; exact ⟨env, st1, B1, rfl, r1, k1⟩
  | false => rw [if_neg Bool.false_ne_true] at k1 ⊢; exact k1 _ B1 (Ext.refl _ _) r1 rfl
theorem w_or (ha : PT X a (tb C W ta')) (hb : PW X (.BoolOp .Or (b :: rest) pos) (tb C W tb')) : PW X (.BoolOp .Or (a :: b :: rest) pos) (tb C W (mor ta' tb')) := (pw_or ha hb).imp fun σ H Q ⟨env, st, B, e, rr, p⟩ => by
  subst e
  refine (seq rr p).mono fun v H1 ⟨x, st1, B1, e1, x1, r1, p1, k1⟩ => ?_
  subst e1
  subst p1
  cases x with
  | true => rw [if_pos rfl] at k1 ⊢; exact k1 _ B1 (Ext.refl _ _) r1 rfl
  | false => rw [if_neg Bool.false_ne_true] at k1 ⊢; exact ⟨env, st1, B1, rfl, r1, k1⟩
theorem t_w (h : PW X a (tb C W ta')) : PT X a (tb C W ta') := h.pt
/-- and, or as values: all but the last True or False -/
def vand (a b : M D) : M D := bnd a fun x => match x with
  | .bl true => b
  | .bl false => ret (.bl false)
  | _ => fun _ _ => .bad
def vor (a b : M D) : M D := bnd a fun x => match x with
  | .bl true => ret (.bl true)
  | .bl false => b
  | _ => fun _ _ => .bad
def vnot (a : M D) : M D := bnd a fun x => match x with
  | .bl b => ret (.bl !b)
  | _ => fun _ _ => .bad
theorem e_one {op} (h : PE X a (te C W ca)) : PE X (.BoolOp op [a] pos) (te C W ca) := pe_one h
theorem e_and (ha : PE X a (te C W ca)) (hb : PE X (.BoolOp .And (b :: rest) pos) (te C W cb)) : PE X (.BoolOp .And (a :: b :: rest) pos) (te C W (vand ca cb)) := (pe_and ha hb).imp fun σ H Q ⟨env, st, B, e, rr, p⟩ => by
  subst e
  refine (seq rr p).mono fun v H1 ⟨x, st1, B1, e1, x1, r1, p1, k1⟩ => ?_
  subst e1
  split at k1
  · refine ⟨true, p1.bl_inv, ?_⟩
    rw [if_pos rfl]; exact ⟨env, st1, B1, rfl, r1, k1⟩
  · refine ⟨false, p1.bl_inv, ?_⟩
    rw [if_neg Bool.false_ne_true]; exact k1 _ B1 (Ext.refl _ _) r1 rep_bl
  · exact k1.elim
theorem e_or (ha : PE X a (te C W ca)) (hb : PE X (.BoolOp .Or (b :: rest) pos) (te C W cb)) : PE X (.BoolOp .Or (a :: b :: rest) pos) (te C W (vor ca cb)) := (pe_or ha hb).imp fun σ H Q ⟨env, st, B, e, rr, p⟩ => by
  subst e
  refine (seq rr p).mono fun v H1 ⟨x, st1, B1, e1, x1, r1, p1, k1⟩ => ?_
  subst e1
  split at k1
  · refine ⟨true, p1.bl_inv, ?_⟩
    rw [if_pos rfl]; exact k1 _ B1 (Ext.refl _ _) r1 rep_bl
  · refine ⟨false, p1.bl_inv, ?_⟩
    rw [if_neg Bool.false_ne_true]; exact ⟨env, st1, B1, rfl, r1, k1⟩
  · exact k1.elim
theorem e_not (ha : PE X a (te C W ca)) : PE X (.UnaryOp .Not a pos) (te C W (vnot ca)) := (pe_not ha).imp fun σ H Q ⟨env, st, B, e, rr, p⟩ => by
  subst e
  refine (seq rr p).mono fun v H1 ⟨x, st1, B1, e1, x1, r1, p1, k1⟩ => ?_
  subst e1
  split at k1
  · exact ⟨_, p1.bl_inv, k1 _ B1 (Ext.refl _ _) r1 rep_bl⟩
  · exact k1.elim
def mif {α : Type} (t : M Bool) (a b : M α) : M α := bnd t fun x => if x = true then a else b
theorem e_if {t : Expr} (ht : PT X t (tb C W ta')) (ha : PE X a (te C W ca)) (hb : PE X b (te C W cb)) : PE X (.IfExp t a b pos) (te C W (mif ta' ca cb)) := (pe_ifExp ht ha hb).imp fun σ H Q ⟨env, st, B, e, rr, p⟩ => by
  subst e
  refine (seq rr p).mono fun v H1 ⟨x, st1, B1, e1, x1, r1, p1, k1⟩ => ?_
  subst e1
  subst p1
  cases x with
  | true => rw [if_pos rfl] at k1 ⊢; exact ⟨env, st1, B1, rfl, r1, k1⟩
  | false => rw [if_neg Bool.false_ne_true] at k1 ⊢; exact ⟨env, st1, B1, rfl, r1, k1⟩
end
end Ly
/-! Subscripts, slices, built-ins. -/
namespace Ly
open PySem PySem.Spec PyProof.Rows L2

/-! ### subscripts -/
theorem RepL.atI {C : Ctx} {B : Bd} {ds : List D} {vs : List V} {i : Int} {d : D} (h : RepL C B ds vs) (e : L2.atI ds i = some d) : ∃ v, L2.atI vs i = some v ∧ Rep C B d v := by
  unfold L2.atI at e ⊢
  rw [h.length]
  cases q : ixN ds.length i with
  | none => rw [q] at e; cases e
  | some j =>
    rw [q] at e
    exact h.get e
def opIx (x y : D) (st : Sto) : Option (D × Sto) := match y with
  | .int i => match x with
    | .tup xs => (atI xs i).map fun d => (d, st)
    | .str z => if z.length ≤ sizeLine then (atI z.cps.toList i).map fun c => (.str ⟨#[c]⟩, st) else none
    | x => (rdOf st x).bind fun xs => (atI xs i).map fun d => (d, st)
  | _ => none
theorem opIx_ok {C : Ctx} : BinOk C opIx (rIx C.K) := fun B st x y v u Q d st' R rx ry e k => by
  unfold opIx at e
  split at e
  · rename_i i
    rw [ry.int_inv]
    split at e
    · rename_i xs
      cases q : atI xs i with
      | none => rw [q] at e; cases e
      | some d' =>
        rw [q] at e; cases e
        obtain ⟨a, vs, rfl, hz, hq, t⟩ := rx.tup_inv
        obtain ⟨v', q2, r2⟩ := t.atI q
        exact .inr (.inl ⟨a, vs, i, v', rfl, rfl, hq, q2, k v' B (Ext.refl _ _) R r2⟩)
    · rename_i z
      split at e
      · rename_i hz
        cases q : atI z.cps.toList i with
        | none => rw [q] at e; cases e
        | some c =>
          rw [q] at e; cases e
          rw [rx.str_inv]
          exact .inr (.inr ⟨z, i, c, rfl, rfl, hz, q, k _ B (Ext.refl _ _) R rep_str⟩)
      · cases e
    · cases ex : rdOf st x with
      | none => rw [ex] at e; cases e
      | some xs =>
        rw [ex] at e
        cases q : atI xs i with
        | none => rw [Option.bind_some, q] at e; cases e
        | some d' =>
          rw [Option.bind_some, q] at e; cases e
          obtain ⟨a, vs, rfl, hq, hz, t⟩ := rdOf_rep R ex rx
          obtain ⟨v', q2, r2⟩ := t.atI q
          exact .inl ⟨a, vs, i, v', rfl, rfl, hq, q2, k v' B (Ext.refl _ _) R r2⟩
  · cases e
def cut {α : Type} (xs : List α) (lo hi : Option Int) : List α := (xs.drop (HT.sIx xs.length 0 lo)).take (HT.sIx xs.length xs.length hi - HT.sIx xs.length 0 lo)
theorem RepL.cut {C : Ctx} {B : Bd} {ds : List D} {vs : List V} (h : RepL C B ds vs) (lo hi : Option Int) : RepL C B (cut ds lo hi) (cutV vs lo hi) := by
  unfold Ly.cut cutV
  rw [h.length]
  exact (h.drop _).take _
theorem cut_length {α : Type} (xs : List α) (lo hi : Option Int) : (cut xs lo hi).length ≤ xs.length := by
  unfold cut
  rw [List.length_take, List.length_drop]; omega
def slN (lo hi : Option Int) (x : D) (st : Sto) : Option (List D × Sto) := (rdOf st x).map fun xs => (cut xs lo hi, st)
def opSl (lo hi : Option Int) (x : D) (st : Sto) : Option (D × Sto) := match x with
  | .tup xs => some (.tup (cut xs lo hi), st)
  | .str z => if z.length ≤ sizeLine then some (.str (cutS z lo hi), st) else none
  | x => (rdOf st x).map fun xs => (.lst (cut xs lo hi), st)
abbrev rSlAll (K : PySem.W.Frag) : V → Option Int → Option Int → Hp → VK → Prop := fun x lo hi H Q => rSlL K x lo hi H Q ∨ rSlA K x lo hi H Q ∨ rSlS x lo hi H Q
theorem slN_ok {C : Ctx} {lo hi : Option Int} {B : Bd} {st : Sto} {x : D} {v : V} {Q : VK} {ds : List D} {st' : Sto} (R : RelH C B st) (rx : Rep C B x v) (e : slN lo hi x st = some (ds, st'))
    (k : ∀ v' B', Ext C B B' → RelH C B' st' → repN C B' ds v' → Q v' B'.H) : rSlL C.K v lo hi B.H Q := by
  unfold slN at e
  cases ex : rdOf st x with
  | none => rw [ex] at e; cases e
  | some xs =>
    rw [ex] at e; cases e
    obtain ⟨a, vs, rfl, hq, hz, t⟩ := rdOf_rep R ex rx
    refine ⟨a, vs, rfl, hq, fun p hp => ?_⟩
    obtain ⟨x2, r2, q⟩ := new_list R hp (Nat.le_trans (cutV_length vs lo hi) hz) (t.cut lo hi)
    exact k (.ref p) _ x2 r2 q
theorem opSl_ok {C : Ctx} {lo hi : Option Int} {B : Bd} {st : Sto} {x : D} {v : V} {Q : VK} {d : D} {st' : Sto} (R : RelH C B st) (rx : Rep C B x v) (e : opSl lo hi x st = some (d, st'))
    (k : ∀ v' B', Ext C B B' → RelH C B' st' → Rep C B' d v' → Q v' B'.H) : rSlAll C.K v lo hi B.H Q := by
  unfold opSl at e
  split at e
  · rename_i xs
    cases e
    obtain ⟨a, vs, rfl, hz, hq, t⟩ := rx.tup_inv
    refine .inr (.inl ⟨a, vs, rfl, hq, fun h => ?_, fun h p hp => ?_⟩)
    · have e2 : cut xs lo hi = xs := by
        unfold cut
        rw [← t.length, h.1, h.2]
        rw [List.drop_zero, Nat.sub_zero, t.length, List.take_length]
      rw [e2] at k
      exact k _ B (Ext.refl _ _) R rx
    · obtain ⟨x2, r2, q⟩ := new_tuple R hp (Nat.le_trans (cutV_length vs lo hi) hz) (t.cut lo hi)
      exact k (.ref p) _ x2 r2 q
  · split at e
    · rename_i hz
      cases e
      rw [rx.str_inv]
      exact .inr (.inr ⟨_, rfl, hz, k _ B (Ext.refl _ _) R rep_str⟩)
    · cases e
  · cases ex : rdOf st x with
    | none => rw [ex] at e; cases e
    | some xs =>
      rw [ex] at e; cases e
      refine .inl (slN_ok R rx (by unfold slN; rw [ex]; rfl) fun v' B' x' r' q => ?_)
      obtain ⟨B2, e2, x2, r2, q2⟩ := q.tree r'
      rw [← e2]
      exact k v' B2 (x'.trans x2) r2 q2
section
variable {X : Cx} {C : Ctx} {W : WX} {a b c : Expr} {ca cb cc : M D} {pos p2 : Pos}
theorem e_ix (hK : C.K = X.K := by rfl) (ha : PE X a (te C W ca)) (hb : PE X b (te C W cb)) (hs : PlainIx b := by exact fun _ _ => rfl) : PE X (.Subscript a b pos) (te C W (bin opIx ca cb)) := (pe_ix (hK ▸ ix_seq) ha hb hs).imp (bin_rd (opIx_ok))
/-- a slice's part -/
def part (c : M D) : M (Option Int) := bnd c fun d => match d with
  | .int i => ret (some i)
  | _ => fun _ _ => .bad
theorem o_none : PO X none (to C W (ret none)) := po_none.imp fun σ H Q ⟨env, st, B, e, r, p⟩ => by
  subst e
  exact p _ B (Ext.refl _ _) r rfl
theorem o_some (h : PE X a (te C W ca)) : PO X (some a) (to C W (part ca)) := (po_some h).imp fun σ H Q ⟨env, st, B, e, r, p⟩ => by
  subst e
  refine (seq r p).mono fun v H1 ⟨x, st1, B1, e1, x1, r1, p1, k1⟩ => ?_
  subst e1
  split at k1
  · exact ⟨_, p1.int_inv, k1 _ B1 (Ext.refl _ _) r1 rfl⟩
  · exact k1.elim
def slice {α : Type} (f : Option Int → Option Int → D → Sto → Option (α × Sto)) (a : M D) (l h : M (Option Int)) : M α := bnd a fun x => bnd l fun lo => bnd h fun hi => lift (f lo hi x)
variable {lo hi : Option Expr} {cl ch : M (Option Int)}
theorem e_slice (hK : C.K = X.K := by rfl) (ha : PE X a (te C W ca)) (hl : PO X lo (to C W cl)) (hh : PO X hi (to C W ch)) : PE X (.Subscript a (.Slice lo hi none p2) pos) (te C W (slice opSl ca cl ch)) :=
  (pe_slice (sl_list.or (sl_tupA.or sl_str)) ha hl hh).imp fun σ H Q ⟨env, st, B, e, r, p⟩ => by
    subst e
    refine (seq r p).mono fun v H1 ⟨x, st1, B1, e1, x1, r1, p1, k1⟩ => ?_
    subst e1
    refine (seq r1 k1).mono fun l H2 ⟨l', st2, B2, e2, x2, r2, p2, k2⟩ => ?_
    subst e2
    subst p2
    refine (seq r2 k2).mono fun h H3 ⟨h', st3, B3, e3, x3, r3, p3, k3⟩ => ?_
    subst e3
    subst p3
    obtain ⟨d, st', e, k⟩ := post_lift k3
    rw [← hK]
    exact opSl_ok r3.h (p1.mono (x2.trans x3)) e fun v' B' x' h' q => k v' B' x' (r3.of x' h') q
theorem n_slice (hK : C.K = X.K := by rfl) (ha : PE X a (te C W ca)) (hl : PO X lo (to C W cl)) (hh : PO X hi (to C W ch)) : PE X (.Subscript a (.Slice lo hi none p2) pos) (tn C W (slice slN ca cl ch)) :=
  (pe_slice sl_list ha hl hh).imp fun σ H Q ⟨env, st, B, e, r, p⟩ => by
    subst e
    refine (seq r p).mono fun v H1 ⟨x, st1, B1, e1, x1, r1, p1, k1⟩ => ?_
    subst e1
    refine (seq r1 k1).mono fun l H2 ⟨l', st2, B2, e2, x2, r2, p2, k2⟩ => ?_
    subst e2
    subst p2
    refine (seq r2 k2).mono fun h H3 ⟨h', st3, B3, e3, x3, r3, p3, k3⟩ => ?_
    subst e3
    subst p3
    obtain ⟨d, st', e, k⟩ := post_lift k3
    rw [← hK]
    exact slN_ok r3.h (p1.mono (x2.trans x3)) e fun v' B' x' h' q => k v' B' x' (r3.of x' h') q
end

/-! ### built-ins of one list -/
/-- a list, a tuple -/
def seqOf (st : Sto) : D → Option (List D)
  | .tup xs => some xs
  | d => rdOf st d
theorem seqOf_rep {C : Ctx} {B : Bd} {st : Sto} {d : D} {v : V} {ds : List D} (R : RelH C B st) (h : seqOf st d = some ds) (r : Rep C B d v) :
    ∃ a vs, v = .ref a ∧ (SqL C.K B.H a vs ∨ SqT C.K B.H a vs) ∧ vs.length ≤ sizeLine ∧ RepL C B ds vs := by
  unfold seqOf at h
  split at h
  · cases h
    obtain ⟨a, vs, e, hz, q, t⟩ := r.tup_inv
    exact ⟨a, vs, e, .inr q, hz, t⟩
  · obtain ⟨a, vs, e, q, hz, t⟩ := rdOf_rep R h r
    exact ⟨a, vs, e, .inl q, hz, t⟩
def fLen : List D → Sto → Option (D × Sto)
  | [.str z], st => if z.length ≤ sizeLine then some (.int z.length, st) else none
  | [x], st => (seqOf st x).map fun xs => (.int xs.length, st)
  | _, _ => none
theorem fLen_ok {C : Ctx} : CallOk C fLen (fun xs H Q => ∃ x n, xs = [x] ∧ LenV C.K x H n ∧ Q (.int n) H) := fun B st xs vs Q d st' R r e k => by
  unfold fLen at e
  split at e
  · split at e
    · rename_i z hz
      cases e
      obtain ⟨v, t, rfl, q, h⟩ := r.cons_inv
      rw [h.nil_inv, q.str_inv]
      exact ⟨_, z.length, rfl, ⟨hz, rfl⟩, k _ B (Ext.refl _ _) R rep_int⟩
    · cases e
  · rename_i x _
    cases ex : seqOf st x with
    | none => rw [ex] at e; cases e
    | some ds =>
      rw [ex] at e; cases e
      obtain ⟨v, t, rfl, q, h⟩ := r.cons_inv
      rw [h.nil_inv]
      obtain ⟨a, us, rfl, hq, hz, rl⟩ := seqOf_rep R ex q
      refine ⟨_, us.length, rfl, ?_, ?_⟩
      · rcases hq with hq | hq
        · exact .inl ⟨us, hq, rfl⟩
        · exact .inr ⟨us, hq, rfl⟩
      · rw [rl.length]; exact k _ B (Ext.refl _ _) R rep_int
  · cases e
/-- the ints of a list, its bools, its texts -/
def intsOf : List D → Option (List Int)
  | [] => some []
  | .int i :: r => (intsOf r).map (i :: ·)
  | _ => none
theorem intsOf_map (ns : List Int) : intsOf (ns.map D.int) = some ns := by
  induction ns with
  | nil => rfl
  | cons n r ih => rw [List.map_cons, intsOf, ih]; rfl
theorem intsOf_eq : ∀ {ds : List D} {ns : List Int}, intsOf ds = some ns → ds = ns.map D.int
  | [], ns, h => by unfold intsOf at h; cases h; rfl
  | d :: ds, ns, h => by
    unfold intsOf at h
    split at h
    · rename_i e; cases e
    · rename_i i r e
      cases e
      cases q : intsOf ds with
      | none => rw [q] at h; cases h
      | some ms => rw [q] at h; cases h; rw [List.map_cons, intsOf_eq q]
    · cases h
def blsOf : List D → Option (List Bool)
  | [] => some []
  | .bl i :: r => (blsOf r).map (i :: ·)
  | _ => none
theorem blsOf_map (ns : List Bool) : blsOf (ns.map D.bl) = some ns := by
  induction ns with
  | nil => rfl
  | cons n r ih => rw [List.map_cons, blsOf, ih]; rfl
theorem blsOf_eq : ∀ {ds : List D} {ns : List Bool}, blsOf ds = some ns → ds = ns.map D.bl
  | [], ns, h => by unfold blsOf at h; cases h; rfl
  | d :: ds, ns, h => by
    unfold blsOf at h
    split at h
    · rename_i e; cases e
    · rename_i i r e
      cases e
      cases q : blsOf ds with
      | none => rw [q] at h; cases h
      | some ms => rw [q] at h; cases h; rw [List.map_cons, blsOf_eq q]
    · cases h
/-- a function of a list's ints -/
def fInts (g : List Int → Option Int) : List D → Sto → Option (D × Sto)
  | [x], st => (rdOf st x).bind fun xs => (intsOf xs).bind fun ns => (g ns).map fun i => (.int i, st)
  | _, _ => none
def fBls (g : List Bool → Bool) : List D → Sto → Option (D × Sto)
  | [x], st => (rdOf st x).bind fun xs => (blsOf xs).map fun ns => (.bl (g ns), st)
  | _, _ => none
theorem fInts_inv {C : Ctx} {g : List Int → Option Int} {B : Bd} {st : Sto} {xs : List D} {vs : List V} {d : D} {st' : Sto} (R : RelH C B st) (r : RepL C B xs vs) (e : fInts g xs st = some (d, st')) :
    ∃ a ns i, vs = [.ref a] ∧ SqL C.K B.H a (ns.map V.int) ∧ g ns = some i ∧ d = .int i ∧ st' = st := by
  unfold fInts at e
  split at e
  · rename_i x
    cases ex : rdOf st x with
    | none => rw [ex] at e; cases e
    | some ds =>
      cases ei : intsOf ds with
      | none => rw [ex, Option.bind_some, ei] at e; cases e
      | some ns =>
        cases eg : g ns with
        | none => rw [ex, Option.bind_some, ei, Option.bind_some, eg] at e; cases e
        | some i =>
          rw [ex, Option.bind_some, ei, Option.bind_some, eg] at e; cases e
          obtain ⟨v, t, rfl, q, h⟩ := r.cons_inv
          rw [h.nil_inv]
          obtain ⟨a, us, rfl, hq, hz, rl⟩ := rdOf_rep R ex q
          rw [intsOf_eq ei] at rl
          rw [rl.ints] at hq
          exact ⟨a, ns, i, rfl, hq, eg, rfl, rfl⟩
  · cases e
theorem fBls_inv {C : Ctx} {g : List Bool → Bool} {B : Bd} {st : Sto} {xs : List D} {vs : List V} {d : D} {st' : Sto} (R : RelH C B st) (r : RepL C B xs vs) (e : fBls g xs st = some (d, st')) :
    ∃ a ns, vs = [.ref a] ∧ SqL C.K B.H a (ns.map V.bl) ∧ d = .bl (g ns) ∧ st' = st := by
  unfold fBls at e
  split at e
  · rename_i x
    cases ex : rdOf st x with
    | none => rw [ex] at e; cases e
    | some ds =>
      cases ei : blsOf ds with
      | none => rw [ex, Option.bind_some, ei] at e; cases e
      | some ns =>
        rw [ex, Option.bind_some, ei] at e; cases e
        obtain ⟨v, t, rfl, q, h⟩ := r.cons_inv
        rw [h.nil_inv]
        obtain ⟨a, us, rfl, hq, hz, rl⟩ := rdOf_rep R ex q
        rw [blsOf_eq ei] at rl
        rw [rl.bls] at hq
        exact ⟨a, ns, rfl, hq, rfl, rfl⟩
  · cases e
abbrev fSumL := fInts fun ns => some ns.sum
/-- the greatest, the least, of what is not empty -/
def maxI : List Int → Option Int
  | [] => none
  | x :: xs => some (xs.foldl (fun a b => if b > a then b else a) x)
def minI : List Int → Option Int
  | [] => none
  | x :: xs => some (xs.foldl (fun a b => if b < a then b else a) x)
theorem foldMax (xs : List Int) : ∀ x : Int, (xs.foldl (fun a b => if b > a then b else a) x) ∈ x :: xs ∧ ∀ y ∈ x :: xs, y ≤ xs.foldl (fun a b => if b > a then b else a) x := by
  induction xs with
  | nil => intro x; simp
  | cons a r ih =>
    intro x
    rw [List.foldl_cons]
    obtain ⟨h1, h2⟩ := ih (if a > x then a else x)
    refine ⟨?_, fun y hy => ?_⟩
    · rcases List.mem_cons.mp h1 with h | h
      · rw [h]; split <;> simp
      · exact List.mem_cons_of_mem _ (List.mem_cons_of_mem _ h)
    · have h3 := h2 (if a > x then a else x) List.mem_cons_self
      rcases List.mem_cons.mp hy with h | h
      · subst h; split at h3 <;> rename_i c <;> simp only [c, if_true, if_false] at h3 ⊢ <;> omega
      · rcases List.mem_cons.mp h with h | h
        · subst h; split at h3 <;> rename_i c <;> simp only [c, if_true, if_false] at h3 ⊢ <;> omega
        · exact h2 y (List.mem_cons_of_mem _ h)
theorem foldMin (xs : List Int) : ∀ x : Int, (xs.foldl (fun a b => if b < a then b else a) x) ∈ x :: xs ∧ ∀ y ∈ x :: xs, xs.foldl (fun a b => if b < a then b else a) x ≤ y := by
  induction xs with
  | nil => intro x; simp
  | cons a r ih =>
    intro x
    rw [List.foldl_cons]
    obtain ⟨h1, h2⟩ := ih (if a < x then a else x)
    refine ⟨?_, fun y hy => ?_⟩
    · rcases List.mem_cons.mp h1 with h | h
      · rw [h]; split <;> simp
      · exact List.mem_cons_of_mem _ (List.mem_cons_of_mem _ h)
    · have h3 := h2 (if a < x then a else x) List.mem_cons_self
      rcases List.mem_cons.mp hy with h | h
      · subst h; split at h3 <;> rename_i c <;> simp only [c, if_true, if_false] at h3 ⊢ <;> omega
      · rcases List.mem_cons.mp h with h | h
        · subst h; split at h3 <;> rename_i c <;> simp only [c, if_true, if_false] at h3 ⊢ <;> omega
        · exact h2 y (List.mem_cons_of_mem _ h)
theorem maxI_spec {ns : List Int} {i : Int} (h : maxI ns = some i) : i ∈ ns ∧ ∀ y ∈ ns, y ≤ i := by
  cases ns with
  | nil => cases h
  | cons x xs => unfold maxI at h; cases h; exact foldMax xs x
theorem minI_spec {ns : List Int} {i : Int} (h : minI ns = some i) : i ∈ ns ∧ ∀ y ∈ ns, i ≤ y := by
  cases ns with
  | nil => cases h
  | cons x xs => unfold minI at h; cases h; exact foldMin xs x
theorem fSumL_ok {C : Ctx} : CallOk C fSumL (rSum C.K) := fun B st xs vs Q d st' R r e k => by
  obtain ⟨a, ns, i, rfl, hq, eg, rfl, rfl⟩ := fInts_inv R r e
  cases eg
  exact ⟨a, ns, rfl, hq, k _ B (Ext.refl _ _) R rep_int⟩
def fMax : List D → Sto → Option (D × Sto)
  | [.int i, .int j], st => some (.int (if j > i then j else i), st)
  | xs, st => fInts maxI xs st
def fMin : List D → Sto → Option (D × Sto)
  | [.int i, .int j], st => some (.int (if j < i then j else i), st)
  | xs, st => fInts minI xs st
theorem fMax_ok {C : Ctx} : CallOk C fMax (fun xs H Q => (∃ i j, xs = [.int i, .int j] ∧ Q (.int (if j > i then j else i)) H) ∨ rMax C.K xs H Q) := fun B st xs vs Q d st' R r e k => by
  unfold fMax at e
  split at e
  · cases e
    obtain ⟨v, t, rfl, q, h⟩ := r.cons_inv
    obtain ⟨v2, t2, rfl, q2, h2⟩ := h.cons_inv
    rw [h2.nil_inv, q.int_inv, q2.int_inv]
    exact .inl ⟨_, _, rfl, k _ B (Ext.refl _ _) R rep_int⟩
  · obtain ⟨a, ns, i, rfl, hq, eg, rfl, rfl⟩ := fInts_inv R r e
    obtain ⟨m1, m2⟩ := maxI_spec eg
    refine .inr ⟨a, ns, rfl, hq, List.length_pos_of_mem m1, fun m hm hle => ?_⟩
    have : m = i := Int.le_antisymm (m2 m hm) (hle i m1)
    subst this
    exact k _ B (Ext.refl _ _) R rep_int
theorem fMin_ok {C : Ctx} : CallOk C fMin (fun xs H Q => (∃ i j, xs = [.int i, .int j] ∧ Q (.int (if j < i then j else i)) H) ∨ rMin C.K xs H Q) := fun B st xs vs Q d st' R r e k => by
  unfold fMin at e
  split at e
  · cases e
    obtain ⟨v, t, rfl, q, h⟩ := r.cons_inv
    obtain ⟨v2, t2, rfl, q2, h2⟩ := h.cons_inv
    rw [h2.nil_inv, q.int_inv, q2.int_inv]
    exact .inl ⟨_, _, rfl, k _ B (Ext.refl _ _) R rep_int⟩
  · obtain ⟨a, ns, i, rfl, hq, eg, rfl, rfl⟩ := fInts_inv R r e
    obtain ⟨m1, m2⟩ := minI_spec eg
    refine .inr ⟨a, ns, rfl, hq, List.length_pos_of_mem m1, fun m hm hle => ?_⟩
    have : m = i := Int.le_antisymm (hle i m1) (m2 m hm)
    subst this
    exact k _ B (Ext.refl _ _) R rep_int
abbrev fAll := fBls fun bs => bs.all id
abbrev fAny := fBls fun bs => bs.any id
theorem fAll_ok {C : Ctx} : CallOk C fAll (rAll C.K) := fun B st xs vs Q d st' R r e k => by
  obtain ⟨a, ns, rfl, hq, rfl, rfl⟩ := fBls_inv R r e
  exact ⟨a, ns, rfl, hq, k _ B (Ext.refl _ _) R rep_bl⟩
theorem fAny_ok {C : Ctx} : CallOk C fAny (rAny C.K) := fun B st xs vs Q d st' R r e k => by
  obtain ⟨a, ns, rfl, hq, rfl, rfl⟩ := fBls_inv R r e
  exact ⟨a, ns, rfl, hq, k _ B (Ext.refl _ _) R rep_bl⟩
def fList : List D → Sto → Option (List D × Sto)
  | [x], st => (seqOf st x).map fun xs => (xs, st)
  | _, _ => none
theorem fList_ok {C : Ctx} : CallOkN C fList (fun xs H Q => ∃ p ys, xs = [.ref p] ∧ (SqL C.K H p ys ∨ SqT C.K H p ys) ∧ ∀ l, H l = none → Q (.ref l) (upd H l (.lst ys))) := fun B st xs vs Q d st' R r e k => by
  unfold fList at e
  split at e
  · rename_i x
    cases ex : seqOf st x with
    | none => rw [ex] at e; cases e
    | some ds =>
      rw [ex] at e; cases e
      obtain ⟨v, t, rfl, q, h⟩ := r.cons_inv
      rw [h.nil_inv]
      obtain ⟨a, us, rfl, hq, hz, rl⟩ := seqOf_rep R ex q
      refine ⟨a, us, rfl, hq, fun p hp => ?_⟩
      obtain ⟨x2, r2, q⟩ := new_list R hp hz rl
      exact k (.ref p) _ x2 r2 q
  · cases e
def fTuple : List D → Sto → Option (D × Sto)
  | [x], st => (seqOf st x).map fun xs => (.tup xs, st)
  | _, _ => none
theorem fTuple_ok {C : Ctx} : CallOk C fTuple (fun xs H Q => ∃ p ys, xs = [.ref p] ∧ ((SqL C.K H p ys ∧ ∀ l, H l = none → Q (.ref l) (upd H l (.tup ys))) ∨ (SqT C.K H p ys ∧ Q (.ref p) H))) := fun B st xs vs Q d st' R r e k => by
  unfold fTuple at e
  split at e
  · rename_i x
    cases ex : seqOf st x with
    | none => rw [ex] at e; cases e
    | some ds =>
      rw [ex] at e; cases e
      obtain ⟨v, t, rfl, q, h⟩ := r.cons_inv
      rw [h.nil_inv]
      obtain ⟨a, us, rfl, hq, hz, rl⟩ := seqOf_rep R ex q
      refine ⟨a, us, rfl, ?_⟩
      rcases hq with hq | hq
      · refine .inl ⟨hq, fun p hp => ?_⟩
        obtain ⟨x2, r2, q⟩ := new_tuple R hp hz rl
        exact k (.ref p) _ x2 r2 q
      · exact .inr ⟨hq, k _ B (Ext.refl _ _) R (rep_tup hz hq rl)⟩
  · cases e
/-- list(range(a, b)) is by another rule -/
def fIntOf : List D → Sto → Option (D × Sto)
  | [.int i], st => some (.int i, st)
  | [.bl b], st => some (.int (if b then 1 else 0), st)
  | _, _ => none
theorem fIntOf_ok {C : Ctx} : CallOk C fIntOf (fun xs H Q => (∃ i, xs = [.int i] ∧ Q (.int i) H) ∨ ∃ k, xs = [.bl k] ∧ Q (.int (if k then 1 else 0)) H) := fun B st xs vs Q d st' R r e k => by
  unfold fIntOf at e
  split at e
  · cases e
    obtain ⟨v, t, rfl, q, h⟩ := r.cons_inv
    rw [h.nil_inv, q.int_inv]
    exact .inl ⟨_, rfl, k _ B (Ext.refl _ _) R rep_int⟩
  · cases e
    obtain ⟨v, t, rfl, q, h⟩ := r.cons_inv
    rw [h.nil_inv, q.bl_inv]
    exact .inr ⟨_, rfl, k _ B (Ext.refl _ _) R rep_int⟩
  · cases e

/-! ### isinstance -/
/-- the built-in type of a value -/
def tyN (st : Sto) : D → Option String
  | .non => some "NoneType"
  | .bl _ => some "bool"
  | .int _ => some "int"
  | .str _ => some "str"
  | .tup _ => some "tuple"
  | .lst _ => some "list"
  | .dic _ _ => some "dict"
  | .scr _ => some "list"
  | .ref i => match st[i]? with
    | some (.lst _) => some "list"
    | some (.dct _ _) => some "dict"
    | some (.dtt _ _) => some "dict"
    | _ => none
  | .exc _ => none
  | .thk => none
  | .glo _ => none
def isTy (t c : String) : Bool := (t == c) || (t == "bool" && c == "int")
def tyNames : List String := ["NoneType", "bool", "int", "str", "tuple", "list", "dict"]
def clNames : List String := ["bool", "int", "str", "tuple", "list", "dict"]
theorem kit_all : ∀ t ∈ tyNames, ∀ c ∈ clNames, kitB t c = some (isTy t c) := by decide +kernel
theorem tyN_mem {st : Sto} {d : D} {t : String} (h : tyN st d = some t) : t ∈ tyNames := by
  unfold tyN at h
  split at h <;> first | (cases h; done) | (cases h; simp [tyNames]; done) | skip
  · split at h <;> first | (cases h; simp [tyNames]; done) | cases h
theorem tyN_tyX {C : Ctx} {B : Bd} {st : Sto} {d : D} {v : V} {t : String} (R : RelH C B st) (h : tyN st d = some t) (r : Rep C B d v) : TyX C.K B.H v (.type t) := by
  have tup : ∀ {a vs}, SqT C.K B.H a vs → TyX C.K B.H (.ref a) (.type "tuple") := fun {a vs} q => by
    rcases q with (q | ⟨o, q⟩) | ⟨o, its, n, q, c, _⟩
    · exact .base (.tup q)
    · exact .fTuple q
    · exact .kTuple q c
  have lst : ∀ {a vs}, SqL C.K B.H a vs → TyX C.K B.H (.ref a) (.type "list") := fun {a vs} q => by
    rcases q with (q | ⟨o, q⟩) | ⟨o, its, n, q, c, _⟩
    · exact .base (.lst q)
    · exact .base (.frz q)
    · exact .kList q c
  cases d with
  | non => cases h; rw [r.non_inv]; exact .base .non
  | bl b => cases h; rw [r.bl_inv]; exact .base (.bl _)
  | int b => cases h; rw [r.int_inv]; exact .base (.int _)
  | str b => cases h; rw [r.str_inv]; exact .base (.str _)
  | tup b => cases h; obtain ⟨a, vs, rfl, hz, q, _⟩ := r.tup_inv; exact tup q
  | lst b => cases h; obtain ⟨a, vs, rfl, q, _⟩ := lstOf_rep R (d := .lst b) rfl r; exact lst (SqL.of q)
  | dic k b => cases h; unfold Rep at r; obtain ⟨a, kvs, rfl, _, q, _⟩ := r; exact .base (.dK q)
  | scr ns => cases h; unfold Rep at r; obtain ⟨rfl, rfl⟩ := r; exact lst R.scr.sq
  | exc c => cases h
  | thk => cases h
  | glo c => cases h
  | ref i =>
    obtain ⟨a, hm, rfl⟩ := r.ref_inv
    obtain ⟨c, hc, q⟩ := R.at hm
    unfold tyN at h
    dsimp only at h
    rw [hc] at h
    cases c with
    | lst ds => cases h; obtain ⟨vs, q, _⟩ := q; exact .base (.lst q)
    | ins c ks ds => cases h
    | dct ks ds => cases h; obtain ⟨vs, q, _⟩ := q; exact .base (.dK q)
    | dtt ks ds => cases h; obtain ⟨vs, q, _⟩ := q; exact .base (.dT q)
def opIsi (cs : List String) (x : D) (st : Sto) : Option (D × Sto) := (tyN st x).map fun t => (.bl (cs.any (isTy t)), st)
theorem kitAny_all {K : PySem.W.Frag} {t : String} (ht : t ∈ tyNames) : ∀ cs : List String, (∀ c ∈ cs, c ∈ clNames) → PySem.W.kitAny K (.type t) (cs.map Value.type) = some (cs.any (isTy t))
  | [], _ => kitAny_nil
  | c :: cs, h => by
    have h1 := kit_ty (K := K) (kit_all t ht c (h c List.mem_cons_self))
    have ih := kitAny_all (K := K) ht cs fun d hd => h d (List.mem_cons_of_mem _ hd)
    rw [List.map_cons, List.any_cons]
    refine kitAny_cons h1 (fun e => ?_) (fun e => ?_)
    · rw [ih, e]; rfl
    · rw [e]; rfl
section
variable {X : Cx} {C : Ctx} {W : WX} {a b c : Expr} {ca cb cc : M D} {pos p p2 p3 : Pos}
/-- isinstance(a, T) -/
theorem e_isi {T : Str} {t : String} (hK : C.K = X.K := by rfl) (hg : Gl X "isinstance") (hm : X.mg "isinstance" = none) (hgT : Gl X T) (hmT : X.mg T = none) (hv : bootBuiltins T = some (.type t)) (ht : t ∈ clNames) (hn : T ≠ "__name__") (hd : (T == ("__debug__" : Str)) = false)
    (ha : PE X a (te C W ca)) (hs : starEach [a, .Name T p2] X.env = (false, eval a X.env) :: starEach [.Name T p2] X.env := by rfl) (hpl : (backTo pos (starEach [.Name T p2] X.env)).any (·.1) = false := by rfl) :
    PE X (.Call (.Name "isinstance" p) [a, .Name T p2] [] pos) (te C W (un (opIsi [t]) ca)) := by
  refine (pe_callB (call_isi (X := X)) hg hm (by decide +kernel) (pa_cons ha (pa_cons (pe_bltn (v := .ty t) hgT hmT hv rfl hn hd) pa_nil) hs) (by decide) (by decide) hs hpl).imp fun σ H Q ⟨env, st, B, e, r, p⟩ => ?_
  subst e
  refine (seq r p).mono fun v H1 ⟨x, st1, B1, e1, x1, r1, p1, k1⟩ => ?_
  subst e1
  obtain ⟨d, st', e, k⟩ := post_lift k1
  unfold opIsi at e
  cases et : tyN st1 x with
  | none => rw [et] at e; cases e
  | some tt =>
    rw [et] at e; cases e
    refine ⟨v, .ty t, .type tt, .type t, _, rfl, .ty t, hK ▸ tyN_tyX r1.h et p1, kit_ty (kit_all tt (tyN_mem et) t ht), ?_⟩
    have := k (.bl (isTy tt t)) B1 (Ext.refl _ _) r1 (by rw [List.any_cons, List.any_nil, Bool.or_false]; exact rep_bl)
    exact this
/-- isinstance(a, (T1, T2)) -/
theorem e_isi2 {T T' : Str} {t t' : String} {k : Nat} {p4 : Pos} (hK : C.K = X.K := by rfl) (hg : Gl X "isinstance") (hm : X.mg "isinstance" = none) (hgT : Gl X T) (hmT : X.mg T = none) (hv : bootBuiltins T = some (.type t)) (ht : t ∈ clNames) (hn : T ≠ "__name__") (hd : (T == ("__debug__" : Str)) = false)
    (hgT' : Gl X T') (hmT' : X.mg T' = none) (hv' : bootBuiltins T' = some (.type t')) (ht' : t' ∈ clNames) (hn' : T' ≠ "__name__") (hd' : (T' == ("__debug__" : Str)) = false)
    (ha : PE X a (te C W ca)) (hs : starEach [a, .Tuple [.Name T p2, .Name T' p3] k p4] X.env = (false, eval a X.env) :: starEach [.Tuple [.Name T p2, .Name T' p3] k p4] X.env := by rfl) (hpl : (backTo pos (starEach [.Tuple [.Name T p2, .Name T' p3] k p4] X.env)).any (·.1) = false := by rfl)  :
    PE X (.Call (.Name "isinstance" p) [a, .Tuple [.Name T p2, .Name T' p3] k p4] [] pos) (te C W (un (opIsi [t, t']) ca)) := by
  refine (pe_callB (call_isiT (X := X)) hg hm (by decide +kernel) (pa_cons ha (pa_cons (pe_tup (pa_cons (pe_bltn (v := .ty t) hgT hmT hv rfl hn hd) (pa_cons (pe_bltn (v := .ty t') hgT' hmT' hv' rfl hn' hd') pa_nil))) pa_nil) hs) (by decide) (by decide) hs hpl).imp fun σ H Q ⟨env, st, B, e, r, p⟩ => ?_
  subst e
  refine (seq r p).mono fun v H1 ⟨x, st1, B1, e1, x1, r1, p1, k1⟩ => ?_
  subst e1
  obtain ⟨d, st', e, k⟩ := post_lift k1
  unfold opIsi at e
  cases et : tyN st1 x with
  | none => rw [et] at e; cases e
  | some tt =>
    rw [et] at e; cases e
    refine ⟨by show 2 ≤ sizeLine; decide, fun p hp => ?_⟩
    obtain ⟨x2, r2⟩ := r1.h.new (o := .tup [.ty t, .ty t']) hp
    refine ⟨v, p, [.ty t, .ty t'], .type tt, [.type t, .type t'], _, rfl, upd_same, .cons (.ty t) (.cons (.ty t') .nil), hK ▸ tyN_tyX r2 et (p1.mono x2), kitAny_all (tyN_mem et) [t, t'] (fun c hc => ?_), k _ _ x2 (r1.of x2 r2) rep_bl⟩
    rcases List.mem_cons.mp hc with h | h
    · rw [h]; exact ht
    · rw [List.mem_singleton.mp h]; exact ht'
/-! ### the calls' rules -/
variable {e : Expr} {es : List Expr} {as : M (List D)} {x : Str}
theorem e_callB {id : String} {f : List D → Sto → Option (D × Sto)} {r : List V → Hp → VK → Prop} (hc : CallR X (.builtin id) r) (hf : CallOk C f r) (hg : Gl X x) (hm : X.mg x = none) (hv : bootBuiltins x = some (.builtin id)) (ha : PA X (e :: es) (ta C W as)) (hn : x ≠ "__name__" := by decide) (hdb : (x == ("__debug__" : Str)) = false := by decide)
    (he : starEach (e :: es) X.env = (false, eval e X.env) :: starEach es X.env := by rfl) (hpl : (backTo pos (starEach es X.env)).any (·.1) = false := by rfl) : PE X (.Call (.Name x p) (e :: es) [] pos) (te C W (calls f as)) :=
  (pe_callB hc hg hm hv ha hn hdb he hpl).imp (calls_rd hf)
theorem e_callT {T : String} {f : List D → Sto → Option (D × Sto)} {r : List V → Hp → VK → Prop} (hc : CallR X (.type T) r) (hf : CallOk C f r) (hg : Gl X x) (hm : X.mg x = none) (hv : bootBuiltins x = some (.type T)) (ha : PA X (e :: es) (ta C W as)) (hn : x ≠ "__name__" := by decide) (hdb : (x == ("__debug__" : Str)) = false := by decide)
    (he : starEach (e :: es) X.env = (false, eval e X.env) :: starEach es X.env := by rfl) (hpl : (backTo pos (starEach es X.env)).any (·.1) = false := by rfl) : PE X (.Call (.Name x p) (e :: es) [] pos) (te C W (calls f as)) :=
  (pe_callTy hc hg hm hv ha hn hdb he hpl).imp (calls_rd hf)
theorem n_callT {T : String} {f : List D → Sto → Option (List D × Sto)} {r : List V → Hp → VK → Prop} (hc : CallR X (.type T) r) (hf : CallOkN C f r) (hg : Gl X x) (hm : X.mg x = none) (hv : bootBuiltins x = some (.type T)) (ha : PA X (e :: es) (ta C W as)) (hn : x ≠ "__name__" := by decide) (hdb : (x == ("__debug__" : Str)) = false := by decide)
    (he : starEach (e :: es) X.env = (false, eval e X.env) :: starEach es X.env := by rfl) (hpl : (backTo pos (starEach es X.env)).any (·.1) = false := by rfl) : PE X (.Call (.Name x p) (e :: es) [] pos) (tn C W (calls f as)) :=
  (pe_callTy hc hg hm hv ha hn hdb he hpl).imp (calls_rdN hf)
theorem e_len (hK : C.K = X.K := by rfl) (hg : Gl X "len") (hm : X.mg "len" = none) (ha : PA X [e] (ta C W as)) (he : starEach [e] X.env = (false, eval e X.env) :: starEach [] X.env := by rfl) (hpl : (backTo pos (starEach [] X.env)).any (·.1) = false := by rfl) : PE X (.Call (.Name "len" p) [e] [] pos) (te C W (calls fLen as)) :=
  e_callB (hK ▸ call_len) fLen_ok hg hm (by decide +kernel) ha (by decide) (by decide) he hpl
theorem e_sum (hc : X.calm = true := by rfl) (hK : C.K = X.K := by rfl) (hg : Gl X "sum") (hm : X.mg "sum" = none) (ha : PA X [e] (ta C W as)) (he : starEach [e] X.env = (false, eval e X.env) :: starEach [] X.env := by rfl) (hpl : (backTo pos (starEach [] X.env)).any (·.1) = false := by rfl) : PE X (.Call (.Name "sum" p) [e] [] pos) (te C W (calls fSumL as)) :=
  e_callB (hK ▸ cr_sum hc) fSumL_ok hg hm (by decide +kernel) ha (by decide) (by decide) he hpl
theorem e_max (hc : X.calm = true := by rfl) (hK : C.K = X.K := by rfl) (hg : Gl X "max") (hm : X.mg "max" = none) (ha : PA X (e :: es) (ta C W as)) (he : starEach (e :: es) X.env = (false, eval e X.env) :: starEach es X.env := by rfl) (hpl : (backTo pos (starEach es X.env)).any (·.1) = false := by rfl) : PE X (.Call (.Name "max" p) (e :: es) [] pos) (te C W (calls fMax as)) :=
  e_callB ((call_max2 hc).or (hK ▸ cr_max hc)) fMax_ok hg hm (by decide +kernel) ha (by decide) (by decide) he hpl
theorem e_min (hc : X.calm = true := by rfl) (hK : C.K = X.K := by rfl) (hg : Gl X "min") (hm : X.mg "min" = none) (ha : PA X (e :: es) (ta C W as)) (he : starEach (e :: es) X.env = (false, eval e X.env) :: starEach es X.env := by rfl) (hpl : (backTo pos (starEach es X.env)).any (·.1) = false := by rfl) : PE X (.Call (.Name "min" p) (e :: es) [] pos) (te C W (calls fMin as)) :=
  e_callB ((call_min2 hc).or (hK ▸ cr_min hc)) fMin_ok hg hm (by decide +kernel) ha (by decide) (by decide) he hpl
theorem e_all (hc : X.calm = true := by rfl) (hK : C.K = X.K := by rfl) (hg : Gl X "all") (hm : X.mg "all" = none) (ha : PA X [e] (ta C W as)) (he : starEach [e] X.env = (false, eval e X.env) :: starEach [] X.env := by rfl) (hpl : (backTo pos (starEach [] X.env)).any (·.1) = false := by rfl) : PE X (.Call (.Name "all" p) [e] [] pos) (te C W (calls fAll as)) :=
  e_callB (hK ▸ cr_all hc) fAll_ok hg hm (by decide +kernel) ha (by decide) (by decide) he hpl
theorem e_any (hc : X.calm = true := by rfl) (hK : C.K = X.K := by rfl) (hg : Gl X "any") (hm : X.mg "any" = none) (ha : PA X [e] (ta C W as)) (he : starEach [e] X.env = (false, eval e X.env) :: starEach [] X.env := by rfl) (hpl : (backTo pos (starEach [] X.env)).any (·.1) = false := by rfl) : PE X (.Call (.Name "any" p) [e] [] pos) (te C W (calls fAny as)) :=
  e_callB (hK ▸ cr_any hc) fAny_ok hg hm (by decide +kernel) ha (by decide) (by decide) he hpl
theorem n_list (hK : C.K = X.K := by rfl) (hg : Gl X "list") (hm : X.mg "list" = none) (ha : PA X [e] (ta C W as)) (he : starEach [e] X.env = (false, eval e X.env) :: starEach [] X.env := by rfl) (hpl : (backTo pos (starEach [] X.env)).any (·.1) = false := by rfl) : PE X (.Call (.Name "list" p) [e] [] pos) (tn C W (calls fList as)) :=
  n_callT (hK ▸ call_list_of) fList_ok hg hm (by decide +kernel) ha (by decide) (by decide) he hpl
theorem e_tuple (hK : C.K = X.K := by rfl) (hg : Gl X "tuple") (hm : X.mg "tuple" = none) (ha : PA X [e] (ta C W as)) (he : starEach [e] X.env = (false, eval e X.env) :: starEach [] X.env := by rfl) (hpl : (backTo pos (starEach [] X.env)).any (·.1) = false := by rfl) : PE X (.Call (.Name "tuple" p) [e] [] pos) (te C W (calls fTuple as)) :=
  e_callT (hK ▸ call_tuple_of) fTuple_ok hg hm (by decide +kernel) ha (by decide) (by decide) he hpl
theorem e_intOf (hg : Gl X "int") (hm : X.mg "int" = none) (ha : PA X [e] (ta C W as)) (he : starEach [e] X.env = (false, eval e X.env) :: starEach [] X.env := by rfl) (hpl : (backTo pos (starEach [] X.env)).any (·.1) = false := by rfl) : PE X (.Call (.Name "int" p) [e] [] pos) (te C W (calls fIntOf as)) :=
  e_callT call_int1 fIntOf_ok hg hm (by decide +kernel) ha (by decide) (by decide) he hpl
end
end Ly
/-! What is walked; targets; comprehensions. -/
namespace Ly
open PySem PySem.Spec PyProof.Rows L2

/-- what a loop walks: the items, and whether they still stand so -/
structure Src where
  xs : List D
  ok : Sto → Bool
def ItOk (C : Ctx) (B : Bd) (s : Src) (J : It) : Prop := s.xs.length ≤ sizeLine ∧ ∀ (B2 : Bd) (st : Sto) (i : Nat), (∀ d v, Rep C B d v → Rep C B2 d v) → RelH C B2 st → s.ok st = true →
  (s.xs.length ≤ i → J.stop i B2.H) ∧ ∀ d, s.xs[i]? = some d → J.go i B2.H ∧ ∀ x H3, J.yld i B2.H x H3 → ∃ B3, B3.H = H3 ∧ Ext C B2 B3 ∧ RelH C B3 st ∧ Rep C B3 d x
abbrev ti (C : Ctx) (W : WX) (c : M Src) : TI := rd C W (fun B => ItOk C B) c
def isTup : D → Bool
  | .tup _ => true
  | _ => false
/-- a list, a tuple -/
def srcOf (st : Sto) : D → Option Src
  | .tup xs => some ⟨xs, fun _ => true⟩
  | .ref i => match st[i]? with
    | some (.lst xs) => some ⟨xs, fun st => decide (st[i]? = some (.lst xs))⟩
    | _ => none
  | d => (rdOf st d).map fun xs => ⟨xs, fun _ => true⟩
def walk (a : M D) : M Src := bnd a fun d => lift fun st => (srcOf st d).map fun s => (s, st)
/-- the source's list as the machine holds it now -/
theorem src_list {C : Ctx} {B : Bd} {st : Sto} {d : D} {v : V} {s : Src} (R : RelH C B st) (h : srcOf st d = some s) (r : Rep C B d v) :
    (∃ a vs, v = .ref a ∧ SqT C.K B.H a vs ∧ d = .tup s.xs) ∨
      (isTup d = false ∧ ∃ a vs, v = .ref a ∧ SqL C.K B.H a vs ∧ ∀ (B2 : Bd) (st2 : Sto), Rep C B2 d (.ref a) → RelH C B2 st2 → s.ok st2 = true → ∃ us, SqL C.K B2.H a us ∧ us.length ≤ sizeLine ∧ RepL C B2 s.xs us) := by
  unfold srcOf at h
  split at h
  · cases h
    obtain ⟨a, vs, rfl, hz, q, t⟩ := r.tup_inv
    exact .inl ⟨a, vs, rfl, q, rfl⟩
  · rename_i i
    cases e : st[i]? with
    | none => rw [e] at h; cases h
    | some c =>
      rw [e] at h
      cases c with
      | lst xs =>
        cases h
        obtain ⟨a, q, rfl⟩ := r.ref_inv
        obtain ⟨vs, q2, hz, t⟩ := R.cell i _ a e q
        refine .inr ⟨rfl, a, vs, rfl, SqL.of q2, fun B2 st2 r2 R2 ok => ?_⟩
        obtain ⟨a', q', e'⟩ := r2.ref_inv
        cases e'
        obtain ⟨us, h1, h2, h3⟩ := R2.cell i _ a (of_decide_eq_true ok) q'
        exact ⟨us, SqL.of h1, h2, h3⟩
      | ins _ _ _ => cases h
      | dct _ _ => cases h
      | dtt _ _ => cases h
  · rename_i hd1 hd2
    cases e : rdOf st d with
    | none => rw [e] at h; cases h
    | some xs =>
      rw [e] at h; cases h
      obtain ⟨a, vs, rfl, q, hz, t⟩ := rdOf_rep R e r
      refine .inr ⟨by cases d <;> first | rfl | exact absurd rfl (hd1 _), a, vs, rfl, q, fun B2 st2 r2 R2 ok => ?_⟩
      have e2 : rdOf st2 d = some xs := by
        cases d <;> first | exact e | exact absurd rfl (hd2 _)
      obtain ⟨a', us, e', q', hz', t'⟩ := rdOf_rep R2 e2 r2
      cases e'
      exact ⟨us, q', hz', t'⟩
theorem src_len {C : Ctx} {B : Bd} {st : Sto} {d : D} {v : V} {s : Src} (R : RelH C B st) (h : srcOf st d = some s) (r : Rep C B d v) : s.xs.length ≤ sizeLine := by
  unfold srcOf at h
  split at h
  · cases h
    obtain ⟨a, vs, rfl, hz, q, t⟩ := r.tup_inv
    show _ ≤ sizeLine
    rw [← t.length]; exact hz
  · rename_i i
    cases e : st[i]? with
    | none => rw [e] at h; cases h
    | some c =>
      rw [e] at h
      cases c with
      | lst xs =>
        cases h
        obtain ⟨a, q, rfl⟩ := r.ref_inv
        obtain ⟨vs, q2, hz, t⟩ := R.cell i _ a e q
        show _ ≤ sizeLine
        rw [← t.length]; exact hz
      | ins _ _ _ => cases h
      | dct _ _ => cases h
      | dtt _ _ => cases h
  · cases e : rdOf st d with
    | none => rw [e] at h; cases h
    | some xs =>
      rw [e] at h; cases h
      obtain ⟨a, vs, rfl, q, hz, t⟩ := rdOf_rep R e r
      show _ ≤ sizeLine
      rw [← t.length]; exact hz
theorem _root_.L2.PI.or {X : Cx} {tg e : Expr} {t t' : TI} (h : PI X tg e t) (h' : PI X tg e t') : PI X tg e (fun σ H R => t σ H R ∨ t' σ H R) :=
  ⟨fun pins s σ H R I q => q.elim (h.run pins s σ H R I) (h'.run pins s σ H R I)⟩
section
variable {X : Cx} {C : Ctx} {W : WX} {tg e e2 : Expr} {c c2 : M D} {as : M (List D)} {p pos : Pos}
theorem i_walk (hK : C.K = X.K := by rfl) (h : PE X e (te C W c)) : PI X tg e (ti C W (walk c)) := (pi_list h).or (pi_tup h) |>.imp fun σ H R ⟨env, st, B, e, r, q⟩ => by
  subst e
  have r0 := r
  unfold walk bnd at q
  cases ec : c env st with
  | bad => rw [ec] at q; exact q.elim
  | exc x st1 =>
    rw [ec] at q
    exact .inl ⟨env, st, B, rfl, r0, by rw [ec]; exact q⟩
  | ok d st1 =>
    rw [ec] at q
    unfold lift at q
    dsimp only at q
    cases es : srcOf st1 d with
    | none => rw [es] at q; exact q.elim
    | some s =>
      rw [es] at q
      dsimp only [Option.map] at q
      by_cases ht : d = .tup s.xs
      · refine .inr ⟨env, st, B, rfl, r0, ?_⟩
        rw [ec]
        intro v B1 x1 r1 p1
        subst ht
        obtain ⟨a, vs, rfl, hz, q1, t⟩ := p1.tup_inv
        rw [← hK]
        refine ⟨a, rfl, ⟨vs, q1⟩, q _ B1 x1 r1 ⟨by rw [← t.length]; exact hz, fun B2 st2 i k R2 ok => ?_⟩⟩
        obtain ⟨a', us, e', hz', q', t'⟩ := (k _ _ p1).tup_inv
        cases e'
        refine ⟨fun hi => ⟨us, q', by rw [t'.length]; exact hi⟩, fun d hd => ?_⟩
        obtain ⟨u, hu, ru⟩ := t'.get hd
        refine ⟨⟨us, u, q', hu⟩, fun x H3 hy => ?_⟩
        obtain ⟨rfl, hx⟩ := hy
        have := hx us q'
        rw [hu] at this; cases this
        exact ⟨B2, rfl, Ext.refl _ _, R2, ru⟩
      · refine .inl ⟨env, st, B, rfl, r0, ?_⟩
        rw [ec]
        intro v B1 x1 r1 p1
        rcases src_list r1.h es p1 with ⟨_, _, _, _, h⟩ | ⟨_, a, vs, rfl, q1, k1⟩
        · exact absurd h ht
        · rw [← hK]
          refine ⟨a, rfl, ⟨vs, q1⟩, q _ B1 x1 r1 ⟨src_len r1.h es p1, fun B2 st2 i k R2 ok => ?_⟩⟩
          obtain ⟨us, q', hz', t'⟩ := k1 B2 st2 (k _ _ p1) R2 ok
          refine ⟨fun hi => ⟨us, q', by rw [t'.length]; exact hi⟩, fun d hd => ?_⟩
          obtain ⟨u, hu, ru⟩ := t'.get hd
          refine ⟨⟨us, u, q', hu⟩, fun x H3 hy => ?_⟩
          obtain ⟨rfl, hx⟩ := hy
          have := hx us q'
          rw [hu] at this; cases this
          exact ⟨B2, rfl, Ext.refl _ _, R2, ru⟩
/-- lo, lo + 1, .. (n of them) -/
def rng (lo : Int) (n : Nat) : List D := (List.range n).map fun i => D.int (lo + (i : Nat))
theorem rng_length (lo : Int) (n : Nat) : (rng lo n).length = n := by unfold rng; rw [List.length_map, List.length_range]
theorem rng_ok {B : Bd} {lo : Int} {n : Nat} (hn : n ≤ sizeLine) : ItOk C B ⟨rng lo n, fun _ => true⟩ (Itr lo n) := by
  refine ⟨by rw [rng_length]; exact hn, fun B2 st2 i k R2 ok => ⟨fun hi => ?_, fun d hd => ?_⟩⟩
  · have hi : (rng lo n).length ≤ i := hi
    rw [rng_length] at hi; exact hi
  · have hd : (rng lo n)[i]? = some d := hd
    have hi : i < n := by
      have := (List.getElem?_eq_some_iff.mp hd).1
      rw [rng_length] at this; exact this
    refine ⟨hi, fun x H3 hy => ?_⟩
    obtain ⟨rfl, rfl⟩ := hy
    unfold rng at hd
    rw [List.getElem?_map, List.getElem?_range hi] at hd
    cases hd
    exact ⟨B2, rfl, Ext.refl _ _, R2, rep_int⟩
def small62 (i : Int) : Bool := decide (-(2 ^ 62) ≤ i) && decide (i < 2 ^ 62)
def range1 (as : M (List D)) : M Src := bnd as fun ds => lift fun st => match ds with
  | [.int j] => if small62 j = true ∧ j.toNat ≤ sizeLine then some (⟨rng 0 j.toNat, fun _ => true⟩, st) else none
  | _ => none
def range2 (as : M (List D)) : M Src := bnd as fun ds => lift fun st => match ds with
  | [.int i, .int j] => if small62 i = true ∧ small62 j = true ∧ (j - i).toNat ≤ sizeLine then some (⟨rng i (j - i).toNat, fun _ => true⟩, st) else none
  | _ => none
theorem small62_ok {i : Int} (h : small62 i = true) : -(2 ^ 62) ≤ i ∧ i < 2 ^ 62 := by
  unfold small62 at h
  simpa [Bool.and_eq_true] using h
theorem i_range1 (hg : Gl X "range") (hm : X.mg "range" = none) (ha : PA X [e] (ta C W as)) (hs : starEach [e] X.env = [(false, eval e X.env)] := by rfl) : PI X tg (.Call (.Name "range" p) [e] [] pos) (ti C W (range1 as)) :=
  (pi_range1 hg hm ha hs).imp fun σ H R ⟨env, st, B, e, r, q⟩ => by
    subst e
    refine (seq r q).mono fun vs H1 ⟨ds, st1, B1, e1, x1, r1, p1, k1⟩ => ?_
    subst e1
    obtain ⟨s, st', e, k⟩ := post_lift k1
    split at e
    · split at e
      · rename_i h
        cases e
        obtain ⟨v, t, rfl, q, h2⟩ := p1.cons_inv
        rw [h2.nil_inv, q.int_inv]
        exact ⟨_, rfl, (small62_ok h.1).1, (small62_ok h.1).2, k _ B1 (Ext.refl _ _) r1 (rng_ok h.2)⟩
      · cases e
    · cases e
theorem i_range2 (hg : Gl X "range") (hm : X.mg "range" = none) (ha : PA X [e, e2] (ta C W as)) (hs : starEach [e, e2] X.env = [(false, eval e X.env), (false, eval e2 X.env)] := by rfl) (hs2 : starEach [e2] X.env = [(false, eval e2 X.env)] := by rfl) :
    PI X tg (.Call (.Name "range" p) [e, e2] [] pos) (ti C W (range2 as)) :=
  (pi_range2 hg hm ha hs hs2).imp fun σ H R ⟨env, st, B, e, r, q⟩ => by
    subst e
    refine (seq r q).mono fun vs H1 ⟨ds, st1, B1, e1, x1, r1, p1, k1⟩ => ?_
    subst e1
    obtain ⟨s, st', e, k⟩ := post_lift k1
    split at e
    · split at e
      · rename_i h
        cases e
        obtain ⟨v, t, rfl, q, h2⟩ := p1.cons_inv
        obtain ⟨v2, t2, rfl, q2, h3⟩ := h2.cons_inv
        rw [h3.nil_inv, q.int_inv, q2.int_inv]
        exact ⟨_, _, rfl, ⟨(small62_ok h.1).1, (small62_ok h.1).2, (small62_ok h.2.1).1, (small62_ok h.2.1).2⟩, k _ B1 (Ext.refl _ _) r1 (rng_ok h.2.2)⟩
      · cases e
    · cases e
/-- pairs -/
def pairs (xs ys : List D) : List D := (xs.zip ys).map fun p => .tup [p.1, p.2]
theorem pairs_get {xs ys : List D} {i : Nat} {d : D} (h : (pairs xs ys)[i]? = some d) : ∃ x y, xs[i]? = some x ∧ ys[i]? = some y ∧ d = .tup [x, y] := by
  unfold pairs at h
  rw [List.getElem?_map] at h
  cases e : (xs.zip ys)[i]? with
  | none => rw [e] at h; cases h
  | some q =>
    rw [e] at h; cases h
    obtain ⟨h1, h2⟩ := List.getElem?_zip_eq_some.mp e
    exact ⟨q.1, q.2, h1, h2, rfl⟩
theorem pairs_length (xs ys : List D) : (pairs xs ys).length = min xs.length ys.length := by unfold pairs; rw [List.length_map, List.length_zip]
def zipM (as : M (List D)) : M Src := bnd as fun ds => lift fun st => match ds with
  | [x, y] => if isTup x = isTup y then match srcOf st x, srcOf st y with
    | some s, some t => some (⟨pairs s.xs t.xs, fun st => s.ok st && t.ok st⟩, st)
    | _, _ => none else none
  | _ => none
theorem i_zip {elts : List Expr} {kk : Nat} {tpos : Pos} (hK : C.K = X.K := by rfl) (hg : Gl X "zip") (hm : X.mg "zip" = none) (ha : PA X [e, e2] (ta C W as))
    (hs : starEach [e, e2] X.env = (false, eval e X.env) :: starEach [e2] X.env := by rfl) (hpl : (backTo pos (starEach [e2] X.env)).any (·.1) = false := by rfl) :
    PI X (.Tuple elts kk tpos) (.Call (.Name "zip" p) [e, e2] [] pos) (ti C W (zipM as)) :=
  (RZ.pi_zipA hg hm ha hs hpl).imp fun σ H R ⟨env, st, B, e, r, q⟩ => by
    subst e
    refine (seq r q).mono fun vs H1 ⟨ds, st1, B1, e1, x1, r1, p1, k1⟩ => ?_
    subst e1
    obtain ⟨s0, st', e, k⟩ := post_lift k1
    split at e
    · rename_i x y
      split at e
      · rename_i hty
        cases es : srcOf st1 x with
        | none => rw [es] at e; cases e
        | some s =>
          cases et : srcOf st1 y with
          | none => rw [es, et] at e; cases e
          | some t =>
            rw [es, et] at e
            cases e
            obtain ⟨v, tt, rfl, qx, h2⟩ := p1.cons_inv
            obtain ⟨v2, t2, rfl, qy, h3⟩ := h2.cons_inv
            rw [h3.nil_inv]
            have hlen : (pairs s.xs t.xs).length ≤ sizeLine := by
              rw [pairs_length]; exact Nat.le_trans (Nat.min_le_left _ _) (src_len r1.h es qx)
            rcases src_list r1.h es qx with ⟨a, us, rfl, hqa, rfl⟩ | ⟨hta, a, us, rfl, hqa, ka⟩
            · rcases src_list r1.h et qy with ⟨b, ws, rfl, hqb, rfl⟩ | ⟨htb, b, ws, rfl, hqb, kb⟩
              · refine ⟨a, b, us, ws, rfl, .inr ⟨hK ▸ hqa, hK ▸ hqb, k _ B1 (Ext.refl _ _) r1 ⟨hlen, fun B2 st2 i kk R2 ok => ?_⟩⟩⟩
                obtain ⟨a', u1, e1, z1, q1, t1⟩ := (kk _ _ qx).tup_inv
                cases e1
                obtain ⟨b', u2, e2, z2, q2, t2⟩ := (kk _ _ qy).tup_inv
                cases e2
                rw [← hK]
                refine ⟨fun hi => ⟨u1, u2, q1, q2, ?_⟩, fun d hd => ?_⟩
                · have hi : (pairs s.xs t.xs).length ≤ i := hi
                  rw [pairs_length] at hi
                  rw [t1.length, t2.length]; omega
                · obtain ⟨dx, dy, hx, hy, rfl⟩ := pairs_get hd
                  obtain ⟨w1, hw1, r1'⟩ := t1.get hx
                  obtain ⟨w2, hw2, r2'⟩ := t2.get hy
                  refine ⟨⟨u1, u2, w1, w2, q1, q2, hw1, hw2⟩, fun z H3 hyl => ?_⟩
                  obtain ⟨T, zx, zy, rfl, nT, rfl, f1, f2⟩ := hyl
                  have g1 := f1 u1 q1; rw [hw1] at g1; cases g1
                  have g2 := f2 u2 q2; rw [hw2] at g2; cases g2
                  obtain ⟨x3, r3, q3⟩ := new_tuple R2 nT (by show 2 ≤ sizeLine; decide) (.cons r1' (.cons r2' .nil))
                  exact ⟨_, rfl, x3, r3, q3⟩
              · rw [htb] at hty; cases hty
            · rcases src_list r1.h et qy with ⟨b, ws, rfl, hqb, rfl⟩ | ⟨htb, b, ws, rfl, hqb, kb⟩
              · rw [hta] at hty; cases hty
              · refine ⟨a, b, us, ws, rfl, .inl ⟨hK ▸ hqa, hK ▸ hqb, k _ B1 (Ext.refl _ _) r1 ⟨hlen, fun B2 st2 i kk R2 ok => ?_⟩⟩⟩
                have ok' : (s.ok st2 && t.ok st2) = true := ok
                rw [Bool.and_eq_true] at ok'
                obtain ⟨u1, q1, z1, t1⟩ := ka B2 st2 (kk _ _ qx) R2 ok'.1
                obtain ⟨u2, q2, z2, t2⟩ := kb B2 st2 (kk _ _ qy) R2 ok'.2
                rw [← hK]
                refine ⟨fun hi => ⟨u1, u2, q1, q2, ?_⟩, fun d hd => ?_⟩
                · have hi : (pairs s.xs t.xs).length ≤ i := hi
                  rw [pairs_length] at hi
                  rw [t1.length, t2.length]; omega
                · obtain ⟨dx, dy, hx, hy, rfl⟩ := pairs_get hd
                  obtain ⟨w1, hw1, r1'⟩ := t1.get hx
                  obtain ⟨w2, hw2, r2'⟩ := t2.get hy
                  refine ⟨⟨u1, u2, w1, w2, q1, q2, hw1, hw2⟩, fun z H3 hyl => ?_⟩
                  obtain ⟨T, zx, zy, rfl, nT, rfl, f1, f2⟩ := hyl
                  have g1 := f1 u1 q1; rw [hw1] at g1; cases g1
                  have g2 := f2 u2 q2; rw [hw2] at g2; cases g2
                  obtain ⟨x3, r3, q3⟩ := new_tuple R2 nT (by show 2 ≤ sizeLine; decide) (.cons r1' (.cons r2' .nil))
                  exact ⟨_, rfl, x3, r3, q3⟩
      · cases e
    · cases e
end
end Ly
/-! Targets; list comprehensions. -/
namespace Ly
open PySem PySem.Spec PyProof.Rows L2

/-- a target: a name's slot, or a tuple of such -/
inductive Pat where
  | nm (i : Nat) | tp (is : List Nat)
def Pat.slots : Pat → List Nat
  | .nm i => [i]
  | .tp is => is
def setAll (env : Ev) : List Nat → List D → Ev
  | i :: is, d :: ds => setAll (env.set i (some d)) is ds
  | _, _ => env
def asg : Pat → D → Ev → Option Ev
  | .nm i, d, env => some (env.set i (some d))
  | .tp is, .tup ds, env => if ds.length = is.length then some (setAll env is ds) else none
  | _, _, _ => none
def gPs : List Nat → TGs
  | [] => gNil
  | i :: is => gCons (gName i) (gPs is)
def gP (K : PySem.W.Frag) : Pat → TG
  | .nm i => gName i
  | .tp is => gTup K is.length (gPs is)
section
variable {X : Cx} {pos : Pos}
theorem g_name {i : Nat} {x : Str} (hN : X.N.Nodup) (hi : X.N[i]? = some x := by rfl) (hx : Loc X.env.scope x := by first | exact .inl rfl | exact .inr rfl) (hf : X.fn x = true ∨ X.env.scope.names.lookup x = some .local := by first | exact .inl rfl | exact .inr rfl) : PG X (.Name x pos) (gP X.K (.nm i)) := pg_name hN hi hx hf
theorem gs_nil : PGs X [] (gPs []) := pgs_nil
theorem gs_cons {x : Str} {p : Pos} {es : List Expr} {is : List Nat} (i : Nat) (hN : X.N.Nodup) (h2 : PGs X es (gPs is)) (hi : X.N[i]? = some x := by rfl) (hx : Loc X.env.scope x := by first | exact .inl rfl | exact .inr rfl) (hf : X.fn x = true ∨ X.env.scope.names.lookup x = some .local := by first | exact .inl rfl | exact .inr rfl)
    (hs : (assignEach (.Name x p :: es) X.env).map (·.2) = assign (.Name x p) X.env :: (assignEach es X.env).map (·.2) := by rfl) : PGs X (.Name x p :: es) (gPs (i :: is)) := pgs_cons (pg_name hN hi hx hf) h2 hs
theorem g_tup {es : List Expr} {k : Nat} {is : List Nat} (h : PGs X es (gPs is)) (hc : X.calm = true := by rfl) (hn : (assignEach es X.env).length = is.length := by rfl) (hst : (assignEach es X.env).findIdx? (·.1) = none := by rfl) : PG X (.Tuple es k pos) (gP X.K (.tp is)) := pg_tup hc h hn hst
end
theorem wipe_put (σ : Sl) (i : Nat) (x y : Option V) : ∀ vs : List Nat, (wipe (σ.set i x) vs).set i y = (wipe σ vs).set i y
  | [] => by unfold wipe; rw [List.set_set]
  | v :: vs => by
    unfold wipe
    by_cases h : v = i
    · subst h; rw [List.set_set, List.set_set]; exact wipe_put σ v x y vs
    · rw [List.set_comm _ _ h, List.set_comm _ _ h, wipe_put σ i x y vs]
theorem wipe_set (σ : Sl) (i : Nat) (x : Option V) : ∀ vs : List Nat, i ∈ vs → wipe (σ.set i x) vs = wipe σ vs
  | [], h => by simp at h
  | v :: vs, h => by
    unfold wipe
    by_cases e : v = i
    · subst e; exact wipe_put σ v x none vs
    · rcases List.mem_cons.mp h with h | h
      · exact absurd h.symm e
      · rw [wipe_set σ i x vs h]
theorem wipe_wipe (σ : Sl) : ∀ vs us : List Nat, (∀ i ∈ vs, i ∈ us) → wipe (wipe σ vs) us = wipe σ us
  | [], us, _ => rfl
  | v :: vs, us, h => by
    rw [show wipe σ (v :: vs) = (wipe σ vs).set v none from rfl, wipe_set _ _ _ _ (h v List.mem_cons_self)]
    exact wipe_wipe σ vs us fun i hi => h i (List.mem_cons_of_mem _ hi)
def wipeE (env : Ev) : List Nat → Ev
  | [] => env
  | v :: vs => (wipeE env vs).set v none
section
variable {C : Ctx} {B : Bd}
theorem RelE.wipe {env : Ev} {σ : Sl} (h : RelE C B env σ) : ∀ vs, RelE C B (wipeE env vs) (L2.wipe σ vs)
  | [] => h
  | v :: vs => (RelE.wipe h vs).unset v
theorem gPs_ok : ∀ {is : List Nat} {ds : List D} {vs : List V} {env : Ev} {σ : Sl} {Q : Sl → Hp → Prop}, RelE C B env σ → RepL C B ds vs → ds.length = is.length →
    (∀ σ', RelE C B (setAll env is ds) σ' → (∀ us, (∀ i ∈ is, i ∈ us) → wipe σ' us = wipe σ us) → Q σ' B.H) → gPs is vs σ B.H Q
  | [], [], vs, env, σ, Q, r, rl, _, k => ⟨rl.nil_inv, k σ r fun _ _ => rfl⟩
  | [], _ :: _, _, _, _, _, _, _, h, _ => by simp at h
  | _ :: _, [], _, _, _, _, _, _, h, _ => by simp at h
  | i :: is, d :: ds, vs, env, σ, Q, r, rl, h, k => by
    obtain ⟨v, t, rfl, q, rl⟩ := rl.cons_inv
    refine ⟨v, t, rfl, gPs_ok (env := env.set i (some d)) (r.set i q) rl (by simpa using h) fun σ' r' e => k σ' r' fun us hu => ?_⟩
    rw [e us fun j hj => hu j (List.mem_cons_of_mem _ hj), wipe_set _ _ _ _ (hu i List.mem_cons_self)]
theorem gP_ok {p : Pat} {d : D} {v : V} {env env' : Ev} {σ : Sl} {Q : Sl → Hp → Prop} (r : RelE C B env σ) (q : Rep C B d v) (e : asg p d env = some env')
    (k : ∀ σ', RelE C B env' σ' → (∀ us, (∀ i ∈ p.slots, i ∈ us) → wipe σ' us = wipe σ us) → Q σ' B.H) : gP C.K p v σ B.H Q := by
  cases p with
  | nm i =>
    cases e
    exact k _ (r.set i q) fun us hu => wipe_set _ _ _ _ (hu i (List.mem_singleton.mpr rfl))
  | tp is =>
    cases d <;> first | (simp [asg] at e; done) | skip
    rename_i ds
    simp only [asg] at e
    split at e
    · rename_i hl
      cases e
      obtain ⟨a, vs, rfl, hz, hq, t⟩ := q.tup_inv
      exact ⟨a, vs, rfl, hq, by rw [t.length]; exact hl, gPs_ok r t hl k⟩
    · cases e
end

/-! ### comprehensions -/
def R.toBad {α : Type} : R α → R α
  | .ok a st => .ok a st
  | _ => .bad
def loopC (ok : Sto → Bool) (p : Pat) (cond : M Bool) (elt : M D) (env : Ev) : List D → Sto → R (List D)
  | [], st => if ok st = true then .ok [] st else .bad
  | x :: xs, st => if ok st = true then
      match asg p x env with
      | none => .bad
      | some env1 => match cond env1 st with
        | .ok true st1 => (match elt env1 st1 with
          | .ok d st2 => (match loopC ok p cond elt env xs st2 with
            | .ok ds st3 => .ok (d :: ds) st3
            | _ => .bad)
          | _ => .bad)
        | .ok false st1 => loopC ok p cond elt env xs st1
        | _ => .bad
    else .bad
def comp (src : M Src) (p : Pat) (vs : List Nat) (cond : M Bool) (elt : M D) : M (List D) := bnd src fun s => fun env st => loopC s.ok p cond elt (wipeE env vs) s.xs st
/-- no exception is wished for -/
abbrev W0 : WX := fun _ _ _ _ => False
/-- the new list at Dd, not of ours -/
theorem pin_list {C : Ctx} {B : Bd} {st : Sto} {a : Addr} {vs us : List V} (R : RelH C B st) (hH : B.H a = some (.lst vs)) (hm : a ∉ B.m) (hF : ¬ B.F a) (hZ : ∀ q ∈ B.Z, q.1 ≠ a) :
    RelH C ⟨upd B.H a (.lst us), B.m, B.F, B.Z⟩ st ∧ (∀ d v, Rep C B d v → Rep C ⟨upd B.H a (.lst us), B.m, B.F, B.Z⟩ d v) ∧ Ext C B ⟨upd B.H a (.lst us), B.m, B.F, B.Z⟩ := by
  have x : Ext C B ⟨upd B.H a (.lst us), B.m, B.F, B.Z⟩ := ⟨fun _ _ h => sqT_mut hH trivial h, fun b h => ⟨h, fun o e => by
    show upd B.H a (.lst us) b = _
    rw [upd_ne (fun q => by subst q; exact hF h)]; exact e⟩, fun _ _ h => h, rfl⟩
  refine ⟨⟨R.len, R.nd, R.sep, fun i c b h1 h2 => (R.cell i c b h1 h2).mono x (upd_ne fun q => hm (by rw [← q]; exact List.mem_of_getElem? h2)), fun b h => ?_, R.scr.mut hH trivial, fun q hq => ⟨(upd_ne (hZ q hq)).trans (R.zz q hq).1, (R.zz q hq).2⟩, R.zt, tabs_mut R.tb hH trivial, R.upx x.kp⟩, fun d v h => h.mono x, x⟩
  obtain ⟨o, e, n⟩ := R.ff b h
  exact ⟨o, (x.fz b h).2 _ e, n⟩
theorem Kp.z {C : Ctx} {B : Bd} {Z : List (Addr × HO)} : Kp C B ⟨B.H, B.m, B.F, Z⟩ := ⟨fun _ _ h => h, fun _ h => ⟨h, fun _ e => e⟩, fun _ _ h => h⟩
/-- a world with one thing more that nobody touches; and back -/
theorem RelH.pin {C : Ctx} {B : Bd} {st : Sto} {a : Addr} {o : HO} (R : RelH C B st) (hH : B.H a = some o) (hn : NoTb o) (hm : a ∉ B.m) (hF : ¬ B.F a) : RelH C ⟨B.H, B.m, B.F, (a, o) :: B.Z⟩ st :=
  ⟨R.len, R.nd, R.sep, fun i c b h1 h2 => CellRep.monoK (B := B) Kp.z rfl (R.cell i c b h1 h2), R.ff, R.scr, fun q hq => by
    rcases List.mem_cons.mp hq with h | h
    · rw [h]; exact ⟨hH, hm, hF⟩
    · exact R.zz q h, fun q hq => by
    rcases List.mem_cons.mp hq with h | h
    · rw [h]; exact hn
    · exact R.zt q h, R.tb, R.upx Kp.z⟩
theorem RelH.unpin {C : Ctx} {B : Bd} {st : Sto} {p : Addr × HO} {Z : List (Addr × HO)} (R : RelH C B st) (hZ : B.Z = p :: Z) : RelH C ⟨B.H, B.m, B.F, Z⟩ st ∧ B.H p.1 = some p.2 ∧ p.1 ∉ B.m ∧ ¬ B.F p.1 :=
  ⟨⟨R.len, R.nd, R.sep, fun i c b h1 h2 => CellRep.monoK (B := B) Kp.z rfl (R.cell i c b h1 h2), R.ff, R.scr, fun q hq => R.zz q (by rw [hZ]; exact List.mem_cons_of_mem _ hq), fun q hq => R.zt q (by rw [hZ]; exact List.mem_cons_of_mem _ hq), R.tb, R.upx Kp.z⟩,
    R.zz p (by rw [hZ]; exact List.mem_cons_self)⟩
theorem Rep.z {C : Ctx} {B : Bd} {Z : List (Addr × HO)} {d : D} {v : V} (h : Rep C B d v) : Rep C ⟨B.H, B.m, B.F, Z⟩ d v := h.monoK Kp.z
theorem RepL.z {C : Ctx} {B : Bd} {Z : List (Addr × HO)} {d : List D} {v : List V} (h : RepL C B d v) : RepL C ⟨B.H, B.m, B.F, Z⟩ d v := h.monoK Kp.z
theorem RelE.kp {C : Ctx} {B B' : Bd} {env : Ev} {σ : Sl} (x : Kp C B B') (h : RelE C B env σ) : RelE C B' env σ :=
  ⟨h.1, fun i d e => let ⟨v, h1, h2⟩ := h.2 i d e; ⟨v, h1, h2.monoK x⟩⟩
theorem Kp.ext {C : Ctx} {A B : Bd} (x : Kp C A B) (e : B.Z = A.Z) : Ext C A B := ⟨x.tup, x.fz, x.mm, e⟩

section
variable {X : Cx} {C : Ctx} {W : WX} {elt tg iter : Expr} {ifs : List Expr} {scope : Scope} {pos : Pos} {src : M Src} {p : Pat} {cond : M Bool} {ce : M D}
theorem loopC_cons {ok : Sto → Bool} {env : Ev} {x : D} {xs : List D} {st : Sto} {ds : List D} {st' : Sto} (h : loopC ok p cond ce env (x :: xs) st = .ok ds st') :
    ok st = true ∧ ∃ env1 b st1, asg p x env = some env1 ∧ cond env1 st = .ok b st1 ∧ ((b = true ∧ ∃ d st2 r, ce env1 st1 = .ok d st2 ∧ loopC ok p cond ce env xs st2 = .ok r st' ∧ ds = d :: r) ∨ (b = false ∧ loopC ok p cond ce env xs st1 = .ok ds st')) := by
  unfold loopC at h
  split at h
  · rename_i ho
    refine ⟨ho, ?_⟩
    split at h
    · cases h
    · rename_i env1 ea
      split at h
      · rename_i st1 ec
        split at h
        · rename_i d st2 ee
          split at h
          · rename_i r st3 er
            cases h
            exact ⟨env1, true, st1, ea, ec, .inl ⟨rfl, d, st2, r, ee, er, rfl⟩⟩
          · cases h
        · cases h
      · rename_i st1 ec
        exact ⟨env1, false, st1, ea, ec, .inr ⟨rfl, h⟩⟩
      · cases h
  · cases h
theorem comp_rd {own : List (Str × Nat)} (hK : C.K = X.K) (hp : ∀ i ∈ p.slots, i ∈ own.map (·.2)) : ∀ σ H Q, tn C W (comp src p (own.map (·.2)) cond ce) σ H Q →
    tLc (ti C W src) (gP X.K p) (tb C W0 cond) (te C W0 ce) (own.map (·.2)) σ H Q := fun σ H Q ⟨env, st, B, e, r, q⟩ => by
    subst e
    refine (seq r q).mono fun J H1 ⟨s, st1, B1, e1, x1, r1, ⟨hlen, p1⟩, k1⟩ => ?_
    subst e1
    intro Dd hD
    generalize hvs : own.map (·.2) = vs at k1 hp ⊢
    cases hl : loopC s.ok p cond ce (wipeE env vs) s.xs st1 with
    | bad => rw [hl] at k1; exact k1.elim
    | exc _ _ =>
      exfalso
      have noexc : ∀ (xs : List D) (st : Sto) x st', loopC s.ok p cond ce (wipeE env vs) xs st ≠ .exc x st' := by
        intro xs
        induction xs with
        | nil => intro st x st' h; unfold loopC at h; split at h <;> cases h
        | cons a r ih =>
          intro st x st' h
          unfold loopC at h
          split at h
          · split at h
            · cases h
            · split at h
              · split at h
                · split at h
                  · cases h
                  · cases h
                · cases h
              · exact ih _ _ _ h
              · cases h
          · cases h
      exact noexc _ _ _ _ hl
    | ok res stE =>
      rw [hl] at k1
      obtain ⟨x2, r2, hq2⟩ := new_list (ds := []) (vs := []) r1.h hD (by show 0 ≤ sizeLine; decide) .nil
      obtain ⟨_, _, eq0, hH0, _, _, nm0, nF0, nZ0⟩ := hq2
      cases eq0
      refine ⟨fun i m H => ∃ B2 st2 ds vs' rest, B2.H = H ∧ Ext C B1 B2 ∧ RelH C B2 st2 ∧ H Dd = some (.lst vs') ∧ Dd ∉ B2.m ∧ ¬ B2.F Dd ∧ (∀ q ∈ B2.Z, q.1 ≠ Dd) ∧ RepL C B2 ds vs' ∧ ds.length ≤ i ∧ i ≤ s.xs.length ∧ m = s.xs.length - i ∧
        loopC s.ok p cond ce (wipeE env vs) (s.xs.drop i) st2 = .ok rest stE ∧ res = ds ++ rest, ⟨s.xs.length, _, st1, [], [], res, rfl, x2, r2, upd_same, nm0, nF0, nZ0, .nil, Nat.zero_le _, Nat.zero_le _, rfl, hl, rfl⟩, ?_⟩
      rintro i m H ⟨B2, st2, ds, vs', rest, rfl, x2, R2, hDd, nm, nF, nZ, rl, hdi, hi', rfl, hlp, hres⟩
      by_cases hlt : i < s.xs.length
      · rw [List.drop_eq_getElem_cons hlt] at hlp
        obtain ⟨hok, env1, b, st3, ea, ec, hb⟩ := loopC_cons hlp
        obtain ⟨_, hgo⟩ := p1 B2 st2 i (fun d v h => h.mono x2) R2 hok
        obtain ⟨go, hy⟩ := hgo s.xs[i] (List.getElem?_eq_getElem hlt)
        refine .inr ⟨go, fun H => ∃ B2 st2 ds vs' rest, B2.H = H ∧ Ext C B1 B2 ∧ RelH C B2 st2 ∧ H Dd = some (.lst vs') ∧ Dd ∉ B2.m ∧ ¬ B2.F Dd ∧ (∀ q ∈ B2.Z, q.1 ≠ Dd) ∧ RepL C B2 ds vs' ∧ ds.length ≤ i + 1 ∧
          loopC s.ok p cond ce (wipeE env vs) (s.xs.drop (i + 1)) st2 = .ok rest stE ∧ res = ds ++ rest, fun H' ⟨B', st', ds', vs2, rest', e', xx, RR, h1, h2, h3, h4, h5, h6, h7, h8⟩ => ⟨s.xs.length - (i + 1), by omega, B', st', ds', vs2, rest', e', xx, RR, h1, h2, h3, h4, h5, h6, hlt, rfl, h7, h8⟩, fun x H3 hyl => ?_⟩
        -- the new list is pinned while the item is made
        have RP := RelH.pin R2 hDd (fun _ z => by cases z) nm nF
        obtain ⟨_, hgoP⟩ := p1 ⟨B2.H, B2.m, B2.F, (Dd, .lst vs') :: B2.Z⟩ st2 i (fun d v h => (h.mono x2).z) RP hok
        obtain ⟨_, hyP⟩ := hgoP s.xs[i] (List.getElem?_eq_getElem hlt)
        obtain ⟨B3, rfl, x3, R3, rep3⟩ := hyP x H3 hyl
        have kp3 : Kp C B1 B3 := (x2.kp.trans Kp.z).trans x3.kp
        have E3 : RelE C B3 (wipeE env vs) (wipe σ vs) := ((r1.e.kp kp3).wipe vs)
        refine gP_ok (C := C) E3 rep3 ea ?_ |> fun h => hK ▸ h
        intro σ2 E4 hw
        refine ⟨by rw [hw vs hp, wipe_wipe σ vs vs fun _ h => h], ?_⟩
        refine ⟨env1, st2, B3, rfl, ⟨R3, E4⟩, ?_⟩
        rw [ec]
        intro b' B4 x4 r4 hbb
        subst hbb
        rcases hb with ⟨rfl, d, st5, rr, ee, er, rfl⟩ | ⟨rfl, er⟩
        · rw [if_pos rfl]
          refine ⟨env1, st3, B4, rfl, r4, ?_⟩
          rw [ee]
          intro y B5 x5 r5 rep5
          have hZ5 : B5.Z = (Dd, .lst vs') :: B2.Z := x5.zz.trans (x4.zz.trans x3.zz)
          obtain ⟨R6, h1, h2, h3⟩ := r5.h.unpin hZ5
          have kp5 : Kp C B2 ⟨B5.H, B5.m, B5.F, B2.Z⟩ := ((Kp.z.trans x3.kp).trans (x4.kp.trans x5.kp)).trans Kp.z
          obtain ⟨R7, mono7, x7⟩ := pin_list (us := vs' ++ [y]) R6 h1 h2 h3 nZ
          refine ⟨vs', h1, ?_, _, st5, ds ++ [d], vs' ++ [y], rr, rfl, x2.trans ((kp5.ext rfl).trans x7), R7, upd_same, h2, h3, nZ, ?_, ?_, er, ?_⟩
          · rw [rl.length]; omega
          · exact ((rl.monoK kp5).mono x7).append (.cons (mono7 _ _ rep5.z) .nil)
          · rw [List.length_append]; show ds.length + 1 ≤ i + 1; omega
          · rw [List.append_assoc]; exact hres
        · rw [if_neg Bool.false_ne_true]
          have hZ5 : B4.Z = (Dd, .lst vs') :: B2.Z := x4.zz.trans x3.zz
          obtain ⟨R6, h1, h2, h3⟩ := r4.h.unpin hZ5
          have kp5 : Kp C B2 ⟨B4.H, B4.m, B4.F, B2.Z⟩ := ((Kp.z.trans x3.kp).trans x4.kp).trans Kp.z
          exact ⟨⟨B4.H, B4.m, B4.F, B2.Z⟩, st3, ds, vs', rest, rfl, x2.trans (kp5.ext rfl), R6, h1, h2, h3, nZ, rl.monoK kp5, by omega, er, hres⟩
      · have ei : i = s.xs.length := by omega
        subst ei
        rw [List.drop_length] at hlp
        unfold loopC at hlp
        split at hlp
        · rename_i hok
          cases hlp
          obtain ⟨hstop, _⟩ := p1 B2 _ s.xs.length (fun d v h => h.mono x2) R2 hok
          refine .inl ⟨hstop (Nat.le_refl _), ?_⟩
          rw [List.append_nil] at hres
          subst hres
          refine k1 (.ref Dd) B2 x2 (r1.of x2 R2) ⟨Dd, vs', rfl, hDd, ?_, rl, nm, nF, nZ⟩
          rw [rl.length]; exact Nat.le_trans hdi hlen
        · cases hlp
theorem n_comp {own : List (Str × Nat)} (hK : C.K = X.K := by rfl) (hc : X.calm = true := by rfl) (hN : X.N.Nodup) (hi : PI X tg iter (ti C W src)) (ok : BlkOk X.N X.env.scope scope own)
    (hg : ∀ (s : Shared) (H : Hp) (C : Addr) (cl : List (Str × Addr)) (fp : List Addr), PG (X.blk s H scope (compEnvC scope cl C X.env) fp) tg (gP X.K p)) (ht : ∀ (s : Shared) (H : Hp) (Ca : Addr) (cl : List (Str × Addr)) (fp : List Addr), PTs (X.blk s H scope (compEnvC scope cl Ca X.env) fp) ifs (tb C W0 cond))
    (he : ∀ (s : Shared) (H : Hp) (Ca : Addr) (cl : List (Str × Addr)) (fp : List Addr), PE (X.blk s H scope (compEnvC scope cl Ca X.env) fp) elt (te C W0 ce))
    (hp : ∀ i ∈ p.slots, i ∈ own.map (·.2) := by decide) (hs : ∀ x, foldedSetIterable iter X.env x = pure x := by intro _; rfl) :
    PE X (.ListComp elt [⟨tg, iter, ifs, 0⟩] scope pos) (tn C W (comp src p (own.map (·.2)) cond ce)) :=
  (pe_lc (own := own) hc hN hi ok hg ht he hs).imp (comp_rd hK hp)
/-- no test; one -/
theorem ts_nil : PTs X [] (tb C W0 (ret true)) := ⟨fun pins s σ H Q I ⟨env, st, B, e, r, p⟩ => by
  subst e
  exact pts_nil.run pins s σ B.H Q I (p true B (Ext.refl _ _) r rfl)⟩
theorem ts_one {c : Expr} (h : PT X c (tb C W0 cond)) : PTs X [c] (tb C W0 cond) := pts_one h
end
end Ly
/-! Statements. -/
namespace Ly
open PySem PySem.Spec PyProof.Rows L2

inductive RS where
  | nx (e : Ev) (st : Sto) | ret (d : D) (st : Sto) | bk (e : Ev) (st : Sto) | ct (e : Ev) (st : Sto) | exc (x : Str) (e : Ev) (st : Sto) | bad
abbrev MS := Ev → Sto → RS
def mthen (a b : MS) : MS := fun e st => match a e st with
  | .nx e' st' => b e' st'
  | r => r
def mk {α : Type} (c : M α) (k : α → MS) : MS := fun e st => match c e st with
  | .ok a st' => k a e st'
  | .exc x st' => .exc x e st'
  | .bad => .bad
def mskip : MS := fun e st => .nx e st
def mblock : List MS → MS
  | [] => mskip
  | [a] => a
  | a :: b :: r => mthen a (mblock (b :: r))

def postS (C : Ctx) (W : WX) (B : Bd) (E : Ends) : RS → Prop
  | .nx e st' => ∀ σ' B', Ext C B B' → Rel C B' e σ' st' → E.nx σ' B'.H
  | .bk e st' => ∀ σ' B', Ext C B B' → Rel C B' e σ' st' → E.bk σ' B'.H
  | .ct e st' => ∀ σ' B', Ext C B B' → Rel C B' e σ' st' → E.ct σ' B'.H
  | .ret d st' => ∀ v B', Ext C B B' → RelH C B' st' → Rep C B' d v → E.rt v B'.H
  | .exc x e st' => ∀ cls σ' B', C.mg x = some cls → Ext C B B' → Rel C B' e σ' st' → W cls none σ' B'.H
  | .bad => False
def ts (C : Ctx) (W : WX) (c : MS) : TS := fun E σ H => ∃ env st B, B.H = H ∧ Rel C B env σ st ∧ postS C W B E (c env st)
theorem _root_.L2.PS.imp {X : Cx} {e : Stmt} {t t' : TS} (h : PS X e t) (k : ∀ D σ H, t' D σ H → t D σ H) : PS X e t' := ⟨fun pins s σ H D I q => h.run pins s σ H D I (k D σ H q)⟩
theorem _root_.L2.PSs.imp {X : Cx} {e : List Stmt} {t t' : TS} (h : PSs X e t) (k : ∀ D σ H, t' D σ H → t D σ H) : PSs X e t' := ⟨fun pins s σ H D I q => h.run pins s σ H D I (k D σ H q)⟩
section
variable {C : Ctx} {W : WX} {α β : Type} {rep : Bd → α → β → Prop} {σ : Sl} {env : Ev} {B B' : Bd} {st : Sto} {E : Ends}
theorem postS.later {r : RS} (x : Ext C B B') (h : postS C W B E r) : postS C W B' E r := by
  cases r with
  | nx e st' => exact fun σ' B2 x2 r => h σ' B2 (x.trans x2) r
  | bk e st' => exact fun σ' B2 x2 r => h σ' B2 (x.trans x2) r
  | ct e st' => exact fun σ' B2 x2 r => h σ' B2 (x.trans x2) r
  | ret d st' => exact fun v B2 x2 r q => h v B2 (x.trans x2) r q
  | exc y e st' => exact fun cls σ' B2 g x2 r => h cls σ' B2 g (x.trans x2) r
  | bad => exact h
/-- an expression, then a statement's rest -/
theorem seqS {c : M α} {k : α → MS} (R : Rel C B env σ st) (h : postS C W B E (mk c k env st)) :
    rd C W rep c σ B.H fun v H1 => ∃ d st1 B1, B1.H = H1 ∧ Ext C B B1 ∧ Rel C B1 env σ st1 ∧ rep B1 d v ∧ postS C W B1 E (k d env st1) := by
  refine ⟨env, st, B, rfl, R, ?_⟩
  unfold mk at h
  cases e : c env st with
  | ok d st1 =>
    rw [e] at h
    exact fun v B1 x r p => ⟨d, st1, B1, rfl, x, r, p, h.later x⟩
  | exc x st1 => rw [e] at h; exact fun cls B1 g x r => h cls σ B1 g x r
  | bad => rw [e] at h; exact h
end
section
variable {X : Cx} {C : Ctx} {W : WX} {s1 : Stmt} {rest : List Stmt} {a b : MS} {e : Expr} {c : M D} {pos : Pos}
theorem ss_nil : PSs X [] (ts C W (mblock [])) := pss_nil.imp fun E σ H ⟨env, st, B, e, r, p⟩ => by
  subst e
  exact p σ B (Ext.refl _ _) r
theorem ss_one (h : PS X s1 (ts C W a)) : PSs X [s1] (ts C W (mblock [a])) := pss_one h
theorem ss_cons {s2 : Stmt} {bs : List MS} (h : PS X s1 (ts C W a)) (h2 : PSs X (s2 :: rest) (ts C W (mblock (b :: bs)))) : PSs X (s1 :: s2 :: rest) (ts C W (mblock (a :: b :: bs))) := (pss_cons h h2).imp fun E σ H ⟨env, st, B, e, r, p⟩ => by
  subst e
  refine ⟨env, st, B, rfl, r, ?_⟩
  have p : postS C W B E (mthen a (mblock (b :: bs)) env st) := p
  unfold mthen at p
  cases q : a env st with
  | nx e' st' =>
    rw [q] at p
    exact fun σ' B' x r' => ⟨e', st', B', rfl, r', postS.later x p⟩
  | bk e' st' => rw [q] at p; exact p
  | ct e' st' => rw [q] at p; exact p
  | ret d st' => rw [q] at p; exact p
  | exc y e' st' => rw [q] at p; exact p
  | bad => rw [q] at p; exact p
/-- name = e -/
def mset (i : Nat) (c : M D) : MS := mk c fun d => fun env st => .nx (env.set i (some d)) st
theorem asg_rd {i : Nat} : ∀ E σ H, ts C W (mset i c) E σ H → tAsg (te C W c) (gName i) E σ H := fun E σ H ⟨env, st, B, e, r, p⟩ => by
  subst e
  refine (seqS r p).mono fun v H1 ⟨d, st1, B1, e1, x1, r1, p1, k1⟩ => ?_
  subst e1
  exact k1 _ B1 (Ext.refl _ _) ⟨r1.h, r1.e.set i p1⟩
theorem s_set {i : Nat} {x : Str} {pos' : Pos} (hN : X.N.Nodup) (he : PE X e (te C W c)) (hi : X.N[i]? = some x := by rfl) (hx : Loc X.env.scope x := by first | exact .inl rfl | exact .inr rfl) (hs : swapsWith e (some (.Name x pos')) pos.line X.env = pure false := by rfl)
    (hf : X.fn x = true ∨ X.env.scope.names.lookup x = some .local := by first | exact .inl rfl | exact .inr rfl) : PS X (.Assign [.Name x pos'] e pos) (ts C W (mset i c)) := (ps_set hN hi hx he hs hf).imp asg_rd
/-- name = [.. for ..] -/
theorem tree_rd {cl : M (List D)} {t : TE} (h : ∀ σ H Q, tn C W cl σ H Q → t σ H Q) : ∀ σ H Q, te C W (tree cl) σ H Q → t σ H Q := fun σ H Q ⟨env, st, B, e, r, p⟩ => by
  subst e
  refine h _ _ _ ((seq r p).mono fun v H1 ⟨ds, st1, B1, e1, x1, r1, p1, k1⟩ => ?_)
  subst e1
  obtain ⟨B2, e2, x2, r2, q2⟩ := p1.tree r1.h
  rw [← e2]
  exact k1 v B2 x2 (r1.of x2 r2) q2
theorem box_rd {cl : M (List D)} {t : TE} (h : ∀ σ H Q, tn C W cl σ H Q → t σ H Q) : ∀ σ H Q, te C W (box cl) σ H Q → t σ H Q := fun σ H Q ⟨env, st, B, e, r, p⟩ => by
  subst e
  refine h _ _ _ ((seq r p).mono fun v H1 ⟨ds, st1, B1, e1, x1, r1, p1, k1⟩ => ?_)
  subst e1
  obtain ⟨a, vs, rfl, hH, hz, rl, nm, nF, nZ⟩ := p1
  obtain ⟨x2, r2, g⟩ := Bd.place (c := .lst ds) r1.h ⟨vs, hH, hz, rl⟩ nm nF nZ
  obtain ⟨d, st', e, k⟩ := post_lift k1
  cases e
  exact k (.ref a) ⟨B1.H, B1.m ++ [a], B1.F, B1.Z⟩ x2 (r1.of x2 r2) (rep_ref g)
section
variable {elt tg iter : Expr} {ifs : List Expr} {scope : Scope} {src : M Src} {p : Pat} {cond : M Bool} {ce : M D} {i : Nat} {y : Str} {py cpos : Pos} {own : List (Str × Nat)}
theorem setLc {g : M D} (hK : C.K = X.K) (hc : X.calm = true) (hN : X.N.Nodup) (hy : X.N[i]? = some y) (hyl : X.env.scope.names.lookup y = some .local)
    (hsw : swapsWith (.ListComp elt [⟨tg, iter, ifs, 0⟩] scope cpos) (some (.Name y py)) pos.line X.env = pure true) (hi : PI X tg iter (ti C W src)) (ok : BlkOk X.N X.env.scope scope own)
    (hg : ∀ (s : Shared) (H : Hp) (C : Addr) (cl : List (Str × Addr)) (fp : List Addr), PG (X.blk s H scope (compEnvC scope cl C X.env) fp) tg (gP X.K p)) (ht : ∀ (s : Shared) (H : Hp) (Ca : Addr) (cl : List (Str × Addr)) (fp : List Addr), PTs (X.blk s H scope (compEnvC scope cl Ca X.env) fp) ifs (tb C W0 cond))
    (he : ∀ (s : Shared) (H : Hp) (Ca : Addr) (cl : List (Str × Addr)) (fp : List Addr), PE (X.blk s H scope (compEnvC scope cl Ca X.env) fp) elt (te C W0 ce))
    (hp : ∀ i ∈ p.slots, i ∈ own.map (·.2)) (hs : ∀ x, foldedSetIterable iter X.env x = pure x) (hgg : ∀ {t : TE}, (∀ σ H Q, tn C W (comp src p (own.map (·.2)) cond ce) σ H Q → t σ H Q) → ∀ σ H Q, te C W g σ H Q → t σ H Q) :
    PS X (.Assign [.Name y py] (.ListComp elt [⟨tg, iter, ifs, 0⟩] scope cpos) pos) (ts C W (mset i g)) :=
  (ps_setLc (own := own) hc hN hy hyl hsw hi ok hg ht he hs).imp fun E σ H h => by
    have h1 := asg_rd E σ H h
    unfold tAsg at h1 ⊢
    exact hgg (comp_rd hK hp) _ _ _ h1
theorem s_setLc (hK : C.K = X.K := by rfl) (hc : X.calm = true := by rfl) (hN : X.N.Nodup) (hy : X.N[i]? = some y := by rfl) (hyl : X.env.scope.names.lookup y = some .local := by rfl)
    (hsw : swapsWith (.ListComp elt [⟨tg, iter, ifs, 0⟩] scope cpos) (some (.Name y py)) pos.line X.env = pure true := by exact sw_true rfl rfl rfl (by decide +kernel)) (hi : PI X tg iter (ti C W src)) (ok : BlkOk X.N X.env.scope scope own)
    (hg : ∀ (s : Shared) (H : Hp) (C : Addr) (cl : List (Str × Addr)) (fp : List Addr), PG (X.blk s H scope (compEnvC scope cl C X.env) fp) tg (gP X.K p)) (ht : ∀ (s : Shared) (H : Hp) (Ca : Addr) (cl : List (Str × Addr)) (fp : List Addr), PTs (X.blk s H scope (compEnvC scope cl Ca X.env) fp) ifs (tb C W0 cond))
    (he : ∀ (s : Shared) (H : Hp) (Ca : Addr) (cl : List (Str × Addr)) (fp : List Addr), PE (X.blk s H scope (compEnvC scope cl Ca X.env) fp) elt (te C W0 ce))
    (hp : ∀ i ∈ p.slots, i ∈ own.map (·.2) := by decide) (hs : ∀ x, foldedSetIterable iter X.env x = pure x := by intro _; rfl) :
    PS X (.Assign [.Name y py] (.ListComp elt [⟨tg, iter, ifs, 0⟩] scope cpos) pos) (ts C W (mset i (tree (comp src p (own.map (·.2)) cond ce)))) := setLc hK hc hN hy hyl hsw hi ok hg ht he hp hs tree_rd
theorem s_setLcB (hK : C.K = X.K := by rfl) (hc : X.calm = true := by rfl) (hN : X.N.Nodup) (hy : X.N[i]? = some y := by rfl) (hyl : X.env.scope.names.lookup y = some .local := by rfl)
    (hsw : swapsWith (.ListComp elt [⟨tg, iter, ifs, 0⟩] scope cpos) (some (.Name y py)) pos.line X.env = pure true := by exact sw_true rfl rfl rfl (by decide +kernel)) (hi : PI X tg iter (ti C W src)) (ok : BlkOk X.N X.env.scope scope own)
    (hg : ∀ (s : Shared) (H : Hp) (C : Addr) (cl : List (Str × Addr)) (fp : List Addr), PG (X.blk s H scope (compEnvC scope cl C X.env) fp) tg (gP X.K p)) (ht : ∀ (s : Shared) (H : Hp) (Ca : Addr) (cl : List (Str × Addr)) (fp : List Addr), PTs (X.blk s H scope (compEnvC scope cl Ca X.env) fp) ifs (tb C W0 cond))
    (he : ∀ (s : Shared) (H : Hp) (Ca : Addr) (cl : List (Str × Addr)) (fp : List Addr), PE (X.blk s H scope (compEnvC scope cl Ca X.env) fp) elt (te C W0 ce))
    (hp : ∀ i ∈ p.slots, i ∈ own.map (·.2) := by decide) (hs : ∀ x, foldedSetIterable iter X.env x = pure x := by intro _; rfl) :
    PS X (.Assign [.Name y py] (.ListComp elt [⟨tg, iter, ifs, 0⟩] scope cpos) pos) (ts C W (mset i (box (comp src p (own.map (·.2)) cond ce)))) := setLc hK hc hN hy hyl hsw hi ok hg ht he hp hs box_rd
end
/-- pattern = e -/
def mput (p : Pat) (c : M D) : MS := mk c fun d => fun env st => match asg p d env with
  | some env' => .nx env' st
  | none => .bad
theorem s_put {tg : Expr} {p : Pat} (hK : C.K = X.K := by rfl) (he : PE X e (te C W c)) (hg : PG X tg (gP X.K p)) (hs : swapsWithSole [tg] e pos.line X.env = pure false := by rfl) (hw : swappedStores [tg] e X.env = pure none := by rfl)
    (h1 : (assignEach [tg] X.env).map (·.2) = [assign tg X.env] := by rfl) : PS X (.Assign [tg] e pos) (ts C W (mput p c)) := (ps_asg he hg hs hw h1).imp fun E σ H ⟨env, st, B, e, r, q⟩ => by
  subst e
  refine (seqS r q).mono fun v H1 ⟨d, st1, B1, e1, x1, r1, p1, k1⟩ => ?_
  subst e1
  split at k1
  · rename_i env' ea
    rw [← hK]
    exact gP_ok r1.e p1 ea fun σ' E' _ => k1 σ' B1 (Ext.refl _ _) ⟨r1.h, E'⟩
  · exact k1.elim
/-- a, b = x, y of plain local names -/
def mpar (i j : Nat) (as : M (List D)) : MS := mk as fun ds => fun env st => match ds with
  | [a, b] => .nx ((env.set i (some a)).set j (some b)) st
  | _ => .bad
theorem s_par {i j : Nat} {x y : Str} {a b : Expr} {as : M (List D)} {px py pt : Pos} {kt k2 pt2} (hc : X.calm = true := by rfl) (hN : X.N.Nodup) (hi : X.N[i]? = some x := by rfl) (hj : X.N[j]? = some y := by rfl) (hij : i ≠ j := by decide)
    (hx : X.env.scope.names.lookup x = some .local := by rfl) (hy : X.env.scope.names.lookup y = some .local := by rfl) (ha : PA X [a, b] (ta C W as))
    (hw : swappedStores [.Tuple [.Name x px, .Name y py] kt pt] (.Tuple [a, b] k2 pt2) X.env = pure (some [x, y]) := by rfl)
    (hs : swapsWithSole [.Tuple [.Name x px, .Name y py] kt pt] (.Tuple [a, b] k2 pt2) pos.line X.env = pure false := by rfl) :
    PS X (.Assign [.Tuple [.Name x px, .Name y py] kt pt] (.Tuple [a, b] k2 pt2) pos) (ts C W (mpar i j as)) := (ps_par hc hN hi hj hij hx hy ha hw hs).imp fun E σ H ⟨env, st, B, e, r, q⟩ => by
  subst e
  refine (seqS r q).mono fun vs H1 ⟨ds, st1, B1, e1, x1, r1, p1, k1⟩ => ?_
  subst e1
  split at k1
  · obtain ⟨v, t, rfl, q, h⟩ := p1.cons_inv
    obtain ⟨v2, t2, rfl, q2, h2⟩ := h.cons_inv
    rw [h2.nil_inv]
    exact ⟨v, v2, rfl, k1 _ B1 (Ext.refl _ _) ⟨r1.h, (r1.e.set i q).set j q2⟩⟩
  · exact k1.elim
/-- o[k] = e -/
def msub (o k v : M D) : MS := mk v fun x => mk o fun y => mk k fun z => fun env st => match y, z with
  | .ref i, .int j => match st[i]? with
    | some (.lst xs) => (match ixN xs.length j with
      | some n => .nx env (st.set i (.lst (xs.set n x)))
      | none => .bad)
    | _ => .bad
  | _, _ => .bad
theorem s_sub {o k : Expr} {co ck : M D} {spos : Pos} (he : PE X e (te C W c)) (ho : PE X o (te C W co)) (hk : PE X k (te C W ck)) (ha : ∀ v, assign (.Subscript o k spos) X.env v = (do
      let ov ← holding [v] (eval o X.env)
      let iv ← holding [v, ov] (eval k X.env)
      standAt spos
      holding [v, ov, iv] (setItem ov iv v)
      release [v, ov, iv] []) := by intro _; rfl) (hs : swapsWithSole [.Subscript o k spos] e pos.line X.env = pure false := by rfl) (hw : swappedStores [.Subscript o k spos] e X.env = pure none := by rfl)
    (h1 : (assignEach [.Subscript o k spos] X.env).map (·.2) = [assign (.Subscript o k spos) X.env] := by rfl) : PS X (.Assign [.Subscript o k spos] e pos) (ts C W (msub co ck c)) := (ps_asg he (pg_sub ho hk set_list ha) hs hw h1).imp fun E σ H ⟨env, st, B, e, r, q⟩ => by
  subst e
  refine (seqS r q).mono fun v H1 ⟨dx, st1, B1, e1, x1, r1, p1, k1⟩ => ?_
  subst e1
  refine (seqS r1 k1).mono fun vo H2 ⟨dy, st2, B2, e2, x2, r2, p2, k2⟩ => ?_
  subst e2
  refine (seqS r2 k2).mono fun vk H3 ⟨dz, st3, B3, e3, x3, r3, p3, k3⟩ => ?_
  subst e3
  obtain ⟨i, rfl⟩ : ∃ i, dy = .ref i := by cases dy <;> first | exact k3.elim | exact ⟨_, rfl⟩
  obtain ⟨j, rfl⟩ : ∃ j, dz = .int j := by cases dz <;> first | exact k3.elim | exact ⟨_, rfl⟩
  dsimp only at k3
  cases ec : st3[i]? with
  | none => rw [ec] at k3; exact k3.elim
  | some cc =>
    rw [ec] at k3
    cases cc with
    | ins _ _ _ => exact k3.elim
    | dct _ _ => exact k3.elim
    | dtt _ _ => exact k3.elim
    | lst xs =>
      dsimp only at k3
      split at k3
      · rename_i n en
        obtain ⟨a, ha, rfl⟩ := (p2.mono x3).ref_inv
        obtain ⟨vs, hH, hz, t⟩ := r3.h.cell i _ a ec ha
        have p1' := p1.mono (x2.trans x3)
        obtain ⟨x4, r4⟩ := r3.h.write (o := .lst (vs.set n v)) (c := .lst (xs.set n dx)) ha fun B' x e => ⟨_, e, by rw [List.length_set]; exact hz, ((t.mono x).set n (p1'.mono x))⟩
        refine ⟨a, vs, j, n, rfl, p3.int_inv, hH, by rw [t.length]; exact en, k3 σ _ x4 (r3.of x4 r4)⟩
      · exact k3.elim
/-- e -/
def mdo (c : M D) : MS := mk c fun _ => mskip
theorem s_expr (he : PE X e (te C W c)) (hs : swapsWith e none pos.line X.env = pure false := by rfl) : PS X (.Expr e pos) (ts C W (mdo c)) := (ps_expr he hs).imp fun E σ H ⟨env, st, B, e, r, q⟩ => by
  subst e
  refine (seqS r q).mono fun v H1 ⟨d, st1, B1, e1, x1, r1, p1, k1⟩ => ?_
  subst e1
  exact k1 σ B1 (Ext.refl _ _) r1
def mret (c : M D) : MS := mk c fun d => fun _ st => .ret d st
theorem s_ret (he : PE X e (te C W c)) : PS X (.Return (some e) pos) (ts C W (mret c)) := (ps_ret he).imp fun E σ H ⟨env, st, B, e, r, q⟩ => by
  subst e
  refine (seqS r q).mono fun v H1 ⟨d, st1, B1, e1, x1, r1, p1, k1⟩ => ?_
  subst e1
  exact k1 v B1 (Ext.refl _ _) r1.h p1
def mretN : MS := fun _ st => .ret .non st
theorem s_retN : PS X (.Return none pos) (ts C W mretN) := ps_retN.imp fun E σ H ⟨env, st, B, e, r, q⟩ => by
  subst e
  exact q .non B (Ext.refl _ _) r.h rep_non
theorem s_pass : PS X (.Pass pos) (ts C W mskip) := ps_pass.imp fun E σ H ⟨env, st, B, e, r, q⟩ => by
  subst e
  exact q σ B (Ext.refl _ _) r
def mbrk : MS := fun e st => .bk e st
def mcnt : MS := fun e st => .ct e st
theorem s_break : PS X (.Break pos) (ts C W mbrk) := ps_break.imp fun E σ H ⟨env, st, B, e, r, q⟩ => by
  subst e
  exact q σ B (Ext.refl _ _) r
theorem s_cont : PS X (.Continue pos) (ts C W mcnt) := ps_continue.imp fun E σ H ⟨env, st, B, e, r, q⟩ => by
  subst e
  exact q σ B (Ext.refl _ _) r
def mcond (t : M Bool) (a b : MS) : MS := mk t fun x => if x = true then a else b
theorem s_if {t : Expr} {ss tt : List Stmt} {ct : M Bool} (ht : PT X t (tb C W ct)) (ha : PSs X ss (ts C W a)) (hb : PSs X tt (ts C W b)) : PS X (.If t ss tt pos) (ts C W (mcond ct a b)) := (ps_if ht ha hb).imp fun E σ H ⟨env, st, B, e, r, q⟩ => by
  subst e
  refine (seqS r q).mono fun v H1 ⟨d, st1, B1, e1, x1, r1, p1, k1⟩ => ?_
  subst e1
  subst p1
  cases d with
  | true => rw [if_pos rfl] at k1 ⊢; exact ⟨env, st1, B1, rfl, r1, k1⟩
  | false => rw [if_neg Bool.false_ne_true] at k1 ⊢; exact ⟨env, st1, B1, rfl, r1, k1⟩

/-! ### loops -/
def forX (ok : Sto → Bool) (p : Pat) (body : MS) : List D → MS
  | [] => fun env st => if ok st = true then .nx env st else .bad
  | x :: xs => fun env st => if ok st = true then
      match asg p x env with
      | none => .bad
      | some env1 => match body env1 st with
        | .nx e s => forX ok p body xs e s
        | .ct e s => forX ok p body xs e s
        | .bk e s => .nx e s
        | r => r
    else .bad
def mfor (src : M Src) (p : Pat) (body : MS) : MS := mk src fun s => forX s.ok p body s.xs
theorem s_for {tg iter : Expr} {body : List Stmt} {src : M Src} {p : Pat} (hp : PassesOwn (model X.prog X.w) X.A X.env X.xe) (hK : C.K = X.K := by rfl) (hc : X.calm = true := by rfl) (hi : PI X tg iter (ti C W src)) (hg : PG X tg (gP X.K p)) (hb : PSs X body (ts C W b))
    (hs : ∀ x, foldedSetIterable iter X.env x = pure x := by intro _; rfl) : PS X (.For tg iter body [] pos) (ts C W (mfor src p b)) := (ps_for hp hc hi hg hb hs).imp fun E σ H ⟨env, st, B, e, r, q⟩ => by
  subst e
  refine (seqS r q).mono fun J H1 ⟨s, st1, B1, e1, x1, r1, ⟨hlen, p1⟩, k1⟩ => ?_
  subst e1
  refine ⟨fun i m σ H => ∃ B2 env2 st2, B2.H = H ∧ Ext C B1 B2 ∧ Rel C B2 env2 σ st2 ∧ i ≤ s.xs.length ∧ m = s.xs.length - i ∧ postS C W B2 E (forX s.ok p b (s.xs.drop i) env2 st2), ⟨s.xs.length, B1, env, st1, rfl, Ext.refl _ _, r1, Nat.zero_le _, rfl, k1⟩, ?_⟩
  rintro i m σ2 H ⟨B2, env2, st2, rfl, x2, r2, hi', rfl, k2⟩
  by_cases hlt : i < s.xs.length
  · rw [List.drop_eq_getElem_cons hlt] at k2
    unfold forX at k2
    split at k2
    · rename_i hok
      obtain ⟨_, hgo⟩ := p1 B2 st2 i (fun d v h => h.mono x2) r2.h hok
      obtain ⟨go, hy⟩ := hgo s.xs[i] (List.getElem?_eq_getElem hlt)
      refine .inr ⟨go, fun σ H => ∃ B2 env2 st2, B2.H = H ∧ Ext C B1 B2 ∧ Rel C B2 env2 σ st2 ∧ postS C W B2 E (forX s.ok p b (s.xs.drop (i + 1)) env2 st2), fun σ' H' ⟨B', env', st', e', xx, rr, kk⟩ => ⟨s.xs.length - (i + 1), by omega, B', env', st', e', xx, rr, hlt, rfl, kk⟩, fun x H3 hyl => ?_⟩
      obtain ⟨B3, rfl, x3, R3, rep3⟩ := hy x H3 hyl
      split at k2
      · exact k2.elim
      · rename_i env3 ea
        refine gP_ok (C := C) (r2.e.mono x3) rep3 ea (fun σ3 E3 _ => ?_) |> fun h => hK ▸ h
        refine ⟨env3, st2, B3, rfl, ⟨R3, E3⟩, ?_⟩
        cases eb : b env3 st2 with
        | nx e s' => rw [eb] at k2; exact fun σ4 B4 x4 r4 => ⟨B4, e, s', rfl, (x2.trans x3).trans x4, r4, postS.later (x3.trans x4) k2⟩
        | ct e s' => rw [eb] at k2; exact fun σ4 B4 x4 r4 => ⟨B4, e, s', rfl, (x2.trans x3).trans x4, r4, postS.later (x3.trans x4) k2⟩
        | bk e s' => rw [eb] at k2; exact fun σ4 B4 x4 r4 => k2 σ4 B4 (x3.trans x4) r4
        | ret d s' => rw [eb] at k2; exact fun v B4 x4 r4 q4 => k2 v B4 (x3.trans x4) r4 q4
        | exc y e s' => rw [eb] at k2; exact fun cls σ4 B4 g x4 r4 => k2 cls σ4 B4 g (x3.trans x4) r4
        | bad => rw [eb] at k2; exact k2
    · exact k2.elim
  · have ei : i = s.xs.length := by omega
    subst ei
    rw [List.drop_length] at k2
    unfold forX at k2
    split at k2
    · rename_i hok
      obtain ⟨hstop, _⟩ := p1 B2 st2 s.xs.length (fun d v h => h.mono x2) r2.h hok
      exact .inl ⟨hstop (Nat.le_refl _), k2 σ2 B2 (Ext.refl _ _) r2⟩
    · exact k2.elim
def mwhile : Nat → M Bool → MS → MS
  | 0, _, _ => fun _ _ => .bad
  | n + 1, t, body => mk t fun x => if x = true then (fun env st => match body env st with
      | .nx e s => mwhile n t body e s
      | .ct e s => mwhile n t body e s
      | .bk e s => .nx e s
      | r => r) else mskip
theorem s_while {t : Expr} {body : List Stmt} {ct : M Bool} {n : Nat} (hp : PassesOwn (model X.prog X.w) X.A X.env X.xe) (ht : PT X t (tb C W ct)) (hb : PSs X body (ts C W b)) : PS X (.While t body [] pos) (ts C W (mwhile n ct b)) := (ps_while hp ht hb).imp fun E σ H ⟨env, st, B, e, r, q⟩ => by
  subst e
  refine ⟨fun m σ H => ∃ B2 env2 st2, B2.H = H ∧ Rel C B2 env2 σ st2 ∧ postS C W B2 E (mwhile m ct b env2 st2), ⟨n, B, env, st, rfl, r, q⟩, ?_⟩
  rintro m σ2 H ⟨B2, env2, st2, rfl, r2, k2⟩
  cases m with
  | zero => exact k2.elim
  | succ m =>
    unfold mwhile at k2
    refine (seqS r2 k2).mono fun v H1 ⟨d, st1, B1, e1, x1, r1, p1, k1⟩ => ?_
    subst e1
    subst p1
    cases d with
    | true =>
      rw [if_pos rfl] at k1 ⊢
      refine ⟨fun σ H => ∃ B2 env2 st2, B2.H = H ∧ Rel C B2 env2 σ st2 ∧ postS C W B2 E (mwhile m ct b env2 st2), fun σ' H' h => ⟨m, Nat.lt_succ_self _, h⟩, env2, st1, B1, rfl, r1, ?_⟩
      cases eb : b env2 st1 with
      | nx e s' => rw [eb] at k1; exact fun σ4 B4 x4 r4 => ⟨B4, e, s', rfl, r4, postS.later x4 k1⟩
      | ct e s' => rw [eb] at k1; exact fun σ4 B4 x4 r4 => ⟨B4, e, s', rfl, r4, postS.later x4 k1⟩
      | bk e s' => rw [eb] at k1; exact k1
      | ret d s' => rw [eb] at k1; exact k1
      | exc y e s' => rw [eb] at k1; exact k1
      | bad => rw [eb] at k1; exact k1
    | false =>
      rw [if_neg Bool.false_ne_true] at k1 ⊢
      exact k1 σ2 B1 (Ext.refl _ _) r1

/-! ### an exception raised -/
/-- the facts of an own exception class -/
structure ExcF (K : PySem.W.Frag) (mg : Str → Option Value) (x : Str) : Prop where
  ex : ∃ Ca, mg x = some (.ref Ca) ∧ PySem.W.excIn K Ca [.type "ValueError", .type "Exception", .type "BaseException", .type "object"] "ValueError.__new__" = true ∧ PySem.W.keepIn K (.ref Ca) = true ∧
    PySem.W.subIn K (.ref Ca) (.type "BaseException") = some true ∧ PySem.W.typeIn K (.ref Ca) = some (.type "type")
def mraise (x : Str) : MS := fun e st => .exc x e st
theorem s_raise {x m : Str} {j : Nat} {p p2 cp : Pos} (hc : X.calm = true := by rfl) (tk : Takes X W) (F : ExcF X.K X.mg x) (hM : C.mg = X.mg := by rfl) (hg : Gl X x := by rfl) (hdb : (x == ("__debug__" : Str)) = false := by decide) :
    PS X (.Raise (some (.Call (.Name x p) [.Constant (.str m) j p2] [] cp)) none pos) (ts C W (mraise x)) := by
  obtain ⟨Ca, g, q, k, s, t⟩ := F.ex
  exact (ps_raise hc tk (pmk_own PySem.F.excBase_ValueError q g k (raises_own s t) hg hdb)).imp fun E σ H ⟨env, st, B, e, r, h⟩ => by
    subst e
    exact h (.ref Ca) σ B (by rw [hM]; exact g) (Ext.refl _ _) r
end

/-! ### methods of built-in types -/
/-- a method's rule: the receiver's type is looked at first -/
def MethOk (C : Ctx) (f : D → List D → Sto → Option (D × Sto)) (r : V → List V → Hp → VK → Prop) : Prop := ∀ (B : Bd) (st : Sto) (x : D) (xs : List D) (v : V) (vs : List V) (Q : VK) (d : D) (st' : Sto), RelH C B st → Rep C B x v → RepL C B xs vs → f x xs st = some (d, st') →
  (∀ v' B', Ext C B B' → RelH C B' st' → Rep C B' d v' → Q v' B'.H) → r v vs B.H Q
def isOf (T : String) (st : Sto) (d : D) : Bool := if T = "list" then (rdOf st d).isSome else if T = "str" then (match d with | .str _ => true | _ => false) else false
theorem isOf_ty {C : Ctx} {B : Bd} {st : Sto} {d : D} {v : V} {T : String} (R : RelH C B st) (h : isOf T st d = true) (r : Rep C B d v) : tyV C.K T v B.H := by
  unfold isOf at h
  split at h
  · rename_i e
    subst e
    cases q : rdOf st d with
    | none => rw [q] at h; cases h
    | some xs =>
      obtain ⟨a, vs, rfl, hq, _⟩ := rdOf_rep R q r
      exact .inl ⟨rfl, vs, hq⟩
  · split at h
    · rename_i e
      subst e
      split at h
      · rw [r.str_inv]; rfl
      · cases h
    · cases h
def meth (T : String) (f : D → List D → Sto → Option (D × Sto)) (o : M D) (as : M (List D)) : M D := bnd o fun x => fun env st => if isOf T st x = true then bnd as (fun xs => lift (f x xs)) env st else .bad
def meth0 (T : String) (f : D → List D → Sto → Option (D × Sto)) (o : M D) : M D := bnd o fun x => fun env st => if isOf T st x = true then lift (f x []) env st else .bad
section
variable {X : Cx} {C : Ctx} {W : WX} {o e : Expr} {es : List Expr} {co : M D} {as : M (List D)} {name : Str} {apos cpos : Pos} {T id : String} {f : D → List D → Sto → Option (D × Sto)} {r : V → List V → Hp → VK → Prop}
theorem meth_rd (hK : C.K = X.K) (hf : MethOk C f r) : ∀ σ H Q, te C W (meth T f co as) σ H Q → tBM X.K T r (te C W co) (ta C W as) σ H Q := fun σ H Q ⟨env, st, B, e, rr, p⟩ => by
  subst e
  refine (seq rr p).mono fun v H1 ⟨x, st1, B1, e1, x1, r1, p1, k1⟩ => ?_
  subst e1
  split at k1
  · rename_i ht
    refine ⟨hK ▸ isOf_ty r1.h ht p1, (seq r1 k1).mono fun vs H2 ⟨xs, st2, B2, e2, x2, r2, p2, k2⟩ => ?_⟩
    subst e2
    obtain ⟨d, st', e, k⟩ := post_lift k2
    exact hf B2 st2 x xs v vs Q d st' r2.h (p1.mono x2) p2 e fun v' B' x' h' q => k v' B' x' (r2.of x' h') q
  · exact k1.elim
theorem meth0_rd (hK : C.K = X.K) (hf : MethOk C f r) : ∀ σ H Q, te C W (meth0 T f co) σ H Q → tBM0 X.K T r (te C W co) σ H Q := fun σ H Q ⟨env, st, B, e, rr, p⟩ => by
  subst e
  refine (seq rr p).mono fun v H1 ⟨x, st1, B1, e1, x1, r1, p1, k1⟩ => ?_
  subst e1
  split at k1
  · rename_i ht
    refine ⟨hK ▸ isOf_ty r1.h ht p1, ?_⟩
    obtain ⟨d, st', e, k⟩ := post_lift k1
    exact hf B1 st1 x [] v [] Q d st' r1.h p1 .nil e fun v' B' x' h' q => k v' B' x' (r1.of x' h') q
  · exact k1.elim
theorem e_meth (hK : C.K = X.K := by rfl) (pa : PlainAttrs T) (slot : Slot T name id) (hty : typeOf (.builtin id) = pure (.type "method_descriptor")) (hm : MtR X id r) (hf : MethOk C f r) (ho : PE X o (te C W co)) (ha : PA X (e :: es) (ta C W as))
    (hbase : attributeBase o name X.env (eval o X.env) = eval o X.env := by rfl) (hfew : ((backTo cpos (starEach (e :: es) X.env)).all (fun x => !x.1) && (backToKw cpos (keywordEach [] X.env)).all (fun x => x.1.isSome) && decide ((e :: es).length + ([] : List Keyword).length + (if ([] : List Keyword).isEmpty then 0 else 1) < 30)) = true := by rfl) (hline : (apos.endLine == cpos.line) = true := by rfl) (he : starEach (e :: es) X.env = (false, eval e X.env) :: starEach es X.env := by rfl) (hpl : (backTo cpos (starEach es X.env)).any (·.1) = false := by rfl) :
    PE X (.Call (.Attribute o name apos) (e :: es) [] cpos) (te C W (meth T f co as)) := (pe_bm pa slot hty hm ho ha hbase hfew hline he hpl).imp (meth_rd hK hf)
theorem e_meth0 (hK : C.K = X.K := by rfl) (pa : PlainAttrs T) (slot : Slot T name id) (hty : typeOf (.builtin id) = pure (.type "method_descriptor")) (hm : MtR X id r) (hf : MethOk C f r) (ho : PE X o (te C W co))
    (hbase : attributeBase o name X.env (eval o X.env) = eval o X.env := by rfl) (hline : (apos.endLine == cpos.line) = true := by rfl) :
    PE X (.Call (.Attribute o name apos) [] [] cpos) (te C W (meth0 T f co)) := (pe_bm0 pa slot hty hm ho hbase hline).imp (meth0_rd hK hf)
end
def fAppend (x : D) (ys : List D) (st : Sto) : Option (D × Sto) := match x, ys with
  | .ref i, [y] => match st[i]? with
    | some (.lst xs) => if xs.length < sizeLine then some (.non, st.set i (.lst (xs ++ [y]))) else none
    | _ => none
  | _, _ => none
/-- a place that holds a list -/
theorem ref_lst {C : Ctx} {B : Bd} {st : Sto} {i : Nat} {xs : List D} {v : V} (R : RelH C B st) (e : st[i]? = some (.lst xs)) (r : Rep C B (.ref i) v) : ∃ a vs, v = .ref a ∧ B.m[i]? = some a ∧ B.H a = some (.lst vs) ∧ vs.length ≤ sizeLine ∧ RepL C B xs vs := by
  obtain ⟨a, ha, rfl⟩ := r.ref_inv
  obtain ⟨vs, hH, hz, t⟩ := R.cell i _ a e ha
  exact ⟨a, vs, rfl, ha, hH, hz, t⟩
theorem fAppend_ok {C : Ctx} : MethOk C fAppend rAppend := fun B st x xs v vs Q d st' R rx rl e k => by
  unfold fAppend at e
  split at e
  · rename_i i y
    cases ec : st[i]? with
    | none => rw [ec] at e; cases e
    | some cc =>
      rw [ec] at e
      cases cc with
      | ins _ _ _ => cases e
      | dct _ _ => cases e
      | dtt _ _ => cases e
      | lst ds =>
        dsimp only at e
        split at e
        · rename_i hz
          cases e
          obtain ⟨a, us, rfl, ha, hH, hz', t⟩ := ref_lst R ec rx
          obtain ⟨vy, t2, rfl, qy, h2⟩ := rl.cons_inv
          rw [h2.nil_inv]
          have hl : us.length < sizeLine := by rw [t.length]; exact hz
          obtain ⟨x4, r4⟩ := R.write (o := .lst (us ++ [vy])) (c := .lst (ds ++ [y])) ha fun B' x e => ⟨_, e, by rw [List.length_append]; exact hl, (t.mono x).append (.cons (qy.mono x) .nil)⟩
          exact ⟨a, us, vy, rfl, rfl, hH, hl, k _ _ x4 r4 rep_non⟩
        · cases e
  · cases e
def fExtend (x : D) (ys : List D) (st : Sto) : Option (D × Sto) := match x, ys with
  | .ref i, [y] => match st[i]?, lstOf st y with
    | some (.lst xs), some zs => if xs.length + zs.length ≤ sizeLine then some (.non, st.set i (.lst (xs ++ zs))) else none
    | _, _ => none
  | _, _ => none
theorem fExtend_ok {C : Ctx} : MethOk C fExtend rExtend := fun B st x xs v vs Q d st' R rx rl e k => by
  unfold fExtend at e
  split at e
  · rename_i i y
    cases ec : st[i]? with
    | none => rw [ec] at e; cases e
    | some cc =>
      rw [ec] at e
      cases cc with
      | ins _ _ _ => cases e
      | dct _ _ => cases e
      | dtt _ _ => cases e
      | lst ds =>
        cases ey : lstOf st y with
        | none => rw [ey] at e; cases e
        | some zs =>
          rw [ey] at e
          dsimp only at e
          split at e
          · rename_i hz
            cases e
            obtain ⟨a, us, rfl, ha, hH, hz', t⟩ := ref_lst R ec rx
            obtain ⟨vy, t2, rfl, qy, h2⟩ := rl.cons_inv
            rw [h2.nil_inv]
            obtain ⟨b, ws, rfl, hB, hzB, tB⟩ := lstOf_rep R ey qy
            have hl : us.length + ws.length ≤ sizeLine := by rw [t.length, tB.length]; exact hz
            obtain ⟨x4, r4⟩ := R.write (o := .lst (us ++ ws)) (c := .lst (ds ++ zs)) ha fun B' x e => ⟨_, e, by rw [List.length_append]; exact hl, (t.mono x).append (tB.mono x)⟩
            exact ⟨a, b, us, ws, rfl, rfl, hH, hB, hl, k _ _ x4 r4 rep_non⟩
          · cases e
  · cases e
section
variable {X : Cx} {C : Ctx} {W : WX} {o e : Expr} {co : M D} {as : M (List D)} {apos cpos : Pos}
theorem e_append (hK : C.K = X.K := by rfl) (ho : PE X o (te C W co)) (ha : PA X [e] (ta C W as)) (hbase : attributeBase o "append" X.env (eval o X.env) = eval o X.env := by rfl) (hfew : ((backTo cpos (starEach [e] X.env)).all (fun x => !x.1) && (backToKw cpos (keywordEach [] X.env)).all (fun x => x.1.isSome) && decide ([e].length + ([] : List Keyword).length + (if ([] : List Keyword).isEmpty then 0 else 1) < 30)) = true := by rfl) (hline : (apos.endLine == cpos.line) = true := by rfl)
    (he : starEach [e] X.env = (false, eval e X.env) :: starEach [] X.env := by rfl) (hpl : (backTo cpos (starEach [] X.env)).any (·.1) = false := by rfl) : PE X (.Call (.Attribute o "append" apos) [e] [] cpos) (te C W (meth "list" fAppend co as)) :=
  e_meth hK PySem.F.plainAttrs_list PySem.F.slot_list_append PySem.F.type_list_append mt_append fAppend_ok ho ha hbase hfew hline he hpl
theorem e_extend (hK : C.K = X.K := by rfl) (ho : PE X o (te C W co)) (ha : PA X [e] (ta C W as)) (hbase : attributeBase o "extend" X.env (eval o X.env) = eval o X.env := by rfl) (hfew : ((backTo cpos (starEach [e] X.env)).all (fun x => !x.1) && (backToKw cpos (keywordEach [] X.env)).all (fun x => x.1.isSome) && decide ([e].length + ([] : List Keyword).length + (if ([] : List Keyword).isEmpty then 0 else 1) < 30)) = true := by rfl) (hline : (apos.endLine == cpos.line) = true := by rfl)
    (he : starEach [e] X.env = (false, eval e X.env) :: starEach [] X.env := by rfl) (hpl : (backTo cpos (starEach [] X.env)).any (·.1) = false := by rfl) : PE X (.Call (.Attribute o "extend" apos) [e] [] cpos) (te C W (meth "list" fExtend co as)) :=
  e_meth hK PySem.F.plainAttrs_list PySem.F.slot_list_extend PySem.F.type_list_extend mt_extend fExtend_ok ho ha hbase hfew hline he hpl
end
end Ly
/-! Defs: what is left of the store behind a call; calls. -/
namespace Ly
open PySem PySem.Spec PyProof.Rows L2

mutual
/-- a value that leaves a def: the lists it made are nobody's from then on -/
def fz (n : Nat) (st : Sto) : D → Option D
  | .ref i => if i < n then some (.ref i) else match st[i]? with
    | some (.lst xs) => if D.clL n xs = true then some (.lst xs) else none
    | some (.dct ks xs) => if D.clL n xs = true then some (.dic ks xs) else none
    | _ => none
  | .tup xs => (fzL n st xs).map .tup
  | .lst xs => (fzL n st xs).map .lst
  | .dic ks xs => (fzL n st xs).map (.dic ks)
  | .non => some .non
  | .bl b => some (.bl b)
  | .int i => some (.int i)
  | .str s => some (.str s)
  | .exc c => some (.exc c)
  | .scr ns => some (.scr ns)
  | .thk => some .thk
  | .glo x => some (.glo x)
def fzL (n : Nat) (st : Sto) : List D → Option (List D)
  | [] => some []
  | x :: xs => match fz n st x, fzL n st xs with
    | some y, some ys => some (y :: ys)
    | _, _ => none
end
mutual
theorem fz_cl (n : Nat) (st : Sto) : ∀ d : D, D.cl n d = true → fz n st d = some d
  | .ref i, h => by
    simp [D.cl] at h
    simp [fz, h]
  | .tup xs, h => by
    simp [D.cl] at h
    simp [fz, fz_clL n st xs h]
  | .lst xs, h => by
    simp [D.cl] at h
    simp [fz, fz_clL n st xs h]
  | .dic ks xs, h => by
    simp [D.cl] at h
    simp [fz, fz_clL n st xs h]
  | .non, _ => by simp [fz]
  | .bl _, _ => by simp [fz]
  | .int _, _ => by simp [fz]
  | .str _, _ => by simp [fz]
  | .exc _, _ => by simp [fz]
  | .scr _, _ => by simp [fz]
  | .thk, _ => by simp [fz]
  | .glo _, _ => by simp [fz]
theorem fz_clL (n : Nat) (st : Sto) : ∀ d : List D, D.clL n d = true → fzL n st d = some d
  | [], _ => by simp [fzL]
  | x :: xs, h => by
    simp [D.clL] at h
    simp [fzL, fz_cl n st x h.1, fz_clL n st xs h.2]
end
def gcOk (n : Nat) : Sto → Sto → Bool
  | [], _ => true
  | c :: cs, c' :: cs' => (decide (c' = c) || c'.cl n) && gcOk n cs cs'
  | _ :: _, [] => false
theorem gcOk_spec {n : Nat} : ∀ {a b : Sto}, gcOk n a b = true → ∀ (i : Nat) (c : Cell), i < a.length → b[i]? = some c → a[i]? = some c ∨ c.cl n = true
  | [], b, _, i, c, hi, _ => by simp at hi
  | x :: xs, [], h, i, c, _, _ => by simp [gcOk] at h
  | x :: xs, y :: ys, h, i, c, hi, e => by
    simp [gcOk] at h
    cases i with
    | zero =>
      simp at e
      subst e
      rcases h.1 with h | h
      · exact .inl (by rw [h]; rfl)
      · exact .inr h
    | succ i => exact gcOk_spec h.2 i c (by simpa using hi) (by simpa using e)
theorem gcOk_len {n : Nat} : ∀ {a b : Sto}, gcOk n a b = true → a.length ≤ b.length
  | [], b, _ => Nat.zero_le _
  | x :: xs, [], h => by simp [gcOk] at h
  | x :: xs, y :: ys, h => by
    simp [gcOk] at h
    simpa using gcOk_len h.2
def gcR (st : Sto) : R D → R D
  | .ok d st' => if gcOk st.length st st' = true then (match fz st.length st' d with
    | some d' => .ok d' (st'.take st.length)
    | none => .ok d st') else .ok d st'
  | .exc x st' => if gcOk st.length st st' = true then .exc x (st'.take st.length) else .exc x st'
  | .bad => .bad

section
variable {C : Ctx} {B B' : Bd} {st st' : Sto}
mutual
theorem cl_of : ∀ {d : D} {v : V}, Rep C B d v → D.cl B.m.length d = true
  | .ref i, v, h => by
    obtain ⟨a, q, _⟩ := h.ref_inv
    simp [D.cl]; exact (List.getElem?_eq_some_iff.mp q).1
  | .tup xs, v, h => by
    obtain ⟨a, vs, _, _, _, t⟩ := h.tup_inv
    simp [D.cl]; exact cl_ofL t
  | .lst xs, v, h => by
    unfold Rep at h
    obtain ⟨a, vs, _, _, _, t⟩ := h
    simp [D.cl]; exact cl_ofL t
  | .dic ks xs, v, h => by
    unfold Rep at h
    obtain ⟨a, vs, _, _, _, _, t⟩ := h
    simp [D.cl]; exact cl_ofL t
  | .non, v, _ => by simp [D.cl]
  | .bl _, v, _ => by simp [D.cl]
  | .int _, v, _ => by simp [D.cl]
  | .str _, v, _ => by simp [D.cl]
  | .exc _, v, _ => by simp [D.cl]
  | .scr _, v, _ => by simp [D.cl]
  | .thk, v, _ => by simp [D.cl]
  | .glo _, v, _ => by simp [D.cl]
theorem cl_ofL : ∀ {d : List D} {v : List V}, RepL C B d v → D.clL B.m.length d = true
  | [], v, _ => by simp [D.clL]
  | x :: xs, v, h => by
    obtain ⟨u, r, _, q, t⟩ := h.cons_inv
    simp [D.clL]; exact ⟨cl_of q, cl_ofL t⟩
end
theorem cell_cl {a : Addr} {c : Cell} (h : CellRep C B a c) : c.cl B.m.length = true := by
  cases c with
  | lst ds => obtain ⟨vs, _, _, t⟩ := h; exact cl_ofL t
  | ins c ks ds => obtain ⟨_, _, _, _, _, _, t⟩ := h; exact cl_ofL t
  | dct ks ds => obtain ⟨_, _, _, t⟩ := h; exact cl_ofL t
  | dtt ks ds => obtain ⟨_, _, _, t⟩ := h; exact cl_ofL t
/-- the world without the places from n on; their lists are nobody's now -/
def cutB (B : Bd) (st : Sto) (n : Nat) : Bd := ⟨B.H, B.m.take n, fun a => B.F a ∨ ∃ i, n ≤ i ∧ B.m[i]? = some a ∧ ((∃ xs, st[i]? = some (.lst xs)) ∨ ∃ ks xs, st[i]? = some (.dct ks xs)), B.Z⟩
mutual
theorem shrink {n : Nat} : ∀ {d : D} {v : V}, D.cl n d = true → Rep C B d v → Rep C (cutB B st n) d v
  | .ref i, v, h, r => by
    obtain ⟨a, q, rfl⟩ := r.ref_inv
    simp [D.cl] at h
    exact rep_ref (show (B.m.take n)[i]? = some a by rw [List.getElem?_take_of_lt h]; exact q)
  | .tup xs, v, h, r => by
    obtain ⟨a, vs, rfl, hz, q, t⟩ := r.tup_inv
    simp [D.cl] at h
    exact rep_tup hz q (shrinkL h t)
  | .lst xs, v, h, r => by
    unfold Rep at r ⊢
    obtain ⟨a, vs, e, hz, ⟨q1, q2⟩, t⟩ := r
    simp [D.cl] at h
    exact ⟨a, vs, e, hz, ⟨.inl q1, q2⟩, shrinkL h t⟩
  | .dic ks xs, v, h, r => by
    unfold Rep at r ⊢
    obtain ⟨a, vs, e, q1, q2, k, t⟩ := r
    simp [D.cl] at h
    exact ⟨a, vs, e, .inl q1, q2, k, shrinkL h t⟩
  | .non, v, _, r => by unfold Rep at r ⊢; exact r
  | .bl _, v, _, r => by unfold Rep at r ⊢; exact r
  | .int _, v, _, r => by unfold Rep at r ⊢; exact r
  | .str _, v, _, r => by unfold Rep at r ⊢; exact r
  | .exc _, v, _, r => by
    unfold Rep at r ⊢
    obtain ⟨a, Ca, e, q, g, q2⟩ := r
    exact ⟨a, Ca, e, .inl q, g, q2⟩
  | .scr _, v, _, r => by unfold Rep at r ⊢; exact r
  | .thk, v, _, r => by unfold Rep at r ⊢; exact r
  | .glo _, v, _, r => by unfold Rep at r ⊢; exact r
theorem shrinkL {n : Nat} : ∀ {d : List D} {v : List V}, D.clL n d = true → RepL C B d v → RepL C (cutB B st n) d v
  | [], v, _, r => by rw [r.nil_inv]; exact .nil
  | x :: xs, v, h, r => by
    obtain ⟨u, t, rfl, q, r⟩ := r.cons_inv
    simp [D.clL] at h
    exact .cons (shrink h.1 q) (shrinkL h.2 r)
end
mutual
theorem fz_rep {n : Nat} (R : RelH C B st) : ∀ {d d' : D} {v : V}, fz n st d = some d' → Rep C B d v → Rep C (cutB B st n) d' v
  | .ref i, d', v, h, r => by
    obtain ⟨a, q, rfl⟩ := r.ref_inv
    unfold fz at h
    split at h
    · rename_i hi
      cases h
      exact rep_ref (show (B.m.take n)[i]? = some a by rw [List.getElem?_take_of_lt hi]; exact q)
    · rename_i hi
      cases ec : st[i]? with
      | none => rw [ec] at h; cases h
      | some c =>
        rw [ec] at h
        have cr := R.cell i c a ec q
        cases c with
        | lst xs =>
          dsimp only at h
          split at h
          · rename_i hc
            cases h
            obtain ⟨vs, hH, hz, t⟩ := cr
            exact rep_lst hz (.inr ⟨i, by omega, q, .inl ⟨xs, ec⟩⟩) hH (shrinkL hc t)
          · cases h
        | dct ks xs =>
          dsimp only at h
          split at h
          · rename_i hc
            cases h
            obtain ⟨kvs, hH, k, t⟩ := cr
            unfold Rep
            exact ⟨a, kvs, rfl, .inr ⟨i, by omega, q, .inr ⟨ks, xs, ec⟩⟩, hH, k, shrinkL hc t⟩
          · cases h
        | ins _ _ _ => cases h
        | dtt _ _ => cases h
  | .tup xs, d', v, h, r => by
    obtain ⟨a, vs, rfl, hz, q, t⟩ := r.tup_inv
    unfold fz at h
    cases e : fzL n st xs with
    | none => rw [e] at h; cases h
    | some ys =>
      rw [e] at h; cases h
      exact rep_tup hz q (fz_repL R e t)
  | .lst xs, d', v, h, r => by
    unfold Rep at r
    obtain ⟨a, vs, rfl, hz, ⟨q1, q2⟩, t⟩ := r
    unfold fz at h
    cases e : fzL n st xs with
    | none => rw [e] at h; cases h
    | some ys =>
      rw [e] at h; cases h
      exact rep_lst hz (.inl q1) q2 (fz_repL R e t)
  | .dic ks xs, d', v, h, r => by
    unfold Rep at r
    obtain ⟨a, vs, rfl, q1, q2, k, t⟩ := r
    unfold fz at h
    cases e : fzL n st xs with
    | none => rw [e] at h; cases h
    | some ys =>
      rw [e] at h; cases h
      unfold Rep
      exact ⟨a, vs, rfl, .inl q1, q2, k, fz_repL R e t⟩
  | .non, d', v, h, r => by unfold fz at h; cases h; unfold Rep at r ⊢; exact r
  | .bl _, d', v, h, r => by unfold fz at h; cases h; unfold Rep at r ⊢; exact r
  | .int _, d', v, h, r => by unfold fz at h; cases h; unfold Rep at r ⊢; exact r
  | .str _, d', v, h, r => by unfold fz at h; cases h; unfold Rep at r ⊢; exact r
  | .exc _, d', v, h, r => by
    unfold fz at h; cases h; unfold Rep at r ⊢
    obtain ⟨a, Ca, e, q, g, q2⟩ := r
    exact ⟨a, Ca, e, .inl q, g, q2⟩
  | .scr _, d', v, h, r => by unfold fz at h; cases h; unfold Rep at r ⊢; exact r
  | .thk, d', v, h, r => by unfold fz at h; cases h; unfold Rep at r ⊢; exact r
  | .glo _, d', v, h, r => by unfold fz at h; cases h; unfold Rep at r ⊢; exact r
theorem fz_repL {n : Nat} (R : RelH C B st) : ∀ {d d' : List D} {v : List V}, fzL n st d = some d' → RepL C B d v → RepL C (cutB B st n) d' v
  | [], d', v, h, r => by unfold fzL at h; cases h; rw [r.nil_inv]; exact .nil
  | x :: xs, d', v, h, r => by
    obtain ⟨u, t, rfl, q, r⟩ := r.cons_inv
    unfold fzL at h
    cases e1 : fz n st x with
    | none => rw [e1] at h; cases h
    | some y =>
      cases e2 : fzL n st xs with
      | none => rw [e1, e2] at h; cases h
      | some ys =>
        rw [e1, e2] at h; cases h
        exact .cons (fz_rep R e1 q) (fz_repL R e2 r)
end
theorem cut_relH {st0 : Sto} {B0 : Bd} (R0 : RelH C B0 st0) (x : Ext C B0 B) (R : RelH C B st) (g : gcOk st0.length st0 st = true) :
    Ext C B0 (cutB B st st0.length) ∧ RelH C (cutB B st st0.length) (st.take st0.length) := by
  have hle := gcOk_len g
  have hmt : B.m.take st0.length = B0.m := by
    apply List.ext_getElem?
    intro i
    by_cases hi : i < st0.length
    · rw [List.getElem?_take_of_lt hi]
      have hi0 : i < B0.m.length := by rw [R0.len]; exact hi
      rw [List.getElem?_eq_getElem hi0]
      exact x.mm i _ (List.getElem?_eq_getElem hi0)
    · rw [List.getElem?_eq_none (by rw [List.length_take]; omega), List.getElem?_eq_none (by rw [R0.len]; omega)]
  refine ⟨⟨fun a vs h => x.tup a vs h, fun a h => ⟨.inl (x.fz a h).1, (x.fz a h).2⟩, fun i a h => ?_, x.zz⟩, ⟨?_, ?_, fun a ha hF => ?_, fun i c a h1 h2 => ?_, fun a h => ?_, R.scr, fun q hq => ⟨(R.zz q hq).1, fun hm => (R.zz q hq).2.1 (List.mem_of_mem_take hm), fun hF => ?_⟩, R.zt, R.tb, R0.upx ⟨fun a vs h => x.tup a vs h, fun a h => ⟨.inl (x.fz a h).1, (x.fz a h).2⟩, fun i a h => by show (B.m.take st0.length)[i]? = some a; rw [hmt]; exact h⟩⟩⟩
  · show (B.m.take st0.length)[i]? = some a
    rw [hmt]; exact h
  · show (B.m.take st0.length).length = _
    rw [List.length_take, List.length_take, R.len]
  · exact R.nd.sublist (List.take_sublist _ _)
  · have ha : a ∈ B.m.take st0.length := ha
    rcases hF with hF | ⟨i, hi, hm, _⟩
    · exact R.sep a (List.mem_of_mem_take ha) hF
    · obtain ⟨j, hj⟩ := List.mem_iff_getElem?.mp ha
      have hjl : j < st0.length := by
        have := (List.getElem?_eq_some_iff.mp hj).1
        rw [List.length_take] at this; omega
      rw [List.getElem?_take_of_lt hjl] at hj
      have := nodupIx R.nd hj hm
      omega
  · have h2 : (B.m.take st0.length)[i]? = some a := h2
    have hi : i < st0.length := by
      have := (List.getElem?_eq_some_iff.mp h2).1
      rw [List.length_take] at this; omega
    rw [List.getElem?_take_of_lt hi] at h1 h2
    have cr := R.cell i c a h1 h2
    have hcl : c.cl st0.length = true := by
      rcases gcOk_spec g i c hi h1 with h | h
      · have hm0 : B0.m[i]? = some a := by
          rw [← hmt, List.getElem?_take_of_lt hi]; exact h2
        have := cell_cl (R0.cell i c a h hm0)
        rw [R0.len] at this
        exact this
      · exact h
    cases c with
    | lst ds => obtain ⟨vs, q, z, t⟩ := cr; exact ⟨vs, q, z, shrinkL hcl t⟩
    | ins c ks ds => obtain ⟨Ca, dx, fvs, g', q, k, t⟩ := cr; exact ⟨Ca, dx, fvs, g', q, k, shrinkL hcl t⟩
    | dct ks ds => obtain ⟨kvs, q, k, t⟩ := cr; exact ⟨kvs, q, k, shrinkL hcl t⟩
    | dtt ks ds => obtain ⟨kvs, q, k, t⟩ := cr; exact ⟨kvs, q, k, shrinkL hcl t⟩
  · rcases h with h | ⟨i, hi, hm, _⟩
    · exact R.ff a h
    · obtain ⟨o, e, mu⟩ := R.mut (List.mem_of_getElem? hm)
      exact ⟨o, e, fun ps z => by rw [z] at mu; exact mu⟩
  · rcases hF with hF | ⟨i, hi, hm, _⟩
    · exact (R.zz q hq).2.2 hF
    · exact (R.zz q hq).2.1 (List.mem_of_getElem? hm)

/-- what is wanted behind a call -/
def postF (C : Ctx) (B : Bd) (Q : VK) (E : XK) : R D → Prop
  | .ok d st' => ∀ v B', Ext C B B' → RelH C B' st' → Rep C B' d v → Q v B'.H
  | .exc x st' => ∀ cls B', C.mg x = some cls → Ext C B B' → RelH C B' st' → E cls none B'.H
  | .bad => False
theorem gc_post {Q : VK} {E : XK} {r : R D} (R0 : RelH C B st) (h : postF C B Q E (gcR st r)) : postF C B Q E r := by
  cases r with
  | bad => exact h
  | exc x st' =>
    unfold gcR at h
    dsimp only at h
    split at h
    · rename_i g
      intro cls B' hm x' R'
      obtain ⟨x2, r2⟩ := cut_relH R0 x' R' g
      exact h cls (cutB B' st' st.length) hm x2 r2
    · exact h
  | ok d st' =>
    unfold gcR at h
    dsimp only at h
    split at h
    · rename_i g
      split at h
      · rename_i d' e
        intro v B' x' R' q
        obtain ⟨x2, r2⟩ := cut_relH R0 x' R' g
        exact h v (cutB B' st' st.length) x2 r2 (fz_rep R' e q)
      · exact h
    · exact h
end

/-! ### defs -/
def spOf (C : Ctx) (n : Nat) (f : List D → Sto → R D) : Sp := fun vs H Q E => vs.length = n ∧ ∃ ds st B, B.H = H ∧ RelH C B st ∧ RepL C B ds vs ∧ postF C B Q E (f ds st)
def finish : RS → R D
  | .nx _ st => .ok .non st
  | .ret d st => .ok d st
  | .exc x _ st => .exc x st
  | _ => .bad
/-- a def of n parameters and N names -/
def fn (n N : Nat) (body : MS) (ds : List D) (st : Sto) : R D := if ds.length = n then gcR st (finish (body (ds.map some ++ List.replicate (N - ds.length) none) st)) else .bad
theorem relE_start {C : Ctx} {B : Bd} {N : List Str} : ∀ {ds : List D} {vs : List V}, RepL C B ds vs → RelE C B (ds.map some ++ List.replicate (N.length - ds.length) none) (L2.start N vs) := fun {ds vs} h => by
  unfold L2.start
  rw [← h.length]
  refine ⟨by simp [h.length], fun i d e => ?_⟩
  by_cases hi : i < ds.length
  · rw [List.getElem?_append_left (by simpa using hi), List.getElem?_map] at e
    cases q : ds[i]? with
    | none => rw [q] at e; cases e
    | some d' =>
      rw [q] at e; cases e
      obtain ⟨v, h1, h2⟩ := h.get q
      exact ⟨v, by rw [List.getElem?_append_left (by simp [h.length]; exact hi), List.getElem?_map, h1]; rfl, h2⟩
  · rw [List.getElem?_append_right (by simpa using hi), List.getElem?_replicate] at e
    split at e <;> cases e
section
variable {P : Program} {w : World} {K : PySem.W.Frag} {mg : Str → Option Value} {base : Heap}
theorem fn_ok {x qual : Str} {st : Stmt} {f : Addr} {fd : FuncData} {N ps : List Str} {k : Nat} {C : Ctx} {body : MS} (F : Fun K x qual st f fd) (S : FnScope N ps (defScope st))
    (hb : ∀ (cdv : Value) (A : Around) (outer : List Env) (s : Shared) (H : Hp) (E : XK), Room k (A.deeper (envOfC qual (defScope st) s.heap.objs.size f cdv)) →
      PSs (cxOf (L2.CX P w) P w K mg base N qual (defScope st) f cdv A outer s H E) (defBody st) (ts C (fun cls d _ H => E cls d H) body)) :
    FnOk P w K mg base (L2.CX P w) (k + 1) f fd ps (spOf C ps.length (fn ps.length N.length body)) := by
  refine F.okX S (fun vs H Q E h => h.1) fun cdv A outer s H vs Q E hr hsp => ⟨_, hb cdv A outer s H E hr, ?_⟩
  obtain ⟨hl, ds, st, B, e, R, rl, p⟩ := hsp
  subst e
  unfold fn at p
  rw [if_pos (by rw [← rl.length]; exact hl)] at p
  have p := gc_post R p
  refine ⟨_, st, B, rfl, ⟨R, relE_start rl⟩, ?_⟩
  cases q : body (ds.map some ++ List.replicate (N.length - ds.length) none) st with
  | nx e st' => rw [q] at p; exact fun σ' B' x r => p .non B' x r.h rep_non
  | ret d st' => rw [q] at p; exact fun v B' x r t => p v B' x r t
  | bk e st' => rw [q] at p; exact p.elim
  | ct e st' => rw [q] at p; exact p.elim
  | exc x e st' => rw [q] at p; exact fun cls σ' B' g x r => p cls B' g x r.h
  | bad => rw [q] at p; exact p.elim
/-- a def at its name -/
structure Df (P : Program) (w : World) (K : PySem.W.Frag) (mg : Str → Option Value) (base : Heap) (C : Ctx) (k : Nat) (x : Str) (n : Nat) (f : List D → Sto → R D) : Prop where
  ex : ∃ fa fd ps, FnOk P w K mg base (L2.CX P w) k fa fd ps (spOf C n f) ∧ mg x = some (.ref fa) ∧ PySem.W.keepIn K (.ref fa) = true ∧ Binds K fd ps []
  ar : ∀ ds st, ds.length ≠ n → f ds st = .bad
theorem fn_ar {n N : Nat} {body : MS} : ∀ ds st, ds.length ≠ n → fn n N body ds st = .bad := fun ds st h => by unfold fn; rw [if_neg h]
/-- what a def of the text is, by its facts -/
structure StF (K : PySem.W.Frag) (mg : Str → Option Value) (x qual : Str) (st : Stmt) (ps : List Str) : Prop where
  ex : ∃ f fd, Fun K x qual st f fd ∧ mg x = some (.ref f) ∧ Binds K fd ps []
theorem df_ok {x qual : Str} {st : Stmt} {N ps : List Str} {k : Nat} {C : Ctx} {body : MS} (F : StF K mg x qual st ps) (S : FnScope N ps (defScope st))
    (hb : ∀ (f : Addr) (cdv : Value) (A : Around) (outer : List Env) (s : Shared) (H : Hp) (E : XK), Room k (A.deeper (envOfC qual (defScope st) s.heap.objs.size f cdv)) →
      PSs (cxOf (L2.CX P w) P w K mg base N qual (defScope st) f cdv A outer s H E) (defBody st) (ts C (fun cls d _ H => E cls d H) body)) :
    Df P w K mg base C (k + 1) x ps.length (fn ps.length N.length body) := by
  obtain ⟨f, fd, h, g, b⟩ := F.ex
  exact ⟨⟨f, fd, ps, fn_ok h S (hb f), g, h.kp, b⟩, fn_ar⟩
theorem Df.mono {C : Ctx} {j k : Nat} {x : Str} {n : Nat} {f : List D → Sto → R D} (h : Df P w K mg base C j x n f) (hj : j ≤ k) : Df P w K mg base C k x n f := by
  obtain ⟨fa, fd, ps, h1, h2⟩ := h.ex
  exact ⟨⟨fa, fd, ps, h1.mono hj, h2⟩, h.ar⟩
end
def callF (f : List D → Sto → R D) (as : M (List D)) : M D := bnd as fun ds => fun _ st => f ds st
section
variable {X : Cx} {C : Ctx} {W : WX} {e : Expr} {es : List Expr} {as : M (List D)} {x : Str} {p pos : Pos} {k n : Nat} {f : List D → Sto → R D}
/-- exceptions of a callee are taken -/
abbrev Pass (X : Cx) (W : WX) : Prop := ∀ σ, PassesAt (L2.CX X.prog X.w) X σ (WE W σ)
theorem pass_of {W : WX} (tk : Takes X W) : Pass X W := fun σ => passAt tk σ
theorem pass0W : Pass X W0 := fun σ _ _ _ _ _ _ h => by
  obtain ⟨_, _, _, _, _, _, _, _, _, _, _, _, z⟩ := h
  exact z.elim
theorem sp_of {env : Ev} {σ : Sl} {B : Bd} {st : Sto} {ds : List D} {vs : List V} {Q : VK} (har : ∀ ds st, ds.length ≠ n → f ds st = .bad) (r : Rel C B env σ st) (rl : RepL C B ds vs) (h : post C W (fun B => Rep C B) σ env B Q (f ds st)) : spOf C n f vs B.H Q (WE W σ) := by
  have hn : ds.length = n := by
    by_cases hn : ds.length = n
    · exact hn
    · rw [har ds st hn] at h; exact h.elim
  refine ⟨by rw [rl.length]; exact hn, ds, st, B, rfl, r.h, rl, ?_⟩
  cases q : f ds st with
  | ok d st' => rw [q] at h; exact fun v B' x' R' t => h v B' x' (r.of x' R') t
  | exc y st' => rw [q] at h; exact fun cls B' g x' R' => h cls B' g x' (r.of x' R')
  | bad => rw [q] at h; exact h.elim
theorem e_call (F : Df X.prog X.w X.K X.mg X.base C k x n f) (hr : Room k X.A) (hx : Pass X W) (ha : PA X (e :: es) (ta C W as)) (hg : Gl X x := by rfl) (hdb : (x == ("__debug__" : Str)) = false := by decide)
    (he : starEach (e :: es) X.env = (false, eval e X.env) :: starEach es X.env := by rfl) (hpl : (backTo pos (starEach es X.env)).any (·.1) = false := by rfl) :
    PE X (.Call (.Name x p) (e :: es) [] pos) (te C W (callF f as)) := by
  obtain ⟨fa, fd, ps, h1, h2, h3, h4⟩ := F.ex
  exact (pe_callS h1 hr hg h2 h3 h4 hx ha hdb he hpl).imp fun σ H Q ⟨env, st, B, e, r, q⟩ => by
    subst e
    refine (seq r q).mono fun vs H1 ⟨ds, st1, B1, e1, x1, r1, p1, k1⟩ => ?_
    subst e1
    exact sp_of F.ar r1 p1 k1
end

/-! ### the law -/
def spLaw (K : PySem.W.Frag) (T : List (Addr × Str)) (f : List D → Sto → R D) : Sp := fun vs H Q E => vs.length = 1 ∧ ∀ mg : Str → Option Value, ∃ S ns, spOf ⟨K, mg, S, ns, T, none⟩ 1 f vs H Q E
theorem law_fn {P : Program} {w : World} {K : PySem.W.Frag} {mg : Str → Option Value} {base : Heap} {k : Nat} {fa : Addr} {fd : FuncData} {ps : List Str} {T : List (Addr × Str)} {f : List D → Sto → R D} (hl : ps.length = 1)
    (F : ∀ S ns, FnOk P w K mg base (L2.CX P w) k fa fd ps (spOf ⟨K, mg, S, ns, T, none⟩ 1 f)) : FnOk P w K mg base (L2.CX P w) k fa fd ps (spLaw K T f) :=
  ⟨fun vs H Q E h => by rw [hl]; exact h.1, fun A outer s H args us vs Q E hr e0 hb hv h => by
    obtain ⟨S, ns, h⟩ := h.2 mg
    exact (F S ns).run A outer s H args us vs Q E hr e0 hb hv h⟩
theorem law_start {K : PySem.W.Frag} {T : List (Addr × Str)} {f : List D → Sto → R D} {H : Hp} {a : Addr} {ns : List Int} (hf : ∃ st, f [.scr ns] [] = .ok (.bl true) st) (hn : ns.length ≤ 63) (hS : ∀ mg, ScrOk ⟨K, mg, a, ns, T, none⟩ H) (hT : LamX.Tabs T H) :
    spLaw K T f [.ref a] H (fun v _ => v = .bl true) fun _ _ _ => False := by
  refine ⟨rfl, fun mg => ⟨a, ns, rfl, [.scr ns], [], ⟨H, [], fun _ => False, []⟩, rfl, ⟨rfl, List.nodup_nil, fun _ h => (by cases h), fun i c b h => by simp at h, fun _ h => h.elim, hS mg, fun _ h => (by cases h), fun _ h => (by cases h), hT, fun _ h => by cases h⟩, .cons ?_ .nil, ?_⟩⟩
  · unfold Rep; exact ⟨rfl, rfl⟩
  · obtain ⟨st, e⟩ := hf
    rw [e]
    exact fun v B' x R q => q.bl_inv
theorem law_sp {K : PySem.W.Frag} {f : List D → Sto → R D} {H : Hp} {a : Addr} {ns : List Int} (hf : ∃ st, f [.scr ns] [] = .ok (.bl true) st) (hn : ns.length ≤ 63) (hO : Only H) (hS : SqL K H a (ns.map V.int)) :
    spLaw K [] f [.ref a] H (fun v _ => v = .bl true) fun _ _ _ => False := by
  refine law_start hf hn (fun mg => ⟨Nat.le_trans hn (by decide), ?_⟩) fun p hp => by cases hp
  rcases hS with (h | h) | h
  · rcases hO a with z | ⟨o, xs, z⟩
    · rw [h] at z; cases z
    · rw [h] at z; cases z
  · exact .inl h
  · exact .inr h
end Ly
/-! More rules. -/
namespace Ly
open PySem PySem.Spec PyProof.Rows L2

/-! ### comparisons as tests -/
section
variable {X : Cx} {C : Ctx} {W : WX} {a b c : Expr} {ca cb cc : M D} {pos : Pos}
theorem tst_rd {cx : M D} {t : TE} (h : ∀ σ H Q, te C W cx σ H Q → t σ H Q) : ∀ σ H Q, tb C W (tst cx) σ H Q → tTest t σ H Q := fun σ H Q ⟨env, st, B, e, rr, p⟩ => by
  subst e
  refine h _ _ _ ((seq rr p).mono fun v H1 ⟨x, st1, B1, e1, x1, r1, p1, k1⟩ => ?_)
  subst e1
  split at k1
  · exact ⟨_, p1.bl_inv, k1 _ B1 (Ext.refl _ _) r1 rfl⟩
  · exact k1.elim
theorem t_cmpG {op : CmpOp} {f : D → D → Sto → Option (D × Sto)} {r : R2} (ho : OpR X (compareOp op) r) (hb : BinOk C f r) (ha : PE X a (te C W ca)) (hb' : PE X b (te C W cb)) (hm : behindInMarks op b = false) : PT X (.Compare a [op] [b] pos) (tb C W (tst (bin f ca cb))) :=
  (pt_cmpR ho ha hb' hm).imp (tst_rd (bin_rd hb))
theorem t_lt (ha : PE X a (te C W ca)) (hb : PE X b (te C W cb)) : PT X (.Compare a [.Lt] [b] pos) (tb C W (tst (bin opLt ca cb))) := t_cmpG op_lt opCmp_ok ha hb (nomark _)
theorem t_le (ha : PE X a (te C W ca)) (hb : PE X b (te C W cb)) : PT X (.Compare a [.LtE] [b] pos) (tb C W (tst (bin opLe ca cb))) := t_cmpG op_le opCmp_ok ha hb (nomark _)
theorem t_gt (ha : PE X a (te C W ca)) (hb : PE X b (te C W cb)) : PT X (.Compare a [.Gt] [b] pos) (tb C W (tst (bin opGt ca cb))) := t_cmpG op_gt opCmp_ok ha hb (nomark _)
theorem t_ge (ha : PE X a (te C W ca)) (hb : PE X b (te C W cb)) : PT X (.Compare a [.GtE] [b] pos) (tb C W (tst (bin opGe ca cb))) := t_cmpG op_ge opCmp_ok ha hb (nomark _)
theorem t_eq (hK : C.K = X.K := by rfl) (hu : X.A.units + 64 < cLine) (ha : PE X a (te C W ca)) (hb : PE X b (te C W cb)) : PT X (.Compare a [.Eq] [b] pos) (tb C W (tst (bin opEq ca cb))) := t_cmpG (op_eq.or (hK ▸ op_eqD hu)) opEq_ok ha hb (nomark _)
theorem t_ne (hK : C.K = X.K := by rfl) (hu : X.A.units + 64 < cLine) (ha : PE X a (te C W ca)) (hb : PE X b (te C W cb)) : PT X (.Compare a [.NotEq] [b] pos) (tb C W (tst (bin opNe ca cb))) := t_cmpG (op_ne.or (hK ▸ op_neD hu)) opNe_ok ha hb (nomark _)
theorem t_isN (ha : PE X a (te C W ca)) (hb : PE X b (te C W cb)) : PT X (.Compare a [.Is] [b] pos) (tb C W (tst (bin opIsN ca cb))) := t_cmpG op_isN opIsN_ok ha hb (nomark _)
theorem t_notN (ha : PE X a (te C W ca)) (hb : PE X b (te C W cb)) : PT X (.Compare a [.IsNot] [b] pos) (tb C W (tst (bin opNotN ca cb))) := t_cmpG op_notN opNotN_ok ha hb (nomark _)
theorem chain_rd {f g : D → D → Sto → Option (D × Sto)} {r r' : R2} (hf : BinOk C f r) (hg : BinOk C g r') : ∀ σ H Q, te C W (chain f g ca cb cc) σ H Q → tChain r r' (te C W ca) (te C W cb) (te C W cc) σ H Q := fun σ H Q ⟨env, st, B, e, rr, p⟩ => by
  subst e
  refine (seq rr p).mono fun v H1 ⟨x, st1, B1, e1, x1, r1, p1, k1⟩ => ?_
  subst e1
  refine (seq r1 k1).mono fun u H2 ⟨y, st2, B2, e2, x2, r2, p2, k2⟩ => ?_
  subst e2
  cases ef : f x y st2 with
  | none => unfold bnd lift at k2; rw [ef] at k2; exact k2.elim
  | some q =>
    obtain ⟨d, st3⟩ := q
    unfold bnd lift at k2
    rw [ef] at k2
    dsimp only at k2
    refine hf B2 st2 x y v u _ d st3 r2.h (p1.mono x2) p2 ef fun v' B3 x3 r3 q3 => ?_
    have rr3 := r2.of x3 r3
    split at k2
    · refine ⟨true, q3.bl_inv, ?_⟩
      rw [if_pos rfl]
      have k2 : post C W (fun B => Rep C B) σ env B2 Q (bnd cc (fun z => lift (g y z)) env st3) := k2
      refine (seq rr3 (k2.later x3)).mono fun w H4 ⟨z, st4, B4, e4, x4, r4, p4, k4⟩ => ?_
      subst e4
      obtain ⟨d', st', e, k⟩ := post_lift k4
      exact hg B4 st4 y z u w Q d' st' r4.h (p2.mono (x3.trans x4)) p4 e fun v' B' x' h' q => k v' B' x' (r4.of x' h') q
    · refine ⟨false, q3.bl_inv, ?_⟩
      rw [if_neg Bool.false_ne_true]
      exact k2 (.bl false) B3 x3 rr3 rep_bl
    · exact k2.elim
theorem t_le_le (ha : PE X a (te C W ca)) (hb : PE X b (te C W cb)) (hc : PE X c (te C W cc)) (hm : lastMarks [.LtE, .LtE] [b, c] = false := by with_unfolding_all rfl) : PT X (.Compare a [.LtE, .LtE] [b, c] pos) (tb C W (tst (chain opLe opLe ca cb cc))) := (pt_chain op_le op_le ha hb hc hm).imp (tst_rd (chain_rd opCmp_ok opCmp_ok))
theorem t_le_lt (ha : PE X a (te C W ca)) (hb : PE X b (te C W cb)) (hc : PE X c (te C W cc)) (hm : lastMarks [.LtE, .Lt] [b, c] = false := by with_unfolding_all rfl) : PT X (.Compare a [.LtE, .Lt] [b, c] pos) (tb C W (tst (chain opLe opLt ca cb cc))) := (pt_chain op_le op_lt ha hb hc hm).imp (tst_rd (chain_rd opCmp_ok opCmp_ok))

/-! ### in -/
def D.flat : D → Bool
  | .non => true
  | .bl _ => true
  | .int _ => true
  | .str _ => true
  | _ => false
theorem flat_eqV {B : Bd} {x y : D} {v u : V} (hx : x.flat = true) (hy : y.flat = true) (rx : Rep C B x v) (ry : Rep C B y u) : flatV v = true ∧ flatV u = true ∧ eqV v u = D.eq x y := by
  have ev : ∀ {x : D} {v : V}, x.flat = true → Rep C B x v → (x = .non ∧ v = .non) ∨ (∃ b, x = .bl b ∧ v = .bl b) ∨ (∃ i, x = .int i ∧ v = .int i) ∨ ∃ s, x = .str s ∧ v = .str s := fun {x v} h r => by
    cases x <;> first | (simp [D.flat] at h; done) | skip
    · exact .inl ⟨rfl, r.non_inv⟩
    · exact .inr (.inl ⟨_, rfl, r.bl_inv⟩)
    · exact .inr (.inr (.inl ⟨_, rfl, r.int_inv⟩))
    · exact .inr (.inr (.inr ⟨_, rfl, r.str_inv⟩))
  rcases ev hx rx with ⟨rfl, rfl⟩ | ⟨_, rfl, rfl⟩ | ⟨_, rfl, rfl⟩ | ⟨_, rfl, rfl⟩ <;> rcases ev hy ry with ⟨rfl, rfl⟩ | ⟨_, rfl, rfl⟩ | ⟨_, rfl, rfl⟩ | ⟨_, rfl, rfl⟩ <;>
    exact ⟨rfl, rfl, by simp [eqV, D.eq]⟩
theorem flat_all {B : Bd} {x : D} {v : V} (hx : x.flat = true) (rx : Rep C B x v) : ∀ {ds : List D} {vs : List V}, ds.all D.flat = true → RepL C B ds vs → vs.all flatV = true ∧ (vs.any fun y => eqV y v) = ds.any fun y => D.eq y x
  | [], vs, _, r => by rw [r.nil_inv]; exact ⟨rfl, rfl⟩
  | d :: ds, vs, h, r => by
    obtain ⟨u, t, rfl, q, r⟩ := r.cons_inv
    rw [List.all_cons, Bool.and_eq_true] at h
    obtain ⟨h1, h2, h3⟩ := flat_eqV h.1 hx q rx
    obtain ⟨h4, h5⟩ := flat_all hx rx h.2 r
    rw [List.all_cons, List.any_cons, List.any_cons, h1, h4, h3, h5]
    exact ⟨rfl, rfl⟩
def inF (neg : Bool) (x y : D) (st : Sto) : Option (D × Sto) := (seqOf st y).bind fun ys => if x.flat && ys.all D.flat then some (.bl (if neg then !(ys.any fun y => D.eq y x) else ys.any fun y => D.eq y x), st) else none
theorem inF_ok {neg : Bool} : BinOk C (inF neg) (rIn C.K neg) := fun B st x y v u Q d st' R rx ry e k => by
  unfold inF at e
  cases ey : seqOf st y with
  | none => rw [ey] at e; cases e
  | some ys =>
    rw [ey, Option.bind_some] at e
    split at e
    · rename_i h
      rw [Bool.and_eq_true] at h
      cases e
      obtain ⟨a, us, rfl, hq, hz, rl⟩ := seqOf_rep R ey ry
      obtain ⟨h4, h5⟩ := flat_all h.1 rx h.2 rl
      refine ⟨a, us, rfl, hq, (flat_eqV h.1 h.1 rx rx).1, h4, ?_⟩
      unfold inV
      rw [h5]
      exact k _ B (Ext.refl _ _) R rep_bl
    · cases e
/-- a sign in a text -/
def inS (neg : Bool) (x y : D) (st : Sto) : Option (D × Sto) := match x, y with
  | .str a, .str z => match a.cps.toList with
    | [c] => some (.bl (if neg then !decide (c ∈ z.cps.toList) else decide (c ∈ z.cps.toList)), st)
    | _ => none
  | _, _ => none
def opIn (x y : D) (st : Sto) : Option (D × Sto) := match y with
  | .str _ => inS false x y st
  | _ => inF false x y st
def opNotIn (x y : D) (st : Sto) : Option (D × Sto) := match y with
  | .str _ => inS true x y st
  | _ => inF true x y st
end
theorem cps_one {a : Str} {c : Nat} (h : a.cps.toList = [c]) : a = ⟨#[c]⟩ := by
  obtain ⟨⟨l⟩⟩ := a
  simp at h
  rw [h]
section
variable {X : Cx} {C : Ctx} {W : WX} {a b c : Expr} {ca cb cc : M D} {pos : Pos}
theorem inS_ok {neg : Bool} : BinOk C (inS neg) (fun x y H Q => ∃ c z, x = .str ⟨#[c]⟩ ∧ y = .str z ∧ Q (.bl (if neg then !decide (c ∈ z.cps.toList) else decide (c ∈ z.cps.toList))) H) := fun B st x y v u Q d st' R rx ry e k => by
  unfold inS at e
  split at e
  · split at e
    · rename_i c h
      cases e
      rw [rx.str_inv, ry.str_inv, cps_one h]
      exact ⟨_, _, rfl, rfl, k _ B (Ext.refl _ _) R rep_bl⟩
    · cases e
  · cases e
theorem BinOk.or {f g h : D → D → Sto → Option (D × Sto)} {r r' : R2} (hf : BinOk C f r) (hg : BinOk C g r') (hh : ∀ x y st, h x y st = f x y st ∨ h x y st = g x y st) : BinOk C h (fun x y H Q => r x y H Q ∨ r' x y H Q) := fun B st x y v u Q d st' R rx ry e k => by
  rcases hh x y st with q | q
  · exact .inl (hf B st x y v u Q d st' R rx ry (q ▸ e) k)
  · exact .inr (hg B st x y v u Q d st' R rx ry (q ▸ e) k)
theorem opIn_alt (x y : D) (st : Sto) : opIn x y st = inS false x y st ∨ opIn x y st = inF false x y st := by unfold opIn; split <;> simp
theorem opNotIn_alt (x y : D) (st : Sto) : opNotIn x y st = inS true x y st ∨ opNotIn x y st = inF true x y st := by unfold opNotIn; split <;> simp
theorem e_in (hK : C.K = X.K := by rfl) (ha : PE X a (te C W ca)) (hb : PE X b (te C W cb)) (hm : behindInMarks .In b = false := by rfl) : PE X (.Compare a [.In] [b] pos) (te C W (bin opIn ca cb)) := e_cmp (op_in_sign.or (hK ▸ op_in_seq)) (inS_ok.or inF_ok opIn_alt) ha hb hm
theorem e_notIn (hK : C.K = X.K := by rfl) (ha : PE X a (te C W ca)) (hb : PE X b (te C W cb)) (hm : behindInMarks .NotIn b = false := by rfl) : PE X (.Compare a [.NotIn] [b] pos) (te C W (bin opNotIn ca cb)) := e_cmp (op_notIn_sign.or (hK ▸ op_notIn_seq)) (inS_ok.or inF_ok opNotIn_alt) ha hb hm
theorem t_in (hK : C.K = X.K := by rfl) (ha : PE X a (te C W ca)) (hb : PE X b (te C W cb)) (hm : behindInMarks .In b = false := by rfl) : PT X (.Compare a [.In] [b] pos) (tb C W (tst (bin opIn ca cb))) := t_cmpG (op_in_sign.or (hK ▸ op_in_seq)) (inS_ok.or inF_ok opIn_alt) ha hb hm
theorem t_notIn (hK : C.K = X.K := by rfl) (ha : PE X a (te C W ca)) (hb : PE X b (te C W cb)) (hm : behindInMarks .NotIn b = false := by rfl) : PT X (.Compare a [.NotIn] [b] pos) (tb C W (tst (bin opNotIn ca cb))) := t_cmpG (op_notIn_sign.or (hK ▸ op_notIn_seq)) (inS_ok.or inF_ok opNotIn_alt) ha hb hm

/-! ### globals -/
theorem e_globI {x : Str} {i : Int} (hm : ∃ t, X.mg x = some (.int i t)) (hg : Gl X x := by rfl) (hd : (x == ("__debug__" : Str)) = false := by decide) : PE X (.Name x pos) (te C W (ret (.int i))) := by
  obtain ⟨t, h⟩ := hm
  exact e_glob (v := .int i) hg h ⟨t, rfl⟩ (fun _ => rep_int) hd
theorem e_globS {x : Str} {i : Str} (hm : ∃ t, X.mg x = some (.str i t)) (hg : Gl X x := by rfl) (hd : (x == ("__debug__" : Str)) = false := by decide) : PE X (.Name x pos) (te C W (ret (.str i))) := by
  obtain ⟨t, h⟩ := hm
  exact e_glob (v := .str i) hg h ⟨t, rfl⟩ (fun _ => rep_str) hd
/-! ### list.index -/
def fIndex (x : D) (ys : List D) (st : Sto) : Option (D × Sto) := match ys with
  | [y] => (rdOf st x).bind fun xs => if y.flat && xs.all D.flat then (xs.findIdx? fun z => D.eq z y).map fun (j : Nat) => (.int (j : Int), st) else none
  | _ => none
theorem fIndex_ok : MethOk C fIndex (rIndex C.K) := fun B st x xs v vs Q d st' R rx rl e k => by
  unfold fIndex at e
  split at e
  · rename_i y
    cases ex : rdOf st x with
    | none => rw [ex] at e; cases e
    | some ds =>
      rw [ex, Option.bind_some] at e
      split at e
      · rename_i hf
        rw [Bool.and_eq_true] at hf
        cases ei : ds.findIdx? (fun z => D.eq z y) with
        | none => rw [ei] at e; cases e
        | some j =>
          rw [ei] at e
          cases e
          obtain ⟨vy, t2, rfl, qy, h2⟩ := rl.cons_inv
          rw [h2.nil_inv]
          obtain ⟨a, us, rfl, hq, hz, t⟩ := rdOf_rep R ex rx
          obtain ⟨h4, _⟩ := flat_all hf.1 qy hf.2 t
          obtain ⟨hj, hj1, hj2⟩ := List.findIdx?_eq_some_iff_getElem.mp ei
          have fl : ∀ (m : Nat) (dm : D), ds[m]? = some dm → dm.flat = true := fun m dm hm => (List.all_eq_true.mp hf.2) dm (List.mem_of_getElem? hm)
          obtain ⟨z, hz1, rz⟩ := t.get (List.getElem?_eq_getElem hj)
          refine ⟨a, us, vy, j, z, rfl, rfl, hq, (flat_eqV hf.1 hf.1 qy qy).1, h4, hz1, ?_, fun m z' hm hz' => ?_, k _ B (Ext.refl _ _) R rep_int⟩
          · rw [(flat_eqV (fl j _ (List.getElem?_eq_getElem hj)) hf.1 rz qy).2.2]; exact hj1
          · obtain ⟨dm, hd, rd⟩ := t.get' hz'
            rw [(flat_eqV (fl m _ hd) hf.1 rd qy).2.2]
            have hml : m < ds.length := by omega
            have := hj2 m hm
            rw [List.getElem?_eq_getElem hml] at hd
            cases hd
            simpa using this
      · cases e
  · cases e
theorem e_index {o e : Expr} {co : M D} {as : M (List D)} {apos cpos : Pos} (hK : C.K = X.K := by rfl) (ho : PE X o (te C W co)) (ha : PA X [e] (ta C W as)) (hbase : attributeBase o "index" X.env (eval o X.env) = eval o X.env := by rfl)
    (hfew : ((backTo cpos (starEach [e] X.env)).all (fun x => !x.1) && (backToKw cpos (keywordEach [] X.env)).all (fun x => x.1.isSome) && decide ([e].length + ([] : List Keyword).length + (if ([] : List Keyword).isEmpty then 0 else 1) < 30)) = true := by rfl) (hline : (apos.endLine == cpos.line) = true := by rfl)
    (he : starEach [e] X.env = (false, eval e X.env) :: starEach [] X.env := by rfl) (hpl : (backTo cpos (starEach [] X.env)).any (·.1) = false := by rfl) : PE X (.Call (.Attribute o "index" apos) [e] [] cpos) (te C W (meth "list" fIndex co as)) :=
  e_meth hK PySem.F.plainAttrs_list PySem.F.slot_list_index PySem.F.type_list_index (hK ▸ mt_index) fIndex_ok ho ha hbase hfew hline he hpl
/-! ### three at once -/
def mpar3 (i j l : Nat) (as : M (List D)) : MS := mk as fun ds => fun env st => match ds with
  | [a, b, c] => .nx (((env.set i (some a)).set j (some b)).set l (some c)) st
  | _ => .bad
theorem s_par3 {i j l : Nat} {x y z : Str} {as : M (List D)} {px py pz pt : Pos} {kt k2 pt2} (hc : X.calm = true := by rfl) (hN : X.N.Nodup) (hi : X.N[i]? = some x := by rfl) (hj : X.N[j]? = some y := by rfl) (hl : X.N[l]? = some z := by rfl) (hij : i ≠ j := by decide) (hil : i ≠ l := by decide) (hjl : j ≠ l := by decide)
    (hx : X.env.scope.names.lookup x = some .local := by rfl) (hy : X.env.scope.names.lookup y = some .local := by rfl) (hz : X.env.scope.names.lookup z = some .local := by rfl) (ha : PA X [a, b, c] (ta C W as))
    (hw : swappedStores [.Tuple [.Name x px, .Name y py, .Name z pz] kt pt] (.Tuple [a, b, c] k2 pt2) X.env = pure (some [x, y, z]) := by rfl)
    (hs : swapsWithSole [.Tuple [.Name x px, .Name y py, .Name z pz] kt pt] (.Tuple [a, b, c] k2 pt2) pos.line X.env = pure false := by rfl) :
    PS X (.Assign [.Tuple [.Name x px, .Name y py, .Name z pz] kt pt] (.Tuple [a, b, c] k2 pt2) pos) (ts C W (mpar3 i j l as)) := (ps_par3 hc hN hi hj hl hij hil hjl hx hy hz ha hw hs).imp fun E σ H ⟨env, st, B, e, r, q⟩ => by
  subst e
  refine (seqS r q).mono fun vs H1 ⟨ds, st1, B1, e1, x1, r1, p1, k1⟩ => ?_
  subst e1
  split at k1
  · obtain ⟨v, t, rfl, q, h⟩ := p1.cons_inv
    obtain ⟨v2, t2, rfl, q2, h2⟩ := h.cons_inv
    obtain ⟨v3, t3, rfl, q3, h3⟩ := h2.cons_inv
    rw [h3.nil_inv]
    exact ⟨v, v2, v3, rfl, k1 _ B1 (Ext.refl _ _) ⟨r1.h, ((r1.e.set i q).set j q2).set l q3⟩⟩
  · exact k1.elim
end
/-! ### the built-in types' names -/
theorem bt_int : bootBuiltins "int" = some (.type "int") := by decide +kernel
theorem bt_bool : bootBuiltins "bool" = some (.type "bool") := by decide +kernel
theorem bt_str : bootBuiltins "str" = some (.type "str") := by decide +kernel
theorem bt_list : bootBuiltins "list" = some (.type "list") := by decide +kernel
theorem bt_tuple : bootBuiltins "tuple" = some (.type "tuple") := by decide +kernel
theorem bt_dict : bootBuiltins "dict" = some (.type "dict") := by decide +kernel
/-! ### a recursion's floor -/
theorem df_bad {P : Program} {w : World} {K : PySem.W.Frag} {mg : Str → Option Value} {base : Heap} {C : Ctx} {k : Nat} {x qual : Str} {st : Stmt} {ps : List Str} (F : StF K mg x qual st ps) : Df P w K mg base C k x ps.length (fun _ _ => .bad) := by
  obtain ⟨f, fd, h, g, b⟩ := F.ex
  refine ⟨⟨f, fd, ps, ⟨fun vs H Q E h => h.1, fun A outer s H args us vs Q E hr e0 hb hv h => ?_⟩, g, h.kp, b⟩, fun _ _ _ => rfl⟩
  obtain ⟨_, ds, st, B, _, _, _, p⟩ := h
  exact p.elim
theorem no_cx {P : Program} {w : World} {H : Hp} {s : Shared} {e : Value} {s' : Shared} (h : L2.CX P w [] H s (fun _ _ _ => False) e s') : False := by
  obtain ⟨_, _, _, _, _, _, _, _, _, _, _, _, z⟩ := h
  exact z
/-! ### facts of the text -/
theorem stF_mk {K : PySem.W.Frag} {h : Heap} {mg : Str → Option Value} {x qual : Str} {st : Stmt} {ps : List Str} {f : Addr} {oc : Value} {od an : Option Addr} {osl : Array (Option Value)} {kV doc pm cdv ct : Value} (X : K.In h) (G : h.Ns mainGlobals mg)
    (a : PySem.W.nsIn K mainGlobals x = some (some (.ref f))) (l : K.lookup f = some ⟨oc, od, .func (PySem.W.fnOf x qual (defArgs st) (defBody st) (defScope st) .none kV doc pm an cdv ct), osl⟩)
    (c : PySem.W.codeIn K cdv qual = true) (k : PySem.W.keepIn K (.ref f) = true)
    (hb : ∀ (kV doc pm : Value) (an : Option Addr) (cdv ct : Value) (us : List Value), us.length = ps.length → bindArgs (PySem.W.fnOf x qual (defArgs st) (defBody st) (defScope st) .none kV doc pm an cdv ct) ⟨us, []⟩ = pure (ps.zip us)) : StF K mg x qual st ps :=
  have F := fun_mk (st := st) l c k
  ⟨⟨f, _, F, PySem.W.mg_of X G a, F.binds hb⟩⟩
theorem lawF_mk {K : PySem.W.Frag} {h : Heap} {mg : Str → Option Value} {x qual p : Str} {st : Stmt} {f : Addr} {oc : Value} {od an : Option Addr} {osl : Array (Option Value)} {kV doc pm cdv ct : Value} (X : K.In h) (G : h.Ns mainGlobals mg)
    (a : PySem.W.nsIn K mainGlobals x = some (some (.ref f))) (l : K.lookup f = some ⟨oc, od, .func (PySem.W.fnOf x qual (defArgs st) (defBody st) (defScope st) .none kV doc pm an cdv ct), osl⟩)
    (c : PySem.W.codeIn K cdv qual = true) (k : PySem.W.keepIn K (.ref f) = true)
    (hb : ∀ (kV doc pm : Value) (an : Option Addr) (cdv ct : Value) (us : List Value), us.length = [p].length → bindArgs (PySem.W.fnOf x qual (defArgs st) (defBody st) (defScope st) .none kV doc pm an cdv ct) ⟨us, []⟩ = pure ([p].zip us)) :
    ∃ f fd, Fun K x qual st f fd ∧ mg x = some (.ref f) ∧ Binds K fd [p] [] ∧ (∀ (s : Shared) (u : Value), BindsTo s fd ⟨[u], []⟩ [(p, u)]) :=
  have F := fun_mk (st := st) l c k
  ⟨f, _, F, PySem.W.mg_of X G a, F.binds hb, fun s v => .of_eq (hb kV doc pm an cdv ct [v] rfl)⟩
theorem useF {p q : Prop} (h : p) (k : p → q) : q := k h
theorem glI_mk {K : PySem.W.Frag} {h : Heap} {mg : Str → Option Value} {x : Str} {i : Int} {t : Tok} (X : K.In h) (G : h.Ns mainGlobals mg) (a : PySem.W.nsIn K mainGlobals x = some (some (.int i t))) : ∃ t, mg x = some (.int i t) := ⟨t, PySem.W.mg_of X G a⟩
theorem glS_mk {K : PySem.W.Frag} {h : Heap} {mg : Str → Option Value} {x : Str} {i : Str} {t : Tok} (X : K.In h) (G : h.Ns mainGlobals mg) (a : PySem.W.nsIn K mainGlobals x = some (some (.str i t))) : ∃ t, mg x = some (.str i t) := ⟨t, PySem.W.mg_of X G a⟩
theorem excF_mk {K : PySem.W.Frag} {h : Heap} {mg : Str → Option Value} {x : Str} {Ca : Addr} (X : K.In h) (G : h.Ns mainGlobals mg) (a : PySem.W.nsIn K mainGlobals x = some (some (.ref Ca)))
    (e : PySem.W.excIn K Ca [.type "ValueError", .type "Exception", .type "BaseException", .type "object"] "ValueError.__new__" = true) (k : PySem.W.keepIn K (.ref Ca) = true)
    (s : PySem.W.subIn K (.ref Ca) (.type "BaseException") = some true) (t : PySem.W.typeIn K (.ref Ca) = some (.type "type")) : ExcF K mg x := ⟨⟨Ca, PySem.W.mg_of X G a, e, k, s, t⟩⟩
end Ly
/-! Computations are run. -/
namespace Ly
open PySem PySem.Spec PyProof.Rows L2

def R.nxt {α β : Type} (r : R α) (k : α → Sto → R β) : R β := match r with
  | .ok a st => k a st
  | .exc x st => .exc x st
  | .bad => .bad
def optR {α : Type} : Option (α × Sto) → R α
  | some (a, st) => .ok a st
  | none => .bad
def R.toS {α : Type} (r : R α) (e : Ev) (k : α → Sto → RS) : RS := match r with
  | .ok a st => k a st
  | .exc x st => .exc x e st
  | .bad => .bad
def RS.thn (r : RS) (k : Ev → Sto → RS) : RS := match r with
  | .nx e st => k e st
  | r => r
section
variable {α β : Type} {a : α} {st : Sto} {x : Str} {e : Ev} {k : α → Sto → R β} {ks : α → Sto → RS} {kr : Ev → Sto → RS} {d : D}
@[simp] theorem nxt_ok : (R.ok a st).nxt k = k a st := rfl
@[simp] theorem nxt_exc : (R.exc x st : R α).nxt k = .exc x st := rfl
@[simp] theorem nxt_bad : (R.bad : R α).nxt k = .bad := rfl
@[simp] theorem optR_some : optR (some (a, st)) = .ok a st := rfl
@[simp] theorem optR_none : optR (none : Option (α × Sto)) = .bad := rfl
@[simp] theorem toS_ok : (R.ok a st).toS e ks = ks a st := rfl
@[simp] theorem toS_exc : (R.exc x st : R α).toS e ks = .exc x e st := rfl
@[simp] theorem toS_bad : (R.bad : R α).toS e ks = .bad := rfl
@[simp] theorem thn_nx : (RS.nx e st).thn kr = kr e st := rfl
@[simp] theorem thn_ret : (RS.ret d st).thn kr = .ret d st := rfl
@[simp] theorem thn_bk : (RS.bk e st).thn kr = .bk e st := rfl
@[simp] theorem thn_ct : (RS.ct e st).thn kr = .ct e st := rfl
@[simp] theorem thn_exc : (RS.exc x e st).thn kr = .exc x e st := rfl
@[simp] theorem thn_bad : (RS.bad).thn kr = .bad := rfl
end
section
variable {α β : Type} (e : Ev) (st : Sto)
@[simp] theorem ret_run (a : α) : ret a e st = .ok a st := rfl
@[simp] theorem bnd_run (c : M α) (f : α → M β) : bnd c f e st = (c e st).nxt fun a st' => f a e st' := by unfold bnd R.nxt; cases c e st <;> rfl
@[simp] theorem lift_run (f : Sto → Option (α × Sto)) : lift f e st = optR (f st) := by unfold lift; cases f st <;> rfl
@[simp] theorem mvar_run (i : Nat) : mvar i e st = (match e[i]? with | some (some d) => .ok d st | _ => .bad) := rfl
@[simp] theorem args_nil : args [] e st = .ok [] st := rfl
@[simp] theorem args_cons (c : M D) (cs : List (M D)) : args (c :: cs) e st = (c e st).nxt fun d st' => (args cs e st').nxt fun ds st' => .ok (d :: ds) st' := by
  show bnd c (fun d => bnd (args cs) fun ds => ret (d :: ds)) e st = _
  simp
@[simp] theorem bin_run (f : D → D → Sto → Option (α × Sto)) (a b : M D) : bin f a b e st = (a e st).nxt fun x st1 => (b e st1).nxt fun y st2 => optR (f x y st2) := by unfold bin; simp
@[simp] theorem un_run (f : D → Sto → Option (D × Sto)) (a : M D) : un f a e st = (a e st).nxt fun x st1 => optR (f x st1) := by unfold un; simp
@[simp] theorem calls_run (f : List D → Sto → Option (α × Sto)) (a : M (List D)) : calls f a e st = (a e st).nxt fun x st1 => optR (f x st1) := by unfold calls; simp
@[simp] theorem callF_run (f : List D → Sto → R D) (a : M (List D)) : callF f a e st = (a e st).nxt fun x st1 => f x st1 := by unfold callF; simp
@[simp] theorem tree_run (c : M (List D)) : tree c e st = (c e st).nxt fun ds st1 => .ok (.lst ds) st1 := by unfold tree; simp
@[simp] theorem box_run (c : M (List D)) : box c e st = (c e st).nxt fun ds st1 => .ok (.ref st1.length) (st1 ++ [.lst ds]) := by unfold box; simp
@[simp] theorem dlst_run (cs : List (M D)) : dlst cs e st = (args cs e st).nxt fun ds st1 => if ds.length ≤ sizeLine then .ok ds st1 else .bad := by
  unfold dlst; rw [bnd_run]; congr; funext a st'; rw [lift_run]; split <;> rfl
@[simp] theorem dtup_run (cs : List (M D)) : dtup cs e st = (args cs e st).nxt fun ds st1 => if ds.length ≤ sizeLine then .ok (.tup ds) st1 else .bad := by
  unfold dtup; rw [bnd_run]; congr; funext a st'; rw [lift_run]; split <;> rfl
@[simp] theorem tst_run (c : M D) : tst c e st = (c e st).nxt fun d st1 => match d with | .bl b => .ok b st1 | _ => .bad := by
  unfold tst; simp; congr; funext a st'; cases a <;> rfl
@[simp] theorem mnot_run (c : M Bool) : mnot c e st = (c e st).nxt fun b st1 => .ok (!b) st1 := by unfold mnot; simp
@[simp] theorem mand_run (a b : M Bool) : mand a b e st = (a e st).nxt fun x st1 => if x = true then b e st1 else .ok false st1 := by
  unfold mand; simp; congr; funext x st'; split <;> rfl
@[simp] theorem mor_run (a b : M Bool) : mor a b e st = (a e st).nxt fun x st1 => if x = true then .ok true st1 else b e st1 := by
  unfold mor; simp; congr; funext x st'; split <;> rfl
@[simp] theorem vand_run (a b : M D) : vand a b e st = (a e st).nxt fun x st1 => match x with | .bl true => b e st1 | .bl false => .ok (.bl false) st1 | _ => .bad := by
  unfold vand; simp; congr; funext x st'; cases x <;> first | rfl | (rename_i k; cases k <;> rfl)
@[simp] theorem vor_run (a b : M D) : vor a b e st = (a e st).nxt fun x st1 => match x with | .bl true => .ok (.bl true) st1 | .bl false => b e st1 | _ => .bad := by
  unfold vor; simp; congr; funext x st'; cases x <;> first | rfl | (rename_i k; cases k <;> rfl)
@[simp] theorem vnot_run (a : M D) : vnot a e st = (a e st).nxt fun x st1 => match x with | .bl b => .ok (.bl !b) st1 | _ => .bad := by
  unfold vnot; simp; congr; funext x st'; cases x <;> rfl
@[simp] theorem mif_run {γ : Type} (t : M Bool) (a b : M γ) : mif t a b e st = (t e st).nxt fun x st1 => if x = true then a e st1 else b e st1 := by
  unfold mif; simp; congr; funext x st'; split <;> rfl
@[simp] theorem chain_run (f g : D → D → Sto → Option (D × Sto)) (a b c : M D) : chain f g a b c e st = (a e st).nxt fun x st1 => (b e st1).nxt fun y st2 => match f x y st2 with
    | some (.bl true, st3) => (c e st3).nxt fun z st4 => optR (g y z st4)
    | some (.bl false, st3) => .ok (.bl false) st3
    | _ => .bad := by
  unfold chain; simp; congr; funext x st1; congr; funext y st2
  cases f x y st2 with
  | none => rfl
  | some p =>
    obtain ⟨d, st3⟩ := p
    cases d <;> first | rfl | (rename_i k; cases k <;> simp)
@[simp] theorem part_run (c : M D) : part c e st = (c e st).nxt fun d st1 => match d with | .int i => .ok (some i) st1 | _ => .bad := by
  unfold part; simp; congr; funext x st'; cases x <;> rfl
@[simp] theorem slice_run (f : Option Int → Option Int → D → Sto → Option (α × Sto)) (a : M D) (l h : M (Option Int)) : slice f a l h e st = (a e st).nxt fun x st1 => (l e st1).nxt fun lo st2 => (h e st2).nxt fun hi st3 => optR (f lo hi x st3) := by unfold slice; simp
@[simp] theorem walk_run (a : M D) : walk a e st = (a e st).nxt fun d st1 => match srcOf st1 d with | some s => .ok s st1 | none => .bad := by
  unfold walk; simp; congr; funext x st'; cases srcOf st' x <;> rfl
@[simp] theorem comp_run (src : M Src) (p : Pat) (vs : List Nat) (cond : M Bool) (elt : M D) : comp src p vs cond elt e st = (src e st).nxt fun s st1 => loopC s.ok p cond elt (wipeE e vs) s.xs st1 := by unfold comp; simp
@[simp] theorem meth_run (T : String) (f : D → List D → Sto → Option (D × Sto)) (o : M D) (as : M (List D)) : meth T f o as e st = (o e st).nxt fun x st1 => if isOf T st1 x = true then (as e st1).nxt fun ds st2 => optR (f x ds st2) else .bad := by
  unfold meth; simp
@[simp] theorem meth0_run (T : String) (f : D → List D → Sto → Option (D × Sto)) (o : M D) : meth0 T f o e st = (o e st).nxt fun x st1 => if isOf T st1 x = true then optR (f x [] st1) else .bad := by
  unfold meth0; simp
/-! statements -/
@[simp] theorem mk_run (c : M α) (k : α → MS) : mk c k e st = (c e st).toS e fun a st' => k a e st' := by unfold mk R.toS; cases c e st <;> rfl
@[simp] theorem mthen_run (a b : MS) : mthen a b e st = (a e st).thn b := by unfold mthen RS.thn; cases a e st <;> rfl
@[simp] theorem mskip_run : mskip e st = .nx e st := rfl
@[simp] theorem mblock_nil : mblock [] e st = .nx e st := rfl
@[simp] theorem mblock_one (a : MS) : mblock [a] e st = a e st := rfl
@[simp] theorem mblock_cons (a b : MS) (r : List MS) : mblock (a :: b :: r) e st = (a e st).thn (mblock (b :: r)) := by
  show mthen a (mblock (b :: r)) e st = _; simp
@[simp] theorem mset_run (i : Nat) (c : M D) : mset i c e st = (c e st).toS e fun d st' => .nx (e.set i (some d)) st' := by unfold mset; simp
@[simp] theorem mput_run (p : Pat) (c : M D) : mput p c e st = (c e st).toS e fun d st' => match asg p d e with | some e' => .nx e' st' | none => .bad := by unfold mput; rw [mk_run] <;> rfl
@[simp] theorem mpar_run (i j : Nat) (as : M (List D)) : mpar i j as e st = (as e st).toS e fun ds st' => match ds with | [a, b] => .nx ((e.set i (some a)).set j (some b)) st' | _ => .bad := by unfold mpar; rw [mk_run] <;> rfl
@[simp] theorem mpar3_run (i j l : Nat) (as : M (List D)) : mpar3 i j l as e st = (as e st).toS e fun ds st' => match ds with | [a, b, c] => .nx (((e.set i (some a)).set j (some b)).set l (some c)) st' | _ => .bad := by unfold mpar3; rw [mk_run] <;> rfl
@[simp] theorem msub_run (o k v : M D) : msub o k v e st = (v e st).toS e fun x st1 => (o e st1).toS e fun y st2 => (k e st2).toS e fun z st3 => match y, z with
  | .ref i, .int j => (match st3[i]? with
    | some (.lst xs) => (match ixN xs.length j with
      | some n => .nx e (st3.set i (.lst (xs.set n x)))
      | none => .bad)
    | _ => .bad)
  | _, _ => .bad := by
  unfold msub; rw [mk_run]; congr
@[simp] theorem mdo_run (c : M D) : mdo c e st = (c e st).toS e fun _ st' => .nx e st' := by unfold mdo; simp
@[simp] theorem mret_run (c : M D) : mret c e st = (c e st).toS e fun d st' => .ret d st' := by unfold mret; simp
@[simp] theorem mretN_run : mretN e st = .ret .non st := rfl
@[simp] theorem mbrk_run : mbrk e st = .bk e st := rfl
@[simp] theorem mcnt_run : mcnt e st = .ct e st := rfl
@[simp] theorem mraise_run (x : Str) : mraise x e st = .exc x e st := rfl
@[simp] theorem mcond_run (t : M Bool) (a b : MS) : mcond t a b e st = (t e st).toS e fun x st' => if x = true then a e st' else b e st' := by
  unfold mcond; simp; congr; funext x st'; split <;> rfl
@[simp] theorem mfor_run (src : M Src) (p : Pat) (body : MS) : mfor src p body e st = (src e st).toS e fun s st' => forX s.ok p body s.xs e st' := by unfold mfor; simp
/-! ends -/
@[simp] theorem finish_nx : finish (.nx e st) = .ok .non st := rfl
@[simp] theorem finish_ret (d : D) : finish (.ret d st) = .ok d st := rfl
@[simp] theorem finish_exc (x : Str) : finish (.exc x e st) = .exc x st := rfl
@[simp] theorem finish_bad : finish .bad = .bad := rfl
end
/-! what is left of the store -/
theorem fn_run {n N : Nat} {body : MS} {ds : List D} {st : Sto} (h : ds.length = n) : fn n N body ds st = gcR st (finish (body (ds.map some ++ List.replicate (N - ds.length) none) st)) := by unfold fn; rw [if_pos h]
theorem gcOk_same (n : Nat) : ∀ (a g : Sto), gcOk n a (a ++ g) = true
  | [], g => rfl
  | c :: cs, g => by
    show ((decide (c = c) || c.cl n) && gcOk n cs (cs ++ g)) = true
    rw [gcOk_same n cs g]; simp
theorem gcR_new {st g : Sto} {d : D} (h : D.cl st.length d = true) : gcR st (.ok d (st ++ g)) = .ok d st := by
  unfold gcR
  dsimp only
  rw [if_pos (gcOk_same _ _ _), fz_cl _ _ _ h]
  simp
theorem gcR_same {st : Sto} {d : D} (h : D.cl st.length d = true) : gcR st (.ok d st) = .ok d st := by
  have := gcR_new (st := st) (g := []) h
  rwa [List.append_nil] at this
theorem gcR_exc {st g : Sto} {x : Str} : gcR st (.exc x (st ++ g)) = .exc x st := by
  unfold gcR
  dsimp only
  rw [if_pos (gcOk_same _ _ _)]
  simp
theorem gcR_exc0 {st : Sto} {x : Str} : gcR st (.exc x st) = .exc x st := by
  have := gcR_exc (st := st) (g := []) (x := x)
  rwa [List.append_nil] at this
@[simp] theorem gcR_bad {st : Sto} : gcR st .bad = .bad := rfl
/-- a list that was made within leaves as a tree -/
theorem gcR_made {st g : Sto} {i : Nat} {xs : List D} (hi : st.length ≤ i) (h : (st ++ g)[i]? = some (.lst xs)) (hc : D.clL st.length xs = true) : gcR st (.ok (.ref i) (st ++ g)) = .ok (.lst xs) st := by
  unfold gcR
  dsimp only
  rw [if_pos (gcOk_same _ _ _)]
  unfold fz
  rw [if_neg (by omega), h]
  dsimp only
  rw [if_pos hc]
  simp
@[simp] theorem cl_int (n : Nat) (i : Int) : D.cl n (.int i) = true := by simp [D.cl]
@[simp] theorem cl_bl (n : Nat) (i : Bool) : D.cl n (.bl i) = true := by simp [D.cl]
@[simp] theorem cl_str (n : Nat) (i : Str) : D.cl n (.str i) = true := by simp [D.cl]
@[simp] theorem cl_non (n : Nat) : D.cl n .non = true := by simp [D.cl]
@[simp] theorem cl_tup (n : Nat) (xs : List D) : D.cl n (.tup xs) = D.clL n xs := by simp [D.cl]
@[simp] theorem cl_lst (n : Nat) (xs : List D) : D.cl n (.lst xs) = D.clL n xs := by simp [D.cl]
@[simp] theorem clL_nil (n : Nat) : D.clL n [] = true := by simp [D.clL]
@[simp] theorem clL_cons (n : Nat) (x : D) (xs : List D) : D.clL n (x :: xs) = (D.cl n x && D.clL n xs) := by simp [D.clL]
theorem clL_all (n : Nat) : ∀ xs : List D, (∀ x ∈ xs, D.cl n x = true) → D.clL n xs = true
  | [], _ => by simp
  | x :: xs, h => by simp [h x List.mem_cons_self, clL_all n xs fun y hy => h y (List.mem_cons_of_mem _ hy)]
theorem clL_map {α : Type} (n : Nat) (f : α → D) (h : ∀ a, D.cl n (f a) = true) (xs : List α) : D.clL n (xs.map f) = true := clL_all n _ fun x hx => by
  obtain ⟨a, _, rfl⟩ := List.mem_map.mp hx
  exact h a
theorem clL_append (n : Nat) : ∀ xs ys : List D, D.clL n (xs ++ ys) = (D.clL n xs && D.clL n ys)
  | [], ys => by simp
  | x :: xs, ys => by rw [List.cons_append, clL_cons, clL_cons, clL_append n xs ys, Bool.and_assoc]

/-! walks over lists that are maps -/
section
variable {α β : Type}
theorem loopC_map {p : Pat} {cond : M Bool} {elt : M D} {env : Ev} {st : Sto} (g f : α → D) (c : α → Bool) (e : α → Ev) : ∀ l : List α, (∀ a ∈ l, asg p (g a) env = some (e a) ∧ cond (e a) st = .ok (c a) st ∧ (c a = true → elt (e a) st = .ok (f a) st)) →
    loopC (fun _ => true) p cond elt env (l.map g) st = .ok ((l.filter c).map f) st
  | [], _ => rfl
  | a :: l, h => by
    obtain ⟨h1, h2, h3⟩ := h a List.mem_cons_self
    have ih := loopC_map g f c e l fun b hb => h b (List.mem_cons_of_mem _ hb)
    rw [List.map_cons]
    unfold loopC
    rw [if_pos rfl, h1]
    dsimp only
    rw [h2]
    cases hc : c a with
    | true =>
      dsimp only
      rw [h3 hc]
      dsimp only
      rw [ih, List.filter_cons_of_pos hc]
      rfl
    | false =>
      dsimp only
      rw [ih, List.filter_cons_of_neg (by simp [hc])]
/-- over any list of data, one item to one -/
theorem loopC_each {p : Pat} {elt : M D} {env : Ev} {st : Sto} (f : D → D) (e : D → Ev) (l : List D) (h : ∀ a ∈ l, asg p a env = some (e a) ∧ elt (e a) st = .ok (f a) st) :
    loopC (fun _ => true) p (ret true) elt env l st = .ok (l.map f) st := by
  have := loopC_map (p := p) (cond := ret true) (elt := elt) (env := env) (st := st) id f (fun _ => true) e l fun a ha => ⟨(h a ha).1, rfl, fun _ => (h a ha).2⟩
  rw [List.map_id] at this
  rw [this, List.filter_eq_self.mpr (fun _ _ => rfl)]
end

/-! ### the draws, which stand alike in every law -/
def cellv (ns : List Int) (k : Int) : Int := if k < ns.length then ns.getD k.toNat 0 else if ns = [] then 0 else ns.getD (k % ns.length).toNat 0 * 31 + k
def drawn (ns : List Int) (k : Int) : Int := (cellv ns k + 6151 * (k + 1)) * 40692 % 2147483399
def pk (ns : List Int) (k m : Int) : Int := (drawn ns k * drawn ns k + drawn ns k / 31) % 2147483629 % m
theorem pk_range (ns : List Int) (k : Int) {m : Int} (h : 0 < m) : 0 ≤ pk ns k m ∧ pk ns k m < m := ⟨Int.emod_nonneg _ (by omega), Int.emod_lt_of_pos _ h⟩
def stdCell : List D → Sto → R D := fn 2 2 (mblock [(mcond (tst (bin opLt (mvar 1) (calls fLen (args [(mvar 0)])))) (mblock [(mret (bin opIx (mvar 0) (mvar 1)))]) (mblock [])),
  (mcond (tst (bin opEq (mvar 0) (tree (dlst [])))) (mblock [(mret (ret (.int 0)))]) (mblock [])),
  (mret (bin opAdd (bin opMul (bin opIx (mvar 0) (bin opMod (mvar 1) (calls fLen (args [(mvar 0)])))) (ret (.int 31))) (mvar 1)))])
def stdPick : List D → Sto → R D := fn 3 4 (mblock [(mset 3 (bin opMod (bin opMul (bin opAdd (callF stdCell (args [(mvar 0), (mvar 1)])) (bin opMul (ret (.int 6151)) (bin opAdd (mvar 1) (ret (.int 1))))) (ret (.int 40692))) (ret (.int 2147483399)))),
  (mret (bin opMod (bin opMod (bin opAdd (bin opMul (mvar 3) (mvar 3)) (bin opDiv (mvar 3) (ret (.int 31)))) (ret (.int 2147483629))) (mvar 2)))])
theorem atI_map (ns : List Int) (k : Int) (h0 : 0 ≤ k) (h : k < ns.length) : atI (ns.map D.int) k = some (.int (ns.getD k.toNat 0)) := by
  have hk : k.toNat < ns.length := by omega
  have e : atI (ns.map D.int) ((k.toNat : Nat) : Int) = some (.int (ns.getD k.toNat 0)) := atI_nat (by rw [List.getElem?_map, List.getElem?_eq_getElem hk, List.getD_eq_getElem?_getD, List.getElem?_eq_getElem hk]; rfl)
  rwa [Int.toNat_of_nonneg h0] at e
theorem cell_run {ns : List Int} {k : Int} {st : Sto} (h0 : 0 ≤ k) (hn : ns.length ≤ sizeLine) : stdCell [.scr ns, .int k] st = .ok (.int (cellv ns k)) st := by
  unfold stdCell
  rw [fn_run (by rfl)]
  by_cases h : k < ns.length
  · simp [opCmp, fLen, seqOf, rdOf, opIx, h, atI_map ns k h0 h, cellv]
    exact gcR_same (by simp)
  · by_cases h2 : ns = []
    · subst h2
      simp at h
      simp [opCmp, fLen, seqOf, rdOf, opEq, eqOf, flat2, top, D.ok, D.okL, D.ns, D.nsL, D.eq, D.eqL, lstOf, cellv, h]
      have h3 : ¬ k < 0 := by omega
      simp [h3]
      exact gcR_same (by simp)
    · have hl : 0 < ns.length := List.length_pos_iff.mpr h2
      have hl' : (0 : Int) < ns.length := by omega
      have okL : D.okL 59 (ns.map D.int) = true := by
        induction ns with
        | nil => simp [D.okL]
        | cons a r ih => 
          have : ∀ r : List Int, D.okL 59 (r.map D.int) = true := fun r => by induction r with
            | nil => simp [D.okL]
            | cons b t ih => simp [D.okL, D.ok, ih]
          exact this _
      have nsL : D.nsL (ns.map D.int) = true := by
        have : ∀ r : List Int, D.nsL (r.map D.int) = true := fun r => by induction r with
          | nil => simp [D.nsL]
          | cons b t ih => simp [D.nsL, D.ns, ih]
        exact this _
      have eqL : D.eqL (ns.map D.int) [] = false := by
        cases ns with
        | nil => exact absurd rfl h2
        | cons a r => simp [D.eqL]
      have hm := atI_map ns (k % ns.length) (Int.emod_nonneg _ (by omega)) (Int.emod_lt_of_pos _ hl')
      simp [opCmp, fLen, seqOf, rdOf, opEq, eqOf, flat2, top, D.ok, D.okL, D.ns, D.nsL, D.eq, D.eqL, lstOf, cellv, h, h2, okL, nsL, eqL, opIx, opMod, hl, hl', opMul, smallI, opAdd, hm]
      exact gcR_same (by simp)
theorem pick_run {ns : List Int} {k m : Int} {st : Sto} (h0 : 0 ≤ k) (hm : 0 < m) (hn : ns.length ≤ sizeLine) : stdPick [.scr ns, .int k, .int m] st = .ok (.int (pk ns k m)) st := by
  unfold stdPick
  rw [fn_run (by rfl)]
  have hd : 0 ≤ drawn ns k ∧ drawn ns k < 2147483399 := ⟨Int.emod_nonneg _ (by decide), Int.emod_lt_of_pos _ (by decide)⟩
  have e : (cellv ns k + 6151 * (k + 1)) * 40692 % 2147483399 = drawn ns k := rfl
  have sm : smallI (drawn ns k) = true := by unfold smallI; rw [Bool.and_eq_true, decide_eq_true_eq, decide_eq_true_eq]; omega
  simp [cell_run h0 hn, opAdd, opMul, smallI, opMod, e, opDiv]
  rw [if_pos (by omega)]
  simp [hm]
  exact gcR_same (by simp)
end Ly
/-! Operators at known values. -/
namespace Ly
open PySem PySem.Spec PyProof.Rows L2

section
variable (st : Sto) (i j : Int) (a b : Str) (xs ys : List D)
@[simp] theorem opAdd_int : opAdd (.int i) (.int j) st = some (.int (i + j), st) := rfl
@[simp] theorem opAdd_tup : opAdd (.tup xs) (.tup ys) st = if xs.length + ys.length ≤ sizeLine then some (.tup (xs ++ ys), st) else none := rfl
@[simp] theorem opAdd_str : opAdd (.str a) (.str b) st = if a.length + b.length ≤ sizeLine then some (.str (a ++ b), st) else none := rfl
@[simp] theorem opAdd_lst : opAdd (.lst xs) (.lst ys) st = if xs.length + ys.length ≤ sizeLine then some (.lst (xs ++ ys), st) else none := rfl
@[simp] theorem opSub_int : opSub (.int i) (.int j) st = some (.int (i - j), st) := rfl
@[simp] theorem opMul_int : opMul (.int i) (.int j) st = if (smallI i || smallI j) = true then some (.int (i * j), st) else none := rfl
@[simp] theorem opDiv_int : opDiv (.int i) (.int j) st = if 0 < j ∧ j < 1073741824 then some (.int (i / j), st) else none := rfl
@[simp] theorem opMod_int : opMod (.int i) (.int j) st = if 0 < j then some (.int (i % j), st) else none := rfl
@[simp] theorem opNeg_int : opNeg (.int i) st = some (.int (-i), st) := rfl
@[simp] theorem opCmp_int (p : Int → Int → Bool) : opCmp p (.int i) (.int j) st = some (.bl (p i j), st) := rfl
@[simp] theorem opIx_tup : opIx (.tup xs) (.int i) st = (atI xs i).map fun d => (d, st) := rfl
@[simp] theorem opIx_lst : opIx (.lst xs) (.int i) st = (atI xs i).map fun d => (d, st) := rfl
@[simp] theorem opSl_tup (lo hi : Option Int) : opSl lo hi (.tup xs) st = some (.tup (cut xs lo hi), st) := rfl
@[simp] theorem opSl_lst (lo hi : Option Int) : opSl lo hi (.lst xs) st = some (.lst (cut xs lo hi), st) := rfl
@[simp] theorem slN_lst (lo hi : Option Int) : slN lo hi (.lst xs) st = some (cut xs lo hi, st) := rfl
@[simp] theorem catN_lst : catN (.lst xs) (.lst ys) st = if xs.length + ys.length ≤ sizeLine then some (xs ++ ys, st) else none := rfl
@[simp] theorem fLen_tup : fLen [.tup xs] st = some (.int xs.length, st) := rfl
@[simp] theorem fLen_lst : fLen [.lst xs] st = some (.int xs.length, st) := rfl
@[simp] theorem fList_tup : fList [.tup xs] st = some (xs, st) := rfl
@[simp] theorem fList_lst : fList [.lst xs] st = some (xs, st) := rfl
@[simp] theorem fTuple_tup : fTuple [.tup xs] st = some (.tup xs, st) := rfl
@[simp] theorem fTuple_lst : fTuple [.lst xs] st = some (.tup xs, st) := rfl
@[simp] theorem isi_int (cs : List String) : opIsi cs (.int i) st = some (.bl (cs.any (isTy "int")), st) := rfl
@[simp] theorem isi_tup (cs : List String) : opIsi cs (.tup xs) st = some (.bl (cs.any (isTy "tuple")), st) := rfl
@[simp] theorem isi_lst (cs : List String) : opIsi cs (.lst xs) st = some (.bl (cs.any (isTy "list")), st) := rfl
@[simp] theorem isi_str (cs : List String) : opIsi cs (.str a) st = some (.bl (cs.any (isTy "str")), st) := rfl
@[simp] theorem isi_bl (cs : List String) (k : Bool) : opIsi cs (.bl k) st = some (.bl (cs.any (isTy "bool")), st) := rfl
@[simp] theorem isi_non (cs : List String) : opIsi cs .non st = some (.bl (cs.any (isTy "NoneType")), st) := rfl
@[simp] theorem src_tup : srcOf st (.tup xs) = some ⟨xs, fun _ => true⟩ := rfl
@[simp] theorem src_lst : srcOf st (.lst xs) = some ⟨xs, fun _ => true⟩ := rfl
@[simp] theorem fMin_lst (ns : List Int) : fMin [.lst (ns.map .int)] st = (minI ns).map fun i => (.int i, st) := by
  show (intsOf (ns.map D.int)).bind _ = _
  rw [intsOf_map]; rfl
@[simp] theorem fMax_lst (ns : List Int) : fMax [.lst (ns.map .int)] st = (maxI ns).map fun i => (.int i, st) := by
  show (intsOf (ns.map D.int)).bind _ = _
  rw [intsOf_map]; rfl
@[simp] theorem fMin_int : fMin [.int i, .int j] st = some (.int (if j < i then j else i), st) := rfl
@[simp] theorem fMax_int : fMax [.int i, .int j] st = some (.int (if j > i then j else i), st) := rfl
@[simp] theorem fSum_lst (ns : List Int) : fSumL [.lst (ns.map .int)] st = some (.int ns.sum, st) := by
  show (intsOf (ns.map D.int)).bind _ = _
  rw [intsOf_map]; rfl
@[simp] theorem fAll_lst (bs : List Bool) : fAll [.lst (bs.map .bl)] st = some (.bl (bs.all id), st) := by
  show (blsOf (bs.map D.bl)).map _ = _
  rw [blsOf_map]; rfl
@[simp] theorem fAny_lst (bs : List Bool) : fAny [.lst (bs.map .bl)] st = some (.bl (bs.any id), st) := by
  show (blsOf (bs.map D.bl)).map _ = _
  rw [blsOf_map]; rfl
@[simp] theorem eq_int : opEq (.int i) (.int j) st = some (.bl (decide (i = j)), st) := rfl
@[simp] theorem ne_int' : opNe (.int i) (.int j) st = some (.bl (!decide (i = j)), st) := rfl
@[simp] theorem eq_str' : opEq (.str a) (.str b) st = some (.bl (decide (a = b)), st) := rfl
@[simp] theorem ne_str' : opNe (.str a) (.str b) st = some (.bl (!decide (a = b)), st) := rfl
@[simp] theorem isN_run (x : D) : opIsN x .non st = some (.bl (decide (x = .non)), st) := rfl
@[simp] theorem notN_run (x : D) : opNotN x .non st = some (.bl (!decide (x = .non)), st) := rfl
@[simp] theorem ty_int_int : isTy "int" "int" = true := by decide
@[simp] theorem ty_int_bool : isTy "int" "bool" = false := by decide
@[simp] theorem ty_int_tuple : isTy "int" "tuple" = false := by decide
@[simp] theorem ty_int_list : isTy "int" "list" = false := by decide
@[simp] theorem ty_int_str : isTy "int" "str" = false := by decide
@[simp] theorem ty_tuple_tuple : isTy "tuple" "tuple" = true := by decide
@[simp] theorem ty_tuple_list : isTy "tuple" "list" = false := by decide
@[simp] theorem ty_tuple_int : isTy "tuple" "int" = false := by decide
@[simp] theorem ty_tuple_str : isTy "tuple" "str" = false := by decide
@[simp] theorem ty_tuple_bool : isTy "tuple" "bool" = false := by decide
@[simp] theorem ty_list_list : isTy "list" "list" = true := by decide
@[simp] theorem ty_list_tuple : isTy "list" "tuple" = false := by decide
@[simp] theorem ty_list_int : isTy "list" "int" = false := by decide
@[simp] theorem ty_list_str : isTy "list" "str" = false := by decide
@[simp] theorem ty_list_bool : isTy "list" "bool" = false := by decide
@[simp] theorem ty_str_str : isTy "str" "str" = true := by decide
@[simp] theorem ty_str_int : isTy "str" "int" = false := by decide
@[simp] theorem ty_str_tuple : isTy "str" "tuple" = false := by decide
@[simp] theorem ty_str_list : isTy "str" "list" = false := by decide
@[simp] theorem ty_str_bool : isTy "str" "bool" = false := by decide
@[simp] theorem ty_bool_bool : isTy "bool" "bool" = true := by decide
@[simp] theorem ty_bool_int : isTy "bool" "int" = true := by decide
@[simp] theorem ty_bool_tuple : isTy "bool" "tuple" = false := by decide
@[simp] theorem ty_bool_list : isTy "bool" "list" = false := by decide
@[simp] theorem ty_bool_str : isTy "bool" "str" = false := by decide
@[simp] theorem ty_none (c : String) (h : c ≠ "NoneType") : isTy "NoneType" c = false := by
  unfold isTy
  have h1 : ("NoneType" == c) = false := by simpa using fun e => h e.symm
  rw [h1]; rfl
end
/-! a place -/
section
variable {st : Sto} {p : Nat} {xs : List D}
theorem opIx_ref (h : st[p]? = some (.lst xs)) (i : Int) : opIx (.ref p) (.int i) st = (atI xs i).map fun d => (d, st) := by
  show ((lstOf st (.ref p)).bind _) = _
  rw [show lstOf st (.ref p) = some xs by unfold lstOf; dsimp only; rw [h]]
  rfl
theorem lstOf_ref (h : st[p]? = some (.lst xs)) : lstOf st (.ref p) = some xs := by unfold lstOf; dsimp only; rw [h]
theorem isOf_ref (h : st[p]? = some (.lst xs)) : isOf "list" st (.ref p) = true := by
  unfold isOf rdOf; rw [if_pos rfl]; simp only; rw [lstOf_ref h]; rfl
theorem append_ref (h : st[p]? = some (.lst xs)) (hz : xs.length < sizeLine) (y : D) : fAppend (.ref p) [y] st = some (.non, st.set p (.lst (xs ++ [y]))) := by
  unfold fAppend; dsimp only; rw [h]; dsimp only; rw [if_pos hz]
theorem extend_ref (h : st[p]? = some (.lst xs)) {zs : List D} (hz : xs.length + zs.length ≤ sizeLine) : fExtend (.ref p) [.lst zs] st = some (.non, st.set p (.lst (xs ++ zs))) := by
  unfold fExtend; dsimp only; rw [h]; show (if xs.length + zs.length ≤ sizeLine then _ else _) = _; rw [if_pos hz]
end
/-! == of data -/
mutual
/-- a datum without truths, places: == is sameness there -/
def D.pl : D → Bool
  | .non => true
  | .int _ => true
  | .str _ => true
  | .tup xs => D.plL xs
  | .lst xs => D.plL xs
  | _ => false
def D.plL : List D → Bool
  | [] => true
  | x :: xs => D.pl x && D.plL xs
end
mutual
theorem pl_eq : ∀ {x y : D}, D.pl x = true → D.pl y = true → D.eq x y = decide (x = y)
  | .non, y, _, hy => by cases y <;> simp [D.eq] <;> simp [D.pl] at hy
  | .int i, y, _, hy => by
    cases y <;> simp [D.eq] <;> try simp [D.pl] at hy
    rename_i j
    rw [Bool.eq_iff_iff]; simp
  | .str s, y, _, hy => by
    cases y <;> simp [D.eq] <;> try simp [D.pl] at hy
    rw [Bool.eq_iff_iff]; simp
  | .tup xs, y, hx, hy => by
    cases y <;> simp [D.eq] <;> simp [D.pl] at hx hy
    rename_i ys
    exact pl_eqL hx hy
  | .lst xs, y, hx, hy => by
    cases y <;> simp [D.eq] <;> simp [D.pl] at hx hy
    exact pl_eqL hx hy
  | .bl _, _, hx, _ => by simp [D.pl] at hx
  | .dic _ _, _, hx, _ => by simp [D.pl] at hx
  | .ref _, _, hx, _ => by simp [D.pl] at hx
  | .exc _, _, hx, _ => by simp [D.pl] at hx
  | .scr _, _, hx, _ => by simp [D.pl] at hx
  | .thk, _, hx, _ => by simp [D.pl] at hx
  | .glo _, _, hx, _ => by simp [D.pl] at hx
theorem pl_eqL : ∀ {x y : List D}, D.plL x = true → D.plL y = true → D.eqL x y = decide (x = y)
  | [], [], _, _ => by simp [D.eqL]
  | [], _ :: _, _, _ => by simp [D.eqL]
  | _ :: _, [], _, _ => by simp [D.eqL]
  | x :: xs, y :: ys, hx, hy => by
    simp [D.plL] at hx hy
    simp [D.eqL, pl_eq hx.1 hy.1, pl_eqL hx.2 hy.2]
end
mutual
theorem pl_ns : ∀ {x : D}, D.pl x = true → D.ns x = true
  | .non, _ => by simp [D.ns]
  | .int i, _ => by simp [D.ns]
  | .str s, _ => by simp [D.ns]
  | .tup xs, h => by simp [D.pl] at h; simp [D.ns, pl_nsL h]
  | .lst xs, h => by simp [D.pl] at h; simp [D.ns, pl_nsL h]
  | .bl _, hx => by simp [D.pl] at hx
  | .dic _ _, hx => by simp [D.pl] at hx
  | .ref _, hx => by simp [D.pl] at hx
  | .exc _, hx => by simp [D.pl] at hx
  | .scr _, hx => by simp [D.pl] at hx
  | .thk, hx => by simp [D.pl] at hx
  | .glo _, hx => by simp [D.pl] at hx
theorem pl_nsL : ∀ {x : List D}, D.plL x = true → D.nsL x = true
  | [], _ => by simp [D.nsL]
  | x :: xs, h => by simp [D.plL] at h; simp [D.nsL, pl_ns h.1, pl_nsL h.2]
end
theorem okL_all (n : Nat) : ∀ xs : List D, (∀ x ∈ xs, D.ok n x = true) → D.okL n xs = true
  | [], _ => by simp [D.okL]
  | x :: xs, h => by simp [D.okL, h x List.mem_cons_self, okL_all n xs fun y hy => h y (List.mem_cons_of_mem _ hy)]
theorem plL_all : ∀ xs : List D, (∀ x ∈ xs, D.pl x = true) → D.plL xs = true
  | [], _ => by simp [D.plL]
  | x :: xs, h => by simp [D.plL, h x List.mem_cons_self, plL_all xs fun y hy => h y (List.mem_cons_of_mem _ hy)]
/-- a datum that == compares plainly -/
def D.good (d : D) : Prop := D.ok 60 d = true ∧ D.pl d = true
theorem eqOf_good {st : Sto} {x y : D} (hx : (top st x).good) (hy : (top st y).good) (hf : flat2 x y = none) : eqOf st x y = some (decide (top st x = top st y)) := by
  unfold eqOf
  rw [hf]
  dsimp only
  rw [if_pos (by simp [hx.1, hy.1, pl_ns hx.2, pl_ns hy.2]), pl_eq hx.2 hy.2]
theorem top_lst (st : Sto) (xs : List D) : top st (.lst xs) = .lst xs := rfl
theorem top_tup (st : Sto) (xs : List D) : top st (.tup xs) = .tup xs := rfl
theorem top_ref {st : Sto} {p : Nat} {xs : List D} (h : st[p]? = some (.lst xs)) : top st (.ref p) = .lst xs := by unfold top rdOf; simp only; rw [lstOf_ref h]
theorem eq_lst {st : Sto} {xs ys : List D} (hx : (D.lst xs).good) (hy : (D.lst ys).good) : opEq (.lst xs) (.lst ys) st = some (.bl (decide (xs = ys)), st) := by
  unfold opEq
  rw [eqOf_good (st := st) (x := .lst xs) (y := .lst ys) hx hy rfl]
  simp [top_lst]
theorem ne_lst {st : Sto} {xs ys : List D} (hx : (D.lst xs).good) (hy : (D.lst ys).good) : opNe (.lst xs) (.lst ys) st = some (.bl (!decide (xs = ys)), st) := by
  unfold opNe
  rw [eqOf_good (st := st) (x := .lst xs) (y := .lst ys) hx hy rfl]
  simp [top_lst]
theorem eq_tup {st : Sto} {xs ys : List D} (hx : (D.tup xs).good) (hy : (D.tup ys).good) : opEq (.tup xs) (.tup ys) st = some (.bl (decide (xs = ys)), st) := by
  unfold opEq
  rw [eqOf_good (st := st) (x := .tup xs) (y := .tup ys) hx hy rfl]
  simp [top_tup]
theorem ne_tup {st : Sto} {xs ys : List D} (hx : (D.tup xs).good) (hy : (D.tup ys).good) : opNe (.tup xs) (.tup ys) st = some (.bl (!decide (xs = ys)), st) := by
  unfold opNe
  rw [eqOf_good (st := st) (x := .tup xs) (y := .tup ys) hx hy rfl]
  simp [top_tup]
theorem eq_ref {st : Sto} {p : Nat} {xs ys : List D} (h : st[p]? = some (.lst xs)) (hx : (D.lst xs).good) (hy : (D.lst ys).good) : opEq (.ref p) (.lst ys) st = some (.bl (decide (xs = ys)), st) := by
  unfold opEq
  rw [eqOf_good (st := st) (x := .ref p) (y := .lst ys) (by rw [top_ref h]; exact hx) hy rfl, top_ref h]
  simp [top_lst]
theorem ne_ref {st : Sto} {p : Nat} {xs ys : List D} (h : st[p]? = some (.lst xs)) (hx : (D.lst xs).good) (hy : (D.lst ys).good) : opNe (.ref p) (.lst ys) st = some (.bl (!decide (xs = ys)), st) := by
  unfold opNe
  rw [eqOf_good (st := st) (x := .ref p) (y := .lst ys) (by rw [top_ref h]; exact hx) hy rfl, top_ref h]
  simp [top_lst]
theorem good_nilL : (D.lst []).good := ⟨by decide, by decide⟩
theorem good_nilT : (D.tup []).good := ⟨by decide, by decide⟩
/-- lists of ints; of tuples of two ints -/
theorem good_ints (ns : List Int) : (D.lst (ns.map D.int)).good := by
  refine ⟨?_, ?_⟩
  · show (decide (0 < 60) && D.okL 59 _) = true
    rw [okL_all 59 _ (fun x hx => by obtain ⟨a, _, rfl⟩ := List.mem_map.mp hx; simp [D.ok])]; rfl
  · show D.plL _ = true
    exact plL_all _ fun x hx => by obtain ⟨a, _, rfl⟩ := List.mem_map.mp hx; simp [D.pl]
theorem good_intsT (ns : List Int) : (D.tup (ns.map D.int)).good := by
  refine ⟨?_, ?_⟩
  · show (decide (0 < 60) && D.okL 59 _) = true
    rw [okL_all 59 _ (fun x hx => by obtain ⟨a, _, rfl⟩ := List.mem_map.mp hx; simp [D.ok])]; rfl
  · show D.plL _ = true
    exact plL_all _ fun x hx => by obtain ⟨a, _, rfl⟩ := List.mem_map.mp hx; simp [D.pl]
def pr (p : Int × Int) : D := .tup [.int p.1, .int p.2]
theorem good_pairs (ns : List (Int × Int)) : (D.lst (ns.map pr)).good := by
  refine ⟨?_, ?_⟩
  · show (decide (0 < 60) && D.okL 59 _) = true
    rw [okL_all 59 _ (fun x hx => by obtain ⟨a, _, rfl⟩ := List.mem_map.mp hx; simp [D.ok, D.okL, pr])]; rfl
  · show D.plL _ = true
    exact plL_all _ fun x hx => by obtain ⟨a, _, rfl⟩ := List.mem_map.mp hx; simp [D.pl, D.plL, pr]
theorem map_int_inj {a b : List Int} : a.map D.int = b.map D.int ↔ a = b := by
  constructor
  · intro h
    have := congrArg (List.map fun d => match d with | D.int i => i | _ => 0) h
    simpa [List.map_map, Function.comp_def] using this
  · intro h; rw [h]
theorem map_pr_inj {a b : List (Int × Int)} : a.map pr = b.map pr ↔ a = b := by
  constructor
  · intro h
    have := congrArg (List.map fun d => match d with | D.tup [.int i, .int j] => (i, j) | _ => (0, 0)) h
    simpa [List.map_map, Function.comp_def, pr] using this
  · intro h; rw [h]
/-! cuts -/
theorem cut_from {α : Type} (xs : List α) (n : Nat) : cut xs (some (n : Int)) none = xs.drop n := by
  unfold cut
  rw [HT.sIx_nat, HT.sIx_none]
  by_cases h : n ≤ xs.length
  · rw [Nat.min_eq_left h]
    exact List.take_of_length_le (by rw [List.length_drop]; omega)
  · rw [Nat.min_eq_right (by omega), List.drop_eq_nil_of_le (Nat.le_refl _), List.drop_eq_nil_of_le (by omega), List.take_nil]
theorem cut_to {α : Type} (xs : List α) (n : Nat) : cut xs none (some (n : Int)) = xs.take n := by
  unfold cut
  rw [HT.sIx_nat, HT.sIx_none, List.drop_zero, Nat.sub_zero]
  by_cases h : n ≤ xs.length
  · rw [Nat.min_eq_left h]
  · rw [Nat.min_eq_right (by omega), List.take_length, List.take_of_length_le (by omega)]
theorem cut_map {α β : Type} (f : α → β) (xs : List α) (lo hi : Option Int) : cut (xs.map f) lo hi = (cut xs lo hi).map f := by
  unfold cut
  rw [List.length_map, List.map_take, List.map_drop]
theorem sz (n : Nat) (h : n ≤ 1000000) : n ≤ sizeLine := Nat.le_trans h (by decide)
theorem sz_lt (n : Nat) (h : n ≤ 1000000) : n < sizeLine := Nat.lt_of_le_of_lt h (by decide)
end Ly
/-! Loops, ends. -/
namespace Ly
open PySem PySem.Spec PyProof.Rows L2

/-- a loop whose rounds all go on -/
theorem forX_inv {p : Pat} {body : MS} {ok : Sto → Bool} (Inv : Nat → Ev → Sto → Prop) (hok : ∀ k e st, Inv k e st → ok st = true) : ∀ (l : List D) (k : Nat) (e : Ev) (st : Sto),
    Inv k e st →
    (∀ j (h : j < l.length) (e : Ev) (st : Sto), Inv (k + j) e st → ∃ e1, asg p l[j] e = some e1 ∧ ∃ e2 st2, (body e1 st = .nx e2 st2 ∨ body e1 st = .ct e2 st2) ∧ Inv (k + j + 1) e2 st2) →
    ∃ e2 st2, forX ok p body l e st = .nx e2 st2 ∧ Inv (k + l.length) e2 st2
  | [], k, e, st, hI, _ => ⟨e, st, by unfold forX; rw [if_pos (hok k e st hI)], hI⟩
  | x :: xs, k, e, st, hI, hs => by
    obtain ⟨e1, ha, e2, st2, hb, hI2⟩ := hs 0 (by simp) e st hI
    obtain ⟨e3, st3, h3, hI3⟩ := forX_inv Inv hok xs (k + 1) e2 st2 hI2 fun j h e st hI => by
      have := hs (j + 1) (by simp; omega) e st (by rw [show k + (j + 1) = k + 1 + j by omega]; exact hI)
      rw [show k + (j + 1) + 1 = k + 1 + j + 1 by omega] at this
      simpa using this
    refine ⟨e3, st3, ?_, by rw [List.length_cons, show k + (xs.length + 1) = k + 1 + xs.length by omega]; exact hI3⟩
    unfold forX
    rw [if_pos (hok k e st hI)]
    simp only [List.getElem_cons_zero] at ha
    rw [ha]
    dsimp only
    rcases hb with hb | hb <;> rw [hb] <;> exact h3
/-- the same, of a list that is a map -/
theorem forX_map {α : Type} {p : Pat} {body : MS} (g : α → D) (l : List α) (Inv : Nat → Ev → Sto → Prop) {e : Ev} {st : Sto} (h0 : Inv 0 e st)
    (hs : ∀ j (h : j < l.length) (e : Ev) (st : Sto), Inv j e st → ∃ e1, asg p (g l[j]) e = some e1 ∧ ∃ e2 st2, (body e1 st = .nx e2 st2 ∨ body e1 st = .ct e2 st2) ∧ Inv (j + 1) e2 st2) :
    ∃ e2 st2, forX (fun _ => true) p body (l.map g) e st = .nx e2 st2 ∧ Inv l.length e2 st2 := by
  have := forX_inv (p := p) (body := body) (ok := fun _ => true) Inv (fun _ _ _ _ => rfl) (l.map g) 0 e st h0 fun j h e st hI => by
    rw [List.length_map] at h
    simpa using hs j h e st (by simpa using hI)
  simpa using this
@[simp] theorem asg_nm (i : Nat) (d : D) (e : Ev) : asg (.nm i) d e = some (e.set i (some d)) := rfl
theorem asg_tp (is : List Nat) (ds : List D) (e : Ev) (h : ds.length = is.length) : asg (.tp is) (.tup ds) e = some (setAll e is ds) := by show (if ds.length = is.length then _ else _) = _; rw [if_pos h]
@[simp] theorem asg_tp2 (i j : Nat) (a b : D) (e : Ev) : asg (.tp [i, j]) (.tup [a, b]) e = some ((e.set i (some a)).set j (some b)) := rfl
@[simp] theorem asg_pr (i j : Nat) (q : Int × Int) (e : Ev) : asg (.tp [i, j]) (pr q) e = some ((e.set i (some (.int q.1))).set j (some (.int q.2))) := rfl
theorem rng_map (lo : Int) (n : Nat) : rng lo n = (List.range n).map fun (i : Nat) => D.int (lo + (i : Int)) := rfl
theorem pairs_map {α β : Type} (f : α → D) (g : β → D) (xs : List α) (ys : List β) : pairs (xs.map f) (ys.map g) = (xs.zip ys).map fun p => D.tup [f p.1, g p.2] := by
  unfold pairs
  rw [List.zip_map, List.map_map]
  rfl
def range1D (ds : List D) (st1 : Sto) : R Src := match ds with
  | [.int j] => if small62 j = true ∧ j.toNat ≤ sizeLine then .ok ⟨rng 0 j.toNat, fun _ => true⟩ st1 else .bad
  | _ => .bad
def range2D (ds : List D) (st1 : Sto) : R Src := match ds with
  | [.int i, .int j] => if small62 i = true ∧ small62 j = true ∧ (j - i).toNat ≤ sizeLine then .ok ⟨rng i (j - i).toNat, fun _ => true⟩ st1 else .bad
  | _ => .bad
@[simp] theorem range1_run (as : M (List D)) (e : Ev) (st : Sto) : range1 as e st = (as e st).nxt range1D := by
  unfold range1
  rw [bnd_run]
  congr
  funext ds st1
  rw [lift_run]
  unfold range1D
  match ds with
  | [] => rfl
  | [d] => cases d with
    | int j => dsimp only; split <;> rfl
    | _ => rfl
  | x :: y :: r => cases x <;> rfl
@[simp] theorem range2_run (as : M (List D)) (e : Ev) (st : Sto) : range2 as e st = (as e st).nxt range2D := by
  unfold range2
  rw [bnd_run]
  congr
  funext ds st1
  rw [lift_run]
  unfold range2D
  match ds with
  | [] => rfl
  | [d] => cases d <;> rfl
  | [x, y] => cases x with
    | int i => cases y with
      | int j => dsimp only; split <;> rfl
      | _ => rfl
    | _ => rfl
  | x :: y :: z :: r => cases x <;> first | rfl | (cases y <;> rfl)
@[simp] theorem zipM_run (as : M (List D)) (e : Ev) (st : Sto) : zipM as e st = (as e st).nxt fun ds st1 => match ds with
  | [x, y] => if isTup x = isTup y then (match srcOf st1 x, srcOf st1 y with
    | some s, some t => .ok ⟨pairs s.xs t.xs, fun st => s.ok st && t.ok st⟩ st1
    | _, _ => .bad) else .bad
  | _ => .bad := by
  unfold zipM
  rw [bnd_run]
  congr
  funext ds st1
  rw [lift_run]
  match ds with
  | [x, y] =>
    dsimp only
    split
    · cases srcOf st1 x <;> cases srcOf st1 y <;> rfl
    · rfl
  | [] => rfl
  | [_] => rfl
  | _ :: _ :: _ :: _ => rfl
@[simp] theorem fAll_f {α : Type} (f : α → Bool) (l : List α) (st : Sto) : fAll [.lst (l.map fun a => .bl (f a))] st = some (.bl (l.all f), st) := by
  have := fAll_lst st (l.map f)
  rw [List.map_map, List.all_map] at this
  exact this
@[simp] theorem fAny_f {α : Type} (f : α → Bool) (l : List α) (st : Sto) : fAny [.lst (l.map fun a => .bl (f a))] st = some (.bl (l.any f), st) := by
  have := fAny_lst st (l.map f)
  rw [List.map_map, List.any_map] at this
  exact this
@[simp] theorem fSum_f {α : Type} (f : α → Int) (l : List α) (st : Sto) : fSumL [.lst (l.map fun a => .int (f a))] st = some (.int (l.map f).sum, st) := by
  have := fSum_lst st (l.map f)
  rw [List.map_map] at this
  exact this
@[simp] theorem fMin_f {α : Type} (f : α → Int) (l : List α) (st : Sto) : fMin [.lst (l.map fun a => .int (f a))] st = (minI (l.map f)).map fun i => (.int i, st) := by
  have := fMin_lst st (l.map f)
  rw [List.map_map] at this
  exact this
@[simp] theorem fMax_f {α : Type} (f : α → Int) (l : List α) (st : Sto) : fMax [.lst (l.map fun a => .int (f a))] st = (maxI (l.map f)).map fun i => (.int i, st) := by
  have := fMax_lst st (l.map f)
  rw [List.map_map] at this
  exact this
theorem clL_ints (n : Nat) (xs : List Int) : D.clL n (xs.map D.int) = true := clL_map n _ (fun _ => by simp) xs
theorem clL_prs (n : Nat) (xs : List (Int × Int)) : D.clL n (xs.map pr) = true := clL_map n _ (fun _ => by simp [pr]) xs
theorem ixN_last (n : Nat) : ixN (n + 1) (-1) = some n := by
  unfold ixN
  rw [if_neg (by decide), if_pos (by omega)]
  congr 1
  omega
theorem set_last {α : Type} (xs : List α) (a b : α) : (xs ++ [a]).set xs.length b = xs ++ [b] := by
  induction xs with
  | nil => rfl
  | cons x r ih => simp [ih]
@[simp] theorem sz1 : 1 ≤ sizeLine := sz 1 (by decide)
@[simp] theorem sz2 : 2 ≤ sizeLine := sz 2 (by decide)
@[simp] theorem sz3 : 3 ≤ sizeLine := sz 3 (by decide)
@[simp] theorem sz4 : 4 ≤ sizeLine := sz 4 (by decide)
@[simp] theorem sz5 : 5 ≤ sizeLine := sz 5 (by decide)
@[simp] theorem sz6 : 6 ≤ sizeLine := sz 6 (by decide)
@[simp] theorem sz7 : 7 ≤ sizeLine := sz 7 (by decide)
@[simp] theorem sz8 : 8 ≤ sizeLine := sz 8 (by decide)
@[simp] theorem sz9 : 9 ≤ sizeLine := sz 9 (by decide)
@[simp] theorem sz10 : 10 ≤ sizeLine := sz 10 (by decide)
@[simp] theorem sz11 : 11 ≤ sizeLine := sz 11 (by decide)
@[simp] theorem sz12 : 12 ≤ sizeLine := sz 12 (by decide)
@[simp] theorem sz16 : 16 ≤ sizeLine := sz 16 (by decide)
@[simp] theorem szI1 : (1 : Int) ≤ (sizeLine : Nat) := Int.ofNat_le.mpr (sz 1 (by decide))
@[simp] theorem szI2 : (2 : Int) ≤ (sizeLine : Nat) := Int.ofNat_le.mpr (sz 2 (by decide))
@[simp] theorem szI3 : (3 : Int) ≤ (sizeLine : Nat) := Int.ofNat_le.mpr (sz 3 (by decide))
@[simp] theorem szI4 : (4 : Int) ≤ (sizeLine : Nat) := Int.ofNat_le.mpr (sz 4 (by decide))
@[simp] theorem szI5 : (5 : Int) ≤ (sizeLine : Nat) := Int.ofNat_le.mpr (sz 5 (by decide))
@[simp] theorem szI6 : (6 : Int) ≤ (sizeLine : Nat) := Int.ofNat_le.mpr (sz 6 (by decide))
@[simp] theorem szI7 : (7 : Int) ≤ (sizeLine : Nat) := Int.ofNat_le.mpr (sz 7 (by decide))
@[simp] theorem szI8 : (8 : Int) ≤ (sizeLine : Nat) := Int.ofNat_le.mpr (sz 8 (by decide))
@[simp] theorem szI9 : (9 : Int) ≤ (sizeLine : Nat) := Int.ofNat_le.mpr (sz 9 (by decide))
@[simp] theorem szI10 : (10 : Int) ≤ (sizeLine : Nat) := Int.ofNat_le.mpr (sz 10 (by decide))
@[simp] theorem szI11 : (11 : Int) ≤ (sizeLine : Nat) := Int.ofNat_le.mpr (sz 11 (by decide))
@[simp] theorem szI12 : (12 : Int) ≤ (sizeLine : Nat) := Int.ofNat_le.mpr (sz 12 (by decide))
@[simp] theorem szI16 : (16 : Int) ≤ (sizeLine : Nat) := Int.ofNat_le.mpr (sz 16 (by decide))
theorem szI {i : Int} (h : i ≤ 1000000) : i ≤ (sizeLine : Nat) := Int.le_trans h (Int.ofNat_le.mpr (sz 1000000 (by decide)))
@[simp] theorem atI_zero {α : Type} (a : α) (l : List α) : atI (a :: l) 0 = some a := atI_nat (j := 0) rfl
@[simp] theorem atI_one {α : Type} (a b : α) (l : List α) : atI (a :: b :: l) 1 = some b := atI_nat (j := 1) rfl
@[simp] theorem atI_two {α : Type} (a b c : α) (l : List α) : atI (a :: b :: c :: l) 2 = some c := atI_nat (j := 2) rfl
theorem sm62 {i : Int} (h1 : -4611686018427387904 ≤ i) (h2 : i < 4611686018427387904) : small62 i = true := by
  unfold small62
  rw [Bool.and_eq_true, decide_eq_true_eq, decide_eq_true_eq]
  exact ⟨h1, h2⟩
theorem range1_int {i : Int} (h0 : -1000000 ≤ i) (h : i ≤ 1000000) (st : Sto) : range1D [.int i] st = .ok ⟨rng 0 i.toNat, fun _ => true⟩ st := by
  unfold range1D
  dsimp only
  rw [if_pos ⟨sm62 (by omega) (by omega), sz _ (by omega)⟩]
theorem range1_nat {n : Nat} (h : n ≤ 1000000) (st : Sto) : range1D [.int (n : Int)] st = .ok ⟨rng 0 n, fun _ => true⟩ st := range1_int (by omega) (by omega) st
theorem range2_int {i j : Int} (h0 : -1000000 ≤ i) (h1 : i ≤ 1000000) (h2 : -1000000 ≤ j) (h3 : j ≤ 1000000) (h : j - i ≤ 1000000) (st : Sto) : range2D [.int i, .int j] st = .ok ⟨rng i (j - i).toNat, fun _ => true⟩ st := by
  unfold range2D
  dsimp only
  rw [if_pos ⟨sm62 (by omega) (by omega), sm62 (by omega) (by omega), sz _ (by omega)⟩]
theorem scr_ok {n : Nat} (h : n ≤ 63) : n ≤ sizeLine := sz n (by omega)
end Ly
/-! Rules that came later. -/
namespace Ly
open PySem PySem.Spec PyProof.Rows L2
/-! is, is not of truths -/
def opIsB (x y : D) (st : Sto) : Option (D × Sto) := match x, y with
  | .bl a, .bl b => some (.bl (decide (a = b)), st)
  | _, _ => none
def opNotB (x y : D) (st : Sto) : Option (D × Sto) := match x, y with
  | .bl a, .bl b => some (.bl (!decide (a = b)), st)
  | _, _ => none
theorem opIsB_ok {C : Ctx} : BinOk C opIsB rIsB := fun B st x y v u Q d st' R rx ry e k => by
  unfold opIsB at e
  split at e
  · cases e
    exact ⟨_, _, rx.bl_inv, ry.bl_inv, k _ B (Ext.refl _ _) R rep_bl⟩
  · cases e
theorem opNotB_ok {C : Ctx} : BinOk C opNotB rNotB := fun B st x y v u Q d st' R rx ry e k => by
  unfold opNotB at e
  split at e
  · cases e
    exact ⟨_, _, rx.bl_inv, ry.bl_inv, k _ B (Ext.refl _ _) R rep_bl⟩
  · cases e
section
variable {X : Cx} {C : Ctx} {W : WX} {a b : Expr} {ca cb : M D} {pos : Pos}
theorem e_isB (ha : PE X a (te C W ca)) (hb : PE X b (te C W cb)) : PE X (.Compare a [.Is] [b] pos) (te C W (bin opIsB ca cb)) := e_cmp op_isBl opIsB_ok ha hb (nomark _)
theorem e_notB (ha : PE X a (te C W ca)) (hb : PE X b (te C W cb)) : PE X (.Compare a [.IsNot] [b] pos) (te C W (bin opNotB ca cb)) := e_cmp op_notBl opNotB_ok ha hb (nomark _)
theorem t_isB (ha : PE X a (te C W ca)) (hb : PE X b (te C W cb)) : PT X (.Compare a [.Is] [b] pos) (tb C W (tst (bin opIsB ca cb))) := t_cmpG op_isBl opIsB_ok ha hb (nomark _)
theorem t_notB (ha : PE X a (te C W ca)) (hb : PE X b (te C W cb)) : PT X (.Compare a [.IsNot] [b] pos) (tb C W (tst (bin opNotB ca cb))) := t_cmpG op_notBl opNotB_ok ha hb (nomark _)
end
@[simp] theorem isB_run (a b : Bool) (st : Sto) : opIsB (.bl a) (.bl b) st = some (.bl (decide (a = b)), st) := rfl
@[simp] theorem notB_run (a b : Bool) (st : Sto) : opNotB (.bl a) (.bl b) st = some (.bl (!decide (a = b)), st) := rfl
section
variable {st : Sto} {p : Nat}
theorem rdOf_ref {xs : List D} (h : st[p]? = some (.lst xs)) : rdOf st (.ref p) = some xs := by unfold rdOf; exact lstOf_ref h
theorem min_ref {ns : List Int} (h : st[p]? = some (.lst (ns.map .int))) : fMin [.ref p] st = (minI ns).map fun i => (.int i, st) := by
  show (rdOf st (.ref p)).bind _ = _
  rw [rdOf_ref h, Option.bind_some, intsOf_map]; rfl
theorem max_ref {ns : List Int} (h : st[p]? = some (.lst (ns.map .int))) : fMax [.ref p] st = (maxI ns).map fun i => (.int i, st) := by
  show (rdOf st (.ref p)).bind _ = _
  rw [rdOf_ref h, Option.bind_some, intsOf_map]; rfl
theorem len_ref {xs : List D} (h : st[p]? = some (.lst xs)) : fLen [.ref p] st = some (.int xs.length, st) := by
  show (seqOf st (.ref p)).map _ = _
  rw [show seqOf st (.ref p) = some xs from rdOf_ref h]; rfl
theorem tuple_ref {xs : List D} (h : st[p]? = some (.lst xs)) : fTuple [.ref p] st = some (.tup xs, st) := by
  show (seqOf st (.ref p)).map _ = _
  rw [show seqOf st (.ref p) = some xs from rdOf_ref h]; rfl
theorem flat_ints (ns : List Int) : (ns.map D.int).all D.flat = true := List.all_eq_true.mpr fun x hx => by
  obtain ⟨a, _, rfl⟩ := List.mem_map.mp hx; rfl
theorem find_ints (ns : List Int) (v : Int) : (ns.map D.int).findIdx? (fun z => D.eq z (.int v)) = ns.findIdx? fun z => decide (z = v) := by
  rw [List.findIdx?_map]
  rfl
theorem index_of {x : D} {ns : List Int} (h : rdOf st x = some (ns.map .int)) (v : Int) : fIndex x [.int v] st = (ns.findIdx? fun z => decide (z = v)).map fun (j : Nat) => (.int (j : Int), st) := by
  unfold fIndex
  dsimp only
  rw [h, Option.bind_some, flat_ints, find_ints]
  rfl
theorem isOf_lst (xs : List D) : isOf "list" st (.lst xs) = true := by
  unfold isOf; rw [if_pos rfl] <;> rfl
end
section
variable {st : Sto} {a b c : Cell}
theorem get2a : (st ++ [a, b])[st.length]? = some a := by simp
theorem get2b : (st ++ [a, b])[st.length + 1]? = some b := by simp
theorem set1 : (st ++ [a]).set st.length c = st ++ [c] := set_last _ _ _
theorem set2a : (st ++ [a, b]).set st.length c = st ++ [c, b] := by
  rw [List.set_append_right _ _ (Nat.le_refl _), Nat.sub_self]; rfl
theorem set2b : (st ++ [a, b]).set (st.length + 1) c = st ++ [a, c] := by
  rw [List.set_append_right _ _ (by omega), show st.length + 1 - st.length = 1 by omega]; rfl
end
def tr (q : Int × Int × Int) : D := .tup [.int q.1, .int q.2.1, .int q.2.2]
theorem good_trs (ns : List (Int × Int × Int)) : (D.lst (ns.map tr)).good := by
  refine ⟨?_, ?_⟩
  · show (decide (0 < 60) && D.okL 59 _) = true
    rw [okL_all 59 _ (fun x hx => by obtain ⟨a, _, rfl⟩ := List.mem_map.mp hx; simp [D.ok, D.okL, tr])]; rfl
  · show D.plL _ = true
    exact plL_all _ fun x hx => by obtain ⟨a, _, rfl⟩ := List.mem_map.mp hx; simp [D.pl, D.plL, tr]
theorem map_tr_inj {a b : List (Int × Int × Int)} : a.map tr = b.map tr ↔ a = b := by
  constructor
  · intro h
    have := congrArg (List.map fun d => match d with | D.tup [.int i, .int j, .int k] => (i, j, k) | _ => (0, 0, 0)) h
    simpa [List.map_map, Function.comp_def, tr] using this
  · intro h; rw [h]
theorem clL_trs (n : Nat) (xs : List (Int × Int × Int)) : D.clL n (xs.map tr) = true := clL_map n _ (fun _ => by simp [tr]) xs
@[simp] theorem asg_tr (i j k : Nat) (q : Int × Int × Int) (e : Ev) : asg (.tp [i, j, k]) (tr q) e = some (((e.set i (some (.int q.1))).set j (some (.int q.2.1))).set k (some (.int q.2.2))) := rfl
@[simp] theorem asg_tp3 (i j k : Nat) (a b c : D) (e : Ev) : asg (.tp [i, j, k]) (.tup [a, b, c]) e = some (((e.set i (some a)).set j (some b)).set k (some c)) := rfl
theorem atI_map' {α : Type} (f : α → D) (xs : List α) (k : Nat) (x : α) (h : xs[k]? = some x) : atI (xs.map f) (k : Int) = some (f x) := atI_nat (by rw [List.getElem?_map, h]; rfl)
theorem ixN_at {n j : Nat} (hj : j < n) : ixN n (j : Int) = some j := by
  unfold ixN
  rw [if_pos (by omega), if_pos (by omega)]
  simp
theorem flat_rep {α : Type} (a : α) : ∀ n : Nat, (List.replicate n [a]).flatten = List.replicate n a
  | 0 => rfl
  | n + 1 => by rw [List.replicate_succ, List.flatten_cons, flat_rep a n, List.replicate_succ]; rfl
theorem rep_one (i : Int) {n : Nat} (h : n ≤ 1000000) (st : Sto) : repN2 (.lst [.int i]) (.int (n : Int)) st = some ((List.replicate n i).map .int, st) := by
  show repD st (.lst [.int i]) (n : Int) = _
  unfold repD
  rw [show lstOf st (.lst [.int i]) = some [.int i] from rfl]
  dsimp only
  rw [if_pos ⟨by omega, by omega, sz _ (by simp; omega)⟩, Int.toNat_natCast, flat_rep, List.map_replicate]
/-! a list backwards; wide division -/
def unN (f : D → Sto → Option (List D × Sto)) (a : M D) : M (List D) := bnd a fun x => lift (f x)
@[simp] theorem unN_run (f : D → Sto → Option (List D × Sto)) (a : M D) (e : Ev) (st : Sto) : unN f a e st = (a e st).nxt fun x st1 => optR (f x st1) := by unfold unN; simp
def revN (x : D) (st : Sto) : Option (List D × Sto) := (rdOf st x).map fun xs => (xs.reverse, st)
theorem n_rev {X : Cx} {C : Ctx} {W : WX} {a : Expr} {ca : M D} {k : Nat} {p1 p2 p3 pos : Pos} (hK : C.K = X.K := by rfl) (ha : PE X a (te C W ca)) : PE X (.Subscript a (.Slice none none (some (.UnaryOp .USub (.Constant (.int 1) k p1) p2)) p3) pos) (tn C W (unN revN ca)) :=
  (pe_revL ha).imp fun σ H Q ⟨env, st, B, e, r, p⟩ => by
    subst e
    refine (seq r p).mono fun v H1 ⟨x, st1, B1, e1, x1, r1, p1, k1⟩ => ?_
    subst e1
    obtain ⟨d, st', e, k⟩ := post_lift k1
    unfold revN at e
    cases ex : rdOf st1 x with
    | none => rw [ex] at e; cases e
    | some xs =>
      rw [ex] at e; cases e
      obtain ⟨a, vs, rfl, hq, hz, t⟩ := rdOf_rep r1.h ex p1
      refine ⟨a, vs, rfl, hK ▸ hq, fun p hp => ?_⟩
      obtain ⟨x2, r2, q⟩ := new_list r1.h hp (by rw [List.length_reverse]; exact hz) t.reverse
      exact k (.ref p) _ x2 (r1.of x2 r2) q
def opDivW (x y : D) (st : Sto) : Option (D × Sto) := match x, y with
  | .int i, .int j => if 0 < j ∧ j < 18446744073709551616 then some (.int (i / j), st) else none
  | _, _ => none
theorem opDivW_ok {C : Ctx} : BinOk C opDivW (rI CDivW fun i j => .int (i / j)) := fun B st x y v u Q d st' R rx ry e k => by
  unfold opDivW at e
  split at e
  · split at e
    · rename_i hz
      cases e
      rw [rx.int_inv, ry.int_inv]
      exact ⟨_, _, rfl, rfl, wide_div (b := 64) hz.1 (by omega) (by decide) (by decide), k _ B (Ext.refl _ _) R rep_int⟩
    · cases e
  · cases e
theorem e_divW {X : Cx} {C : Ctx} {W : WX} {a b : Expr} {ca cb : M D} {pos : Pos} (ha : PE X a (te C W ca)) (hb : PE X b (te C W cb)) : PE X (.BinOp a .FloorDiv b pos) (te C W (bin opDivW ca cb)) := e_bin op_fdivW opDivW_ok ha hb
theorem divW_int {i j : Int} (h : 0 < j) (h2 : j < 18446744073709551616) (st : Sto) : opDivW (.int i) (.int j) st = some (.int (i / j), st) := by
  unfold opDivW; dsimp only; rw [if_pos ⟨h, h2⟩]
end Ly
/-! More of tuples and lists: in, sum, sorted. -/
namespace Ly
open PySem PySem.Spec PyProof.Rows L2

/-! ### x in l, of data of any depth -/
theorem any_py : ∀ (L : List D) (x : D), D.nsL L = true → D.ns x = true → (D.pyL L).any (fun z => PyData.eqv z (D.py x)) = L.any fun z => D.eq z x
  | [], _, _, _ => by simp [D.pyL]
  | y :: L, x, h, hx => by
    simp [D.nsL] at h
    have e := any_py L x h.2 hx
    have e2 := D.eqv_py y x h.1 hx
    rw [D.pyL, List.any_cons, List.any_cons, e, e2]
def inD (neg : Bool) (x y : D) (st : Sto) : Option (D × Sto) := match top st y with
  | .lst L => if D.ok 60 (top st x) && D.ns (top st x) && (D.ok 60 (.lst L) && D.ns (.lst L)) then some (.bl (if neg then !L.any fun z => D.eq z (top st x) else L.any fun z => D.eq z (top st x)), st) else none
  | _ => none
theorem inD_ok {C : Ctx} : BinOk C (inD false) (rInD C.K) := fun B st x y v u Q d st' R rx ry e k => by
  unfold inD at e
  split at e
  · rename_i L hy
    split at e
    · rename_i h
      cases e
      simp only [Bool.and_eq_true] at h
      have dy := top_dp R (d := y) (by rw [hy]; exact h.2.1) (by rw [hy]; exact h.2.2) ry
      rw [hy] at dy
      have hL : D.nsL L = true := by have := h.2.2; simpa [D.ns] using this
      have sh := D.ok_shaped h.2.1
      simp only [D.py] at dy sh
      exact ⟨_, _, top_dp R h.1.1 h.1.2 rx, dy, D.ok_shaped h.1.1, sh, by rw [any_py L _ hL h.1.2]; exact k _ B (Ext.refl _ _) R rep_bl⟩
    · cases e
  · cases e
theorem notInD_ok {C : Ctx} : BinOk C (inD true) (rNotInD C.K) := fun B st x y v u Q d st' R rx ry e k => by
  unfold inD at e
  split at e
  · rename_i L hy
    split at e
    · rename_i h
      cases e
      simp only [Bool.and_eq_true] at h
      have dy := top_dp R (d := y) (by rw [hy]; exact h.2.1) (by rw [hy]; exact h.2.2) ry
      rw [hy] at dy
      have hL : D.nsL L = true := by have := h.2.2; simpa [D.ns] using this
      have sh := D.ok_shaped h.2.1
      simp only [D.py] at dy sh
      exact ⟨_, _, top_dp R h.1.1 h.1.2 rx, dy, D.ok_shaped h.1.1, sh, by rw [any_py L _ hL h.1.2]; exact k _ B (Ext.refl _ _) R rep_bl⟩
    · cases e
  · cases e
section
variable {X : Cx} {C : Ctx} {W : WX} {a b : Expr} {ca cb : M D} {pos : Pos}
theorem e_inD (hK : C.K = X.K := by rfl) (hu : X.A.units + 65 < cLine) (ha : PE X a (te C W ca)) (hb : PE X b (te C W cb)) (hm : behindInMarks .In b = false := by rfl) : PE X (.Compare a [.In] [b] pos) (te C W (bin (inD false) ca cb)) := e_cmp (hK ▸ op_inD hu) inD_ok ha hb hm
theorem e_notInD (hK : C.K = X.K := by rfl) (hu : X.A.units + 65 < cLine) (ha : PE X a (te C W ca)) (hb : PE X b (te C W cb)) (hm : behindInMarks .NotIn b = false := by rfl) : PE X (.Compare a [.NotIn] [b] pos) (te C W (bin (inD true) ca cb)) := e_cmp (hK ▸ op_notInD hu) notInD_ok ha hb hm
theorem t_inD (hK : C.K = X.K := by rfl) (hu : X.A.units + 65 < cLine) (ha : PE X a (te C W ca)) (hb : PE X b (te C W cb)) (hm : behindInMarks .In b = false := by rfl) : PT X (.Compare a [.In] [b] pos) (tb C W (tst (bin (inD false) ca cb))) := t_cmpG (hK ▸ op_inD hu) inD_ok ha hb hm
theorem t_notInD (hK : C.K = X.K := by rfl) (hu : X.A.units + 65 < cLine) (ha : PE X a (te C W ca)) (hb : PE X b (te C W cb)) (hm : behindInMarks .NotIn b = false := by rfl) : PT X (.Compare a [.NotIn] [b] pos) (tb C W (tst (bin (inD true) ca cb))) := t_cmpG (hK ▸ op_notInD hu) notInD_ok ha hb hm
end

/-! ### sum(t), t a tuple or a list -/
def rSumT (K : PySem.W.Frag) : List V → Hp → VK → Prop := fun vs H Q => ∃ (t : Addr) (ns : List Int), vs = [V.ref t] ∧ SqT K H t (ns.map V.int) ∧ Q (.int ns.sum) H
theorem call_sumTup {X : Cx} (hc : X.calm = true) : CallR X (.builtin "sum") (rSumT X.K) := by
  intro pins s σ H vs us Q I r h
  obtain ⟨t, ns, e, hs, q⟩ := h
  subst e
  obtain ⟨its, rv, hT, _⟩ := I.tuple hs
  obtain ⟨ps, hps⟩ := rv.ints.allInts.items
  have hsum : numsOf its.toArray.toList = ns := by rw [show its.toArray.toList = its from rfl, rv.ints.numsOf]
  obtain ⟨o, ho, oc, od⟩ := hT
  have hT2 : s.heap.IsTuple t its.toArray := ⟨o, ho, oc, od⟩
  rw [hps] at hsum hT2
  rw [nums_intItems] at hsum
  rw [Vals.ref1 r]
  refine PySem.W.ktm_sumG (I.ok.hd hc) hT2 fun h' tk t' hk => ?_
  rw [preSum_eq, List.take_of_length_le (by simp), hsum]
  exact ⟨.int _, H, I.kept hk, ⟨_, rfl⟩, q⟩
def fSumA : List D → Sto → Option (D × Sto)
  | [.tup xs], st => (intsOf xs).map fun ns => (.int ns.sum, st)
  | xs, st => fSumL xs st
theorem fSumA_ok {C : Ctx} : CallOk C fSumA (fun vs H Q => rSum C.K vs H Q ∨ rSumT C.K vs H Q) := fun B st xs vs Q d st' R r e k => by
  unfold fSumA at e
  split at e
  · rename_i ys
    cases en : intsOf ys with
    | none => rw [en] at e; cases e
    | some ns =>
      rw [en] at e; cases e
      obtain ⟨v, t, rfl, q, h⟩ := r.cons_inv
      rw [h.nil_inv]
      obtain ⟨a, us, rfl, hz, hq, tt⟩ := q.tup_inv
      have ey := intsOf_eq en
      subst ey
      have eu : us = ns.map V.int := by
        clear hq hz q r h k en
        induction ns generalizing us with
        | nil => exact tt.nil_inv
        | cons n ns ih =>
          obtain ⟨v, r, rfl, q, h⟩ := tt.cons_inv
          rw [q.int_inv, ih r h]
          rfl
      subst eu
      exact .inr ⟨a, ns, rfl, hq, k _ B (Ext.refl _ _) R rep_int⟩
  · exact .inl (fSumL_ok B st xs vs Q d st' R r e k)
section
variable {X : Cx} {C : Ctx} {W : WX} {e : Expr} {as : M (List D)} {p pos : Pos}
theorem e_sumA (hc : X.calm = true := by rfl) (hK : C.K = X.K := by rfl) (hg : Gl X "sum") (hm : X.mg "sum" = none) (ha : PA X [e] (ta C W as)) (he : starEach [e] X.env = (false, eval e X.env) :: starEach [] X.env := by rfl) (hpl : (backTo pos (starEach [] X.env)).any (·.1) = false := by rfl) : PE X (.Call (.Name "sum" p) [e] [] pos) (te C W (calls fSumA as)) :=
  e_callB ((hK ▸ cr_sum hc).or (hK ▸ call_sumTup hc)) fSumA_ok hg hm (by decide +kernel) ha (by decide) (by decide) he hpl
end

/-! ### sorted(l), l of int tuples of one length -/
theorem RepL.perm {C : Ctx} {B : Bd} {xs ys : List V} (p : ys.Perm xs) : ∀ {ds : List D}, RepL C B ds xs → ∃ es : List D, es.Perm ds ∧ RepL C B es ys := by
  induction p with
  | nil => exact fun {ds} h => ⟨ds, List.Perm.refl _, h⟩
  | cons x _ ih =>
    intro ds h
    cases ds with
    | nil => cases h.nil_inv
    | cons d ds =>
      obtain ⟨v, r, e, q, t⟩ := h.cons_inv
      cases e
      obtain ⟨es, pe, re⟩ := ih t
      exact ⟨d :: es, pe.cons d, .cons q re⟩
  | swap x y l =>
    intro ds h
    cases ds with
    | nil => cases h.nil_inv
    | cons d ds =>
      obtain ⟨v, r, e, q, t⟩ := h.cons_inv
      cases e
      cases ds with
      | nil => cases t.nil_inv
      | cons d2 ds =>
        obtain ⟨v2, r2, e2, q2, t2⟩ := t.cons_inv
        cases e2
        exact ⟨d2 :: d :: ds, List.Perm.swap _ _ _, .cons q2 (.cons q t2)⟩
  | trans _ _ ih1 ih2 =>
    intro ds h
    obtain ⟨es, p1, r1⟩ := ih2 h
    obtain ⟨fs, p2, r2⟩ := ih1 r1
    exact ⟨fs, p2.trans p1, r2⟩
def tupD (l : List Int) : D := .tup (l.map .int)
def tupsI : List D → Option (List (List Int))
  | [] => some []
  | .tup xs :: r => (intsOf xs).bind fun l => (tupsI r).map (l :: ·)
  | _ => none
theorem tupsI_eq : ∀ {ds : List D} {L : List (List Int)}, tupsI ds = some L → ds = L.map tupD
  | [], L, h => by unfold tupsI at h; cases h; rfl
  | d :: ds, L, h => by
    unfold tupsI at h
    split at h
    · cases h; simp at *
    · rename_i xs r heq
      cases heq
      cases e1 : intsOf xs with
      | none => rw [e1] at h; cases h
      | some l =>
        cases e2 : tupsI ds with
        | none => rw [e1, e2] at h; cases h
        | some M =>
          rw [e1, e2] at h
          cases h
          rw [List.map_cons, ← tupsI_eq e2, intsOf_eq e1]
          rfl
    · cases h
theorem tupsI_map (L : List (List Int)) : tupsI (L.map tupD) = some L := by
  induction L with
  | nil => rfl
  | cons l L ih => rw [List.map_cons]; unfold tupD tupsI; rw [intsOf_map]; show (tupsI (L.map tupD)).map _ = _; rw [ih]; rfl
abbrev BB : Int := 4294967296
def okTups (d : Nat) (L : List (List Int)) : Bool := L.all fun l => decide (l.length = d) && l.all fun i => decide (0 ≤ i) && decide (i < BB)
def ordT (l m : List Int) : Bool := decide (TS.code BB l ≤ TS.code BB m)
def fSortT : List D → Sto → Option (List D × Sto)
  | [x], st => (rdOf st x).bind fun ds => (tupsI ds).bind fun L => if L.length < 64 ∧ 1 ≤ (L.headD [0]).length ∧ okTups (L.headD [0]).length L = true then some ((L.mergeSort ordT).map tupD, st) else none
  | _, _ => none
theorem code_eq : ∀ {l m : List Int}, l.length = m.length → TS.Bd BB l → TS.Bd BB m → TS.code BB l = TS.code BB m → l = m
  | [], [], _, _, _, _ => rfl
  | [], _ :: _, h, _, _, _ => by simp at h
  | _ :: _, [], h, _, _, _ => by simp at h
  | a :: l, b :: m, h, h1, h2, e => by
    have hl : l.length = m.length := by simpa using h
    rcases Int.lt_trichotomy a b with z | z | z
    · have := TS.code_lt hl h1.tail h2.tail z; omega
    · subst z
      have e2 : a * BB ^ l.length + TS.code BB l = a * BB ^ m.length + TS.code BB m := e
      rw [hl] at e2
      rw [code_eq hl h1.tail h2.tail (Int.add_left_cancel e2)]
    · have := TS.code_lt hl.symm h2.tail h1.tail z; omega
theorem ints_rep {C : Ctx} {B : Bd} : ∀ {ns : List Int} {us : List V}, RepL C B (ns.map .int) us → us = ns.map V.int
  | [], _, h => h.nil_inv
  | n :: ns, us, h => by
    obtain ⟨v, r, rfl, q, t⟩ := h.cons_inv
    rw [q.int_inv, ints_rep t]
    rfl
theorem tupI_of {C : Ctx} {B : Bd} {l : List Int} {v : V} (h : Rep C B (tupD l) v) : TupI C.K B.H v l := by
  obtain ⟨a, us, rfl, _, hq, tt⟩ := h.tup_inv
  exact ⟨a, rfl, (ints_rep tt) ▸ hq⟩
theorem tupI_all {C : Ctx} {B : Bd} : ∀ {L : List (List Int)} {vs : List V}, RepL C B (L.map tupD) vs → ∀ x ∈ vs, ∃ l ∈ L, TupI C.K B.H x l
  | [], _, h, x, hx => by rw [h.nil_inv] at hx; cases hx
  | l :: L, vs, h, x, hx => by
    obtain ⟨v, r, rfl, q, t⟩ := h.cons_inv
    rcases List.mem_cons.mp hx with rfl | hx
    · exact ⟨l, List.mem_cons_self, tupI_of q⟩
    · obtain ⟨m, hm, e⟩ := tupI_all t x hx
      exact ⟨m, List.mem_cons_of_mem _ hm, e⟩
theorem tupI_back {C : Ctx} {B : Bd} : ∀ {L : List (List Int)} {vs : List V}, RepL C B (L.map tupD) vs → ∀ l ∈ L, ∃ x ∈ vs, TupI C.K B.H x l
  | [], _, _, l, hl => by cases hl
  | m :: L, vs, h, l, hl => by
    obtain ⟨v, r, rfl, q, t⟩ := h.cons_inv
    rcases List.mem_cons.mp hl with rfl | hl
    · exact ⟨v, List.mem_cons_self, tupI_of q⟩
    · obtain ⟨x, hx, e⟩ := tupI_back t l hl
      exact ⟨x, List.mem_cons_of_mem _ hx, e⟩
theorem pair_back {C : Ctx} {B : Bd} : ∀ {L : List (List Int)} {vs : List V}, RepL C B (L.map tupD) vs → vs.Pairwise (fun x y => ∀ n m, TupI C.K B.H x n → TupI C.K B.H y m → TS.code BB n ≤ TS.code BB m) → L.Pairwise (fun a b => ordT a b = true)
  | [], _, _, _ => List.Pairwise.nil
  | m :: L, vs, h, hp => by
    obtain ⟨v, r, rfl, q, t⟩ := h.cons_inv
    obtain ⟨h1, h2⟩ := List.pairwise_cons.mp hp
    refine List.pairwise_cons.mpr ⟨fun l hl => ?_, pair_back t h2⟩
    obtain ⟨x, hx, e⟩ := tupI_back t l hl
    exact decide_eq_true (h1 x hx m l (tupI_of q) e)
def invT : D → List Int
  | .tup xs => (intsOf xs).getD []
  | _ => []
theorem inv_tup (l : List Int) : invT (tupD l) = l := by show (intsOf (l.map D.int)).getD [] = l; rw [intsOf_map]; rfl
theorem fSortT_ok {C : Ctx} : CallOkN C fSortT (fun vs H Q => ∃ d, 1 ≤ d ∧ rSortU C.K d BB vs H Q) := fun B st xs vs Q ds st' R r e k => by
  unfold fSortT at e
  split at e
  · rename_i x
    cases ex : rdOf st x with
    | none => rw [ex] at e; cases e
    | some es =>
      cases el : tupsI es with
      | none => rw [ex, Option.bind_some, el] at e; cases e
      | some L =>
        rw [ex, Option.bind_some, el, Option.bind_some] at e
        split at e
        · rename_i hc
          obtain ⟨c1, c2, c3⟩ := hc
          cases e
          have ee := tupsI_eq el
          subst ee
          obtain ⟨v, t, rfl, q, h⟩ := r.cons_inv
          rw [h.nil_inv]
          obtain ⟨a, us, rfl, hq, hz, tt⟩ := rdOf_rep R ex q
          have hul : us.length = L.length := by rw [tt.length, List.length_map]
          have good : ∀ l ∈ L, l.length = (L.headD [0]).length ∧ TS.Bd BB l := fun l hl => by
            have := (List.all_eq_true.mp c3) l hl
            rw [Bool.and_eq_true, decide_eq_true_eq] at this
            refine ⟨this.1, fun m hm => ?_⟩
            have := (List.all_eq_true.mp this.2) m hm
            rw [Bool.and_eq_true, decide_eq_true_eq, decide_eq_true_eq] at this
            exact this
          refine ⟨(L.headD [0]).length, c2, a, us, rfl, hq, by omega, fun x hx => ?_, fun ys p hp ho hn => ?_⟩
          · obtain ⟨l, hl, e⟩ := tupI_all tt x hx
            exact ⟨l, e, good l hl⟩
          · obtain ⟨fs, pf, rf⟩ := tt.perm hp
            have mem : ∀ f ∈ fs, ∃ l ∈ L, f = tupD l := fun f hf => by
              obtain ⟨l, hl, e⟩ := List.mem_map.mp (pf.subset hf)
              exact ⟨l, hl, e.symm⟩
            have ef : fs = (fs.map invT).map tupD := by
              rw [List.map_map]
              conv => lhs; rw [← List.map_id fs]
              refine List.map_congr_left fun f hf => ?_
              obtain ⟨l, _, e⟩ := mem f hf
              subst e
              exact (congrArg tupD (inv_tup l)).symm
            have pL : (fs.map invT).Perm L := by
              have := pf.map invT
              rw [List.map_map] at this
              have e2 : L.map (invT ∘ tupD) = L := by
                conv => rhs; rw [← List.map_id L]
                exact List.map_congr_left fun l _ => inv_tup l
              rwa [e2] at this
            rw [ef] at rf
            have sorted := pair_back rf ho
            have same : fs.map invT = L.mergeSort ordT := by
              refine List.Perm.eq_of_pairwise (le := fun a b => ordT a b = true) (fun x y hx hy h1 h2 => ?_) sorted (List.pairwise_mergeSort (fun x y z h1 h2 => ?_) (fun x y => ?_) L) (pL.trans (List.mergeSort_perm L ordT).symm)
              · have gx := good x (pL.subset hx)
                have gy := good y ((List.mergeSort_perm L ordT).subset hy)
                exact code_eq (gx.1.trans gy.1.symm) gx.2 gy.2 (Int.le_antisymm (of_decide_eq_true h1) (of_decide_eq_true h2))
              · exact decide_eq_true (Int.le_trans (of_decide_eq_true h1) (of_decide_eq_true h2))
              · unfold ordT
                rcases Int.le_total (TS.code BB x) (TS.code BB y) with z | z <;> simp [z]
            rw [same] at rf
            obtain ⟨x2, r2, q2⟩ := new_list R hn (by rw [hp.length_eq]; exact hz) rf
            exact k (.ref p) _ x2 r2 q2
        · cases e
  · cases e
section
variable {X : Cx} {C : Ctx} {W : WX} {e : Expr} {as : M (List D)} {p pos : Pos}
theorem call_sortAll {X : Cx} : CallR X (.builtin "sorted") (fun vs H Q => ∃ d, 1 ≤ d ∧ rSortU X.K d BB vs H Q) := by
  intro pins s σ H vs us Q I r h
  obtain ⟨d, hd, h⟩ := h
  exact cr_sortT hd pins s σ H vs us Q I r h
theorem n_sortT (hK : C.K = X.K := by rfl) (hg : Gl X "sorted") (hm : X.mg "sorted" = none) (ha : PA X [e] (ta C W as)) (he : starEach [e] X.env = (false, eval e X.env) :: starEach [] X.env := by rfl) (hpl : (backTo pos (starEach [] X.env)).any (·.1) = false := by rfl) : PE X (.Call (.Name "sorted" p) [e] [] pos) (tn C W (calls fSortT as)) :=
  (pe_callB (hK ▸ call_sortAll) hg hm (by decide +kernel) ha (by decide) (by decide) he hpl).imp (calls_rdN fSortT_ok)
end
/-! ### o[k], p[l] = x, y -/
def subX (o k : M D) (x : D) : MS := mk o fun y => mk k fun z => fun env st => match y, z with
  | .ref i, .int j => (match st[i]? with
    | some (.lst xs) => (match ixN xs.length j with
      | some n => .nx env (st.set i (.lst (xs.set n x)))
      | none => .bad)
    | _ => .bad)
  | _, _ => .bad
theorem subX_rd {C : Ctx} {W : WX} {co ck : M D} {x : D} {v : V} {B : Bd} {env : Ev} {σ : Sl} {st : Sto} {E : Ends} (r : Rel C B env σ st) (rx : Rep C B x v) (q : postS C W B E (subX co ck x env st)) :
    gSub (te C W co) (te C W ck) rSetL v σ B.H E.nx := by
  refine (seqS r q).mono fun vo H2 ⟨dy, st2, B2, e2, x2, r2, p2, k2⟩ => ?_
  subst e2
  refine (seqS r2 k2).mono fun vk H3 ⟨dz, st3, B3, e3, x3, r3, p3, k3⟩ => ?_
  subst e3
  cases dy with
  | ref i =>
    cases dz with
    | int j =>
      dsimp only at k3
      cases ec : st3[i]? with
      | none => rw [ec] at k3; exact k3.elim
      | some cc =>
        rw [ec] at k3
        cases cc with
        | lst xs =>
          dsimp only at k3
          cases en : ixN xs.length j with
          | none => rw [en] at k3; exact k3.elim
          | some n =>
            rw [en] at k3
            obtain ⟨a, ha, rfl⟩ := (p2.mono x3).ref_inv
            obtain ⟨vs, hH, hz, t⟩ := r3.h.cell i _ a ec ha
            have rx' := rx.mono (x2.trans x3)
            obtain ⟨x4, r4⟩ := r3.h.write (o := .lst (vs.set n v)) (c := .lst (xs.set n x)) ha fun B' z e => ⟨_, e, by rw [List.length_set]; exact hz, ((t.mono z).set n (rx'.mono z))⟩
            refine ⟨a, vs, j, n, rfl, p3.int_inv, hH, by rw [t.length]; exact en, k3 σ _ x4 (r3.of x4 r4)⟩
        | _ => exact k3.elim
    | _ => exact k3.elim
  | _ => exact k3.elim
def msub2 (c o1 k1 o2 k2 : M D) : MS := mk c fun d => fun env st => match d with
  | .tup [x, y] => mthen (subX o1 k1 x) (subX o2 k2 y) env st
  | _ => .bad
theorem s_sub2 {X : Cx} {C : Ctx} {W : WX} {e o1 k1 o2 k2 : Expr} {c c1 d1 c2 d2 : M D} {kt : Nat} {pt sp1 sp2 pos : Pos} (hK : C.K = X.K := by rfl) (hc : X.calm = true := by rfl) (he : PE X e (te C W c))
    (ha1 : PG X (.Subscript o1 k1 sp1) (gSub (te C W c1) (te C W d1) rSetL)) (ha2 : PG X (.Subscript o2 k2 sp2) (gSub (te C W c2) (te C W d2) rSetL))
    (hn1 : (assignEach [.Subscript o2 k2 sp2] X.env).map (·.2) = assign (.Subscript o2 k2 sp2) X.env :: (assignEach [] X.env).map (·.2) := by rfl)
    (hn2 : (assignEach [.Subscript o1 k1 sp1, .Subscript o2 k2 sp2] X.env).map (·.2) = assign (.Subscript o1 k1 sp1) X.env :: (assignEach [.Subscript o2 k2 sp2] X.env).map (·.2) := by rfl)
    (hm1 : (assignEach [.Subscript o1 k1 sp1, .Subscript o2 k2 sp2] X.env).length = 2 := by rfl) (hm2 : (assignEach [.Subscript o1 k1 sp1, .Subscript o2 k2 sp2] X.env).findIdx? (·.1) = none := by rfl)
    (hs : swapsWithSole [.Tuple [.Subscript o1 k1 sp1, .Subscript o2 k2 sp2] kt pt] e pos.line X.env = pure false := by rfl) (hw : swappedStores [.Tuple [.Subscript o1 k1 sp1, .Subscript o2 k2 sp2] kt pt] e X.env = pure none := by rfl)
    (hl : (assignEach [.Tuple [.Subscript o1 k1 sp1, .Subscript o2 k2 sp2] kt pt] X.env).map (·.2) = [assign (.Tuple [.Subscript o1 k1 sp1, .Subscript o2 k2 sp2] kt pt) X.env] := by rfl) :
    PS X (.Assign [.Tuple [.Subscript o1 k1 sp1, .Subscript o2 k2 sp2] kt pt] e pos) (ts C W (msub2 c c1 d1 c2 d2)) :=
  (ps_asg he (pg_tup hc (pgs_cons ha1 (pgs_cons ha2 pgs_nil hn1) hn2) hm1 hm2) hs hw hl).imp fun E σ H ⟨env, st, B, e, r, q⟩ => by
    subst e
    refine (seqS r q).mono fun v H1 ⟨d, st1, B1, e1, x1, r1, p1, k1⟩ => ?_
    subst e1
    split at k1
    · rename_i x y
      obtain ⟨a, us, rfl, hz, hq, t⟩ := p1.tup_inv
      obtain ⟨vx, t1, rfl, qx, t2⟩ := t.cons_inv
      obtain ⟨vy, t3, rfl, qy, t4⟩ := t2.cons_inv
      cases t4.nil_inv
      refine ⟨a, _, rfl, hK ▸ hq, rfl, vx, [vy], rfl, ?_⟩
      have key : postS C W B1 { E with nx := fun σ' H' => gCons (gSub (te C W c2) (te C W d2) rSetL) gNil [vy] σ' H' E.nx } (subX c1 d1 x env st1) := by
        unfold mthen at k1
        cases q : subX c1 d1 x env st1 with
        | nx e' st' =>
          rw [q] at k1
          intro σ' B' xx r'
          exact ⟨vy, [], rfl, subX_rd (E := { E with nx := fun σ2 H2 => gNil [] σ2 H2 E.nx }) r' (qy.mono xx) (by
            have k2 : postS C W B' E (subX c2 d2 y e' st') := postS.later xx k1
            revert k2
            cases subX c2 d2 y e' st' with
            | nx e3 st3 => exact fun k2 σ3 B3 x3 r3 => ⟨rfl, k2 σ3 B3 x3 r3⟩
            | bk _ _ => exact fun k2 => k2
            | ct _ _ => exact fun k2 => k2
            | ret _ _ => exact fun k2 => k2
            | exc _ _ _ => exact fun k2 => k2
            | bad => exact fun k2 => k2)⟩
        | bk _ _ => rw [q] at k1; exact k1
        | ct _ _ => rw [q] at k1; exact k1
        | ret _ _ => rw [q] at k1; exact k1
        | exc _ _ _ => rw [q] at k1; exact k1
        | bad => rw [q] at k1; exact k1
      exact subX_rd r1 qx key
    · exact k1.elim
end Ly
/-! enumerate of a tuple. -/
namespace Ly
open PySem PySem.Spec PyProof.Rows L2
open Sem (wp)
open AutoSeq1 (wpAny_loadPart')
def itObj (t : Addr) : Obj := { cls := .type "tuple_iterator", data := .fields #[.ref t, .int 0 0] }
def enObj (i : Addr) : Obj := { cls := .type "enumerate", data := .fields #[.none, .bool false, .ref i, rawInt 0, .none, .none] }
theorem meets_enumTup (t : Addr) (xs : Array Value) :
    Meets (Builtin.«enumerate.__new__» ⟨[.type "enumerate", .ref t], []⟩) (fun _ R s => s.heap.IsTuple t xs ∧
      R (.ok (.ret (.ref (s.heap.push (itObj t)).objs.size))) { s with heap := (s.heap.push (itObj t)).push (enObj s.heap.objs.size) }) :=
  .of_wp fun prog w A R s hyp => by
    obtain ⟨h0, g0, d0, k0, o0⟩ := s
    obtain ⟨hT, hR⟩ := hyp
    have sub := sub_enumerate
    wp_walk
    refine wpAny_stack_any fun sk => wpAny_pure ?_
    split
    · rename_i c _ _ _ _ _
      cases (c == Value.type "enumerate")
      · wp_walk using wpAny_pyIter_tuple hT
        exact ⟨_, rfl, hR⟩
      · wp_walk using wpAny_pyIter_tuple hT
        exact ⟨_, rfl, hR⟩
    · wp_walk using wpAny_pyIter_tuple hT
      exact ⟨_, rfl, hR⟩
section
variable {prog : Program} {w : World} {A : Around} {E : Value → Shared → Prop} {s : Shared}
theorem call_enumTup {t : Addr} {xs : Array Value} {Q : Value → Shared → Prop} (hT : s.heap.IsTuple t xs)
    (k : ∀ g, IsEnum g (s.heap.objs.size + 1) s.heap.objs.size 0 .none → g.IsTupleIter s.heap.objs.size t 0 → (∀ b o, s.heap.get? b = some o → g.get? b = some o) →
      Q (.ref (s.heap.objs.size + 1)) { s with heap := g }) : wpAny (model prog w) A (call (.type "enumerate") [.ref t]) Q E s := by
  have sz : (s.heap.push (itObj t)).objs.size = s.heap.objs.size + 1 := Heap.size_push ..
  have at1 : ((s.heap.push (itObj t)).push (enObj s.heap.objs.size)).get? (s.heap.objs.size + 1) = some (enObj s.heap.objs.size) := by
    have := Heap.get?_push_size (s.heap.push (itObj t)) (o := enObj s.heap.objs.size) rfl
    rwa [sz] at this
  have at0 : ((s.heap.push (itObj t)).push (enObj s.heap.objs.size)).get? s.heap.objs.size = some (itObj t) := Heap.get?_push_of_some _ (Heap.get?_push_size _ rfl)
  refine callType_new F.called_enumerate (by decide) (F.typeCall_enumerate_1 _) (F.newCall_enumerate_1 _) (fun ob => F.args_object_init_2 ob _) F.entry_enumerate_new (meets_enumTup t xs) ⟨hT, ?_⟩
  rw [sz]
  exact ⟨⟨_, at1, rfl⟩, k _ at1 ⟨itObj t, at0, rfl, rfl⟩ fun b o q => Heap.get?_push_of_some _ (Heap.get?_push_of_some _ q)⟩
end
/-- the tuple at a, each item in a new pair -/
def ItE (K : PySem.W.Frag) (a : Addr) : It where
  go := fun i H => ∃ (xs : List V) (x : V), SqT K H a xs ∧ xs[i]? = some x
  yld := fun i H v H' => ∃ T x, v = .ref T ∧ H T = none ∧ H' = upd H T (.tup [.int (i : Nat), x]) ∧ ∀ xs, SqT K H a xs → xs[i]? = some x
  stop := fun i H => ∃ xs : List V, SqT K H a xs ∧ xs.length ≤ i
theorem turn_enumT {P : Program} {w : World} {K : PySem.W.Frag} {elts : List Expr} {kk : Nat} {tp : Pos} (a e it : Addr) :
    Turn P w K (.Tuple elts kk tp) (ItE K a) [e, it] e (fun i h => (∃ old, IsEnum h e it ((i : Nat) : Int) old) ∧ h.IsTupleIter it a i ∧ e ≠ it) where
  mem := List.mem_cons_self
  obj := fun i h st b hb => by
    obtain ⟨⟨old, en⟩, ⟨o, ho, _, od⟩, _⟩ := st
    rcases List.mem_cons.mp hb with z | hb
    · subst z; exact ⟨_, en, fun v q => by cases q⟩
    · have z := List.mem_singleton.mp hb
      subst z; exact ⟨o, ho, fun v q => by rw [od] at q; cases q⟩
  keep := fun i h g st k => by
    obtain ⟨⟨old, en⟩, ti, ne⟩ := st
    exact ⟨⟨old, k e List.mem_cons_self _ en⟩, ti.at fun o q => k it (List.mem_cons_of_mem _ List.mem_cons_self) o q, ne⟩
  item := by
    intro X eP ew eK cal i pins s σ H E I fpo st gi
    subst eP ew eK
    obtain ⟨⟨old, en⟩, ti, ne⟩ := st
    obtain ⟨xs, x, sq, ex⟩ := gi
    obtain ⟨its, rv, tt, _⟩ := I.tuple sq
    obtain ⟨u, eu, ru⟩ := rv.get ex
    have neA : a ≠ it := fun q => by
      obtain ⟨o1, q1, c1, _⟩ := ti
      obtain ⟨o2, q2, c2, _⟩ := tt
      rw [q, q1] at q2
      cases q2
      rw [c1] at c2
      exact absurd (Value.type.inj c2) (by decide)
    have neE : e ≠ a := fun q => by
      obtain ⟨o2, q2, c2, _⟩ := tt
      rw [← q, en] at q2
      cases q2
      exact absurd (Value.type.inj c2) (by decide)
    have inE : e ∉ [it, a] := by simp [ne, neE]
    have lt : i < its.toArray.size := by
      have := (List.getElem?_eq_some_iff.mp eu).1
      simpa using this
    have eLt : e < s.heap.objs.size := Heap.lt_size en
    have iLt : it < s.heap.objs.size := by obtain ⟨_, q, _⟩ := ti; exact Heap.lt_size q
    refine wpAny_pyNext_enum_itemC (Draws.tuple (prog := X.prog) (w := X.w) (A := X.A.in1) (show X.A.in1.handled = none from I.ok.hd cal) it a neA its.toArray) en ⟨ti, tt⟩ lt ne inE fun y g tk py out st' hT _ hk => ?_
    have ey : y = u := by
      have : its.toArray[i]? = some u := by simpa using eu
      exact Option.some.inj (py.symm.trans this)
    subst ey
    refine ⟨_, rfl, wpAny_letOwnedTupleGo_enum (s := { s with heap := g, toks := tk + 1 }) out fun g2 en2 sb => ?_⟩
    have hT2 := (sb.2 _ (Nat.ne_of_gt eLt)).trans hT
    have nw : ObjOk X.prog X.w (upd H s.heap.objs.size (.tup [.int (i : Nat), x])) g2 s.heap.objs.size (.tup [.int (i : Nat), x]) :=
      ⟨by show 2 ≤ sizeLine; decide, [.int i tk, y], .cons ⟨_, rfl⟩ (.cons ru .nil), ⟨_, hT2, rfl, 0, rfl⟩⟩
    have I2 : Inv X pins σ (upd H s.heap.objs.size (.tup [.int (i : Nat), x])) { s with heap := g2, toks := tk + 1 } := by
      refine I.turnedNew (t' := tk + 1) (ch := [e, it]) (fun b ob nb q => ?_) fpo (Nat.le_refl _) nw
      have b1 : b ≠ e := fun z => nb (z ▸ List.mem_cons_self)
      have b2 : b ≠ it := fun z => nb (z ▸ List.mem_cons_of_mem _ List.mem_cons_self)
      exact (sb.2 b b1).trans (hk b ob b1 b2 q)
    refine ⟨.ref s.heap.objs.size, _, I2, rfl, ⟨_, x, rfl, I.hok.fresh (Nat.le_refl _), rfl, fun zs hz => by rw [I.tuple_inj hz sq]; exact ex⟩, ⟨⟨y, ?_⟩, st'.1.at fun o q => (sb.2 it (Ne.symm ne)).trans q, ne⟩, fun b hb => ?_⟩
    · rw [Int.natCast_add]; exact en2
    · have bl : b < s.heap.objs.size := by
        rcases List.mem_cons.mp hb with z | hb
        · rw [z]; exact eLt
        · rw [List.mem_singleton.mp hb]; exact iLt
      rw [upd_ne (Nat.ne_of_lt bl)]
      exact (fpo b hb).1
  done := by
    intro X eP ew eK cal i pins s σ H E I fpo st gi
    subst eP ew eK
    obtain ⟨⟨old, en⟩, ti, ne⟩ := st
    obtain ⟨xs, sq, le⟩ := gi
    obtain ⟨its, rv, tt, _⟩ := I.tuple sq
    have neA : a ≠ it := fun q => by
      obtain ⟨o1, q1, c1, _⟩ := ti
      obtain ⟨o2, q2, c2, _⟩ := tt
      rw [q, q1] at q2
      cases q2
      rw [c1] at c2
      exact absurd (Value.type.inj c2) (by decide)
    obtain ⟨f0, f1, f2, f3, f4, f5⟩ := fpo it (List.mem_cons_of_mem _ List.mem_cons_self)
    have over : its.toArray[i]? = none := by
      have := rv.length
      simp; omega
    have D : Draws X.prog X.w X.A.in1 it [it, a] i (fun _ _ => False) (fun j h => (h.IsTupleIter it a j ∧ h.IsTuple a its.toArray) ∧ j = i) :=
      { live := fun _ _ q => let ⟨o, ho, _⟩ := q.1.1; ⟨o, ho⟩
        frame := fun _ _ _ q k => ⟨⟨q.1.1.at fun o z => k it (by simp) o z, q.1.2.at fun o z => k a (by simp) o z⟩, q.2⟩
        item := fun j _ _ _ lt q _ => absurd q.2 (Nat.ne_of_lt lt)
        done := fun s2 Q2 E2 q k => by
          obtain ⟨⟨q1, q2⟩, q3⟩ := q
          exact wpAny_nextOf_tuple_end (show X.A.in1.handled = none from I.ok.hd cal) q1 q2 over k }
    exact wpAny_pyNext_enum_endD D en ⟨⟨ti, tt⟩, rfl⟩ fun g eb => ⟨rfl, I.turned (t' := s.toks) (fun b o nb q => eb b o nb q) f0 f1 f3 f4 f5⟩
  self := fun A i s Q E st h => by
    obtain ⟨⟨_, en⟩, _⟩ := st
    exact wpAny_pyIter_enum en h
/-- enumerate of a list, of a tuple -/
def iEnumA (K : PySem.W.Frag) (ta : TA) : TI := fun σ H R => ta σ H fun vs H1 => ∃ a xs, vs = [.ref a] ∧ ((SqL K H1 a xs ∧ R (Ite K a) H1) ∨ (SqT K H1 a xs ∧ R (ItE K a) H1))
theorem pi_enumA {X : Cx} {e : Expr} {ta : TA} {p pos tp : Pos} {elts : List Expr} {kk : Nat} (hg : Gl X "enumerate") (hm : X.mg "enumerate" = none) (ha : PA X [e] ta) (hs : starEach [e] X.env = [(false, eval e X.env)] := by rfl) :
    PI X (.Tuple elts kk tp) (.Call (.Name "enumerate" p) [e] [] pos) (iEnumA X.K ta) where
  run := fun pins s σ H R I hyp => by
    have arg := ha.run pos pins s σ H _ I hyp
    refine Call_ (ld_blt I hg hm boot_enumerate (PyProof.Rows.callWith_type1 (thn arg ?_) hs rfl))
    intro us s1 got
    obtain ⟨vs, H1, I1, rl, a, xs, ev, alt⟩ := got
    subst ev
    obtain ⟨u, rest, eu, ru, rr⟩ : ∃ u rest, us = u :: rest ∧ RelV (.ref a) u ∧ Vals [] rest := by
      cases rl with
      | cons q qs => exact ⟨_, _, rfl, q, qs⟩
    cases rr
    subst eu
    obtain rfl : u = Value.ref a := ru
    have fresh : ∀ b ∈ [s1.heap.objs.size + 1, s1.heap.objs.size], FpOk X pins H1 b := fun b hb => by
      have le : s1.heap.objs.size ≤ b := by
        rcases List.mem_cons.mp hb with z | hb
        · omega
        · have := List.mem_singleton.mp hb; omega
      exact I1.fpOk le (I1.hok.fresh le)
    rcases alt with ⟨sq, q⟩ | ⟨sq, q⟩
    · obtain ⟨its, rv, tt, _⟩ := I1.list sq
      refine call_enumerate_list tt.isList fun g en ti _ kp => wpAny_pyIter_enum en ?_
      exact ⟨s1.heap.objs.size + 1, [s1.heap.objs.size + 1, s1.heap.objs.size], _, _, H1, rfl, I1.kept (t' := s1.toks) kp, turn_enum a (s1.heap.objs.size + 1) s1.heap.objs.size, ⟨⟨.none, en⟩, ti, Nat.succ_ne_self _⟩, fresh, q⟩
    · obtain ⟨its, rv, tt, _⟩ := I1.tuple sq
      refine call_enumTup (xs := its.toArray) tt fun g en ti kp => wpAny_pyIter_enum en ?_
      exact ⟨s1.heap.objs.size + 1, [s1.heap.objs.size + 1, s1.heap.objs.size], _, _, H1, rfl, I1.kept (t' := s1.toks) kp, turn_enumT a (s1.heap.objs.size + 1) s1.heap.objs.size, ⟨⟨.none, en⟩, ti, Nat.succ_ne_self _⟩, fresh, q⟩
def enumM (as : M (List D)) : M Src := bnd as fun ds => lift fun st => match ds with
  | [x] => (srcOf st x).map fun s => (⟨pairs (rng 0 s.xs.length) s.xs, s.ok⟩, st)
  | _ => none
theorem rng_get {n i : Nat} {d : D} (h : (rng 0 n)[i]? = some d) : d = .int (i : Nat) := by
  unfold rng at h
  rw [List.getElem?_map] at h
  cases e : (List.range n)[i]? with
  | none => rw [e] at h; cases h
  | some k =>
    rw [e] at h; cases h
    obtain ⟨_, q⟩ := List.getElem?_eq_some_iff.mp e
    rw [List.getElem_range] at q
    subst q
    show D.int (0 + (i : Int)) = _
    rw [Int.zero_add]
theorem i_enum {X : Cx} {C : Ctx} {W : WX} {e : Expr} {as : M (List D)} {p pos tpos : Pos} {elts : List Expr} {kk : Nat} (hK : C.K = X.K := by rfl) (hg : Gl X "enumerate") (hm : X.mg "enumerate" = none) (ha : PA X [e] (ta C W as))
    (hs : starEach [e] X.env = [(false, eval e X.env)] := by rfl) : PI X (.Tuple elts kk tpos) (.Call (.Name "enumerate" p) [e] [] pos) (ti C W (enumM as)) :=
  (pi_enumA hg hm ha hs).imp fun σ H R ⟨env, st, B, e, r, q⟩ => by
    subst e
    refine (seq r q).mono fun vs H1 ⟨ds, st1, B1, e1, x1, r1, p1, k1⟩ => ?_
    subst e1
    obtain ⟨s0, st', e, k⟩ := post_lift k1
    split at e
    · rename_i x
      cases es : srcOf st1 x with
      | none => rw [es] at e; cases e
      | some s =>
        rw [es] at e
        cases e
        obtain ⟨v, tt, rfl, qx, h2⟩ := p1.cons_inv
        rw [h2.nil_inv]
        have plen : (pairs (rng 0 s.xs.length) s.xs).length = s.xs.length := by rw [pairs_length, rng_length, Nat.min_self]
        have hlen : (pairs (rng 0 s.xs.length) s.xs).length ≤ sizeLine := by rw [plen]; exact src_len r1.h es qx
        rcases src_list r1.h es qx with ⟨a, us, rfl, hqa, rfl⟩ | ⟨hta, a, us, rfl, hqa, ka⟩
        · refine ⟨a, us, rfl, .inr ⟨hK ▸ hqa, k _ B1 (Ext.refl _ _) r1 ⟨hlen, fun B2 st2 i kk R2 ok => ?_⟩⟩⟩
          obtain ⟨a', u1, e1, z1, q1, t1⟩ := (kk _ _ qx).tup_inv
          cases e1
          rw [← hK]
          refine ⟨fun hi => ⟨u1, q1, by rw [t1.length]; rw [← plen]; exact hi⟩, fun d hd => ?_⟩
          obtain ⟨dx, dy, hx, hy, rfl⟩ := pairs_get hd
          have ex := rng_get hx
          subst ex
          obtain ⟨w2, hw2, r2'⟩ := t1.get hy
          refine ⟨⟨u1, w2, q1, hw2⟩, fun z H3 hyl => ?_⟩
          obtain ⟨T, zy, rfl, nT, rfl, f2⟩ := hyl
          have g2 := f2 u1 q1; rw [hw2] at g2; cases g2
          obtain ⟨x3, r3, q3⟩ := new_tuple R2 nT (by show 2 ≤ sizeLine; decide) (.cons rep_int (.cons r2' .nil))
          exact ⟨_, rfl, x3, r3, q3⟩
        · refine ⟨a, us, rfl, .inl ⟨hK ▸ hqa, k _ B1 (Ext.refl _ _) r1 ⟨hlen, fun B2 st2 i kk R2 ok => ?_⟩⟩⟩
          obtain ⟨u1, q1, z1, t1⟩ := ka B2 st2 (kk _ _ qx) R2 ok
          rw [← hK]
          refine ⟨fun hi => ⟨u1, q1, by rw [t1.length]; rw [← plen]; exact hi⟩, fun d hd => ?_⟩
          obtain ⟨dx, dy, hx, hy, rfl⟩ := pairs_get hd
          have ex := rng_get hx
          subst ex
          obtain ⟨w2, hw2, r2'⟩ := t1.get hy
          refine ⟨⟨u1, w2, q1, hw2⟩, fun z H3 hyl => ?_⟩
          obtain ⟨T, zy, rfl, nT, rfl, f2⟩ := hyl
          have g2 := f2 u1 q1; rw [hw2] at g2; cases g2
          obtain ⟨x3, r3, q3⟩ := new_tuple R2 nT (by show 2 ≤ sizeLine; decide) (.cons rep_int (.cons r2' .nil))
          exact ⟨_, rfl, x3, r3, q3⟩
    · cases e
end Ly
/-! A tuple backwards: t[::-1]. -/
namespace Ly
open PySem PySem.Spec PyProof.Rows L2
theorem adj_back (n : Nat) : Builtin.Slice.sliceAdjust none none (-1) (n : Int) = ((n : Int) - 1, -1) := rfl
theorem plc_back (n : Nat) : Builtin.Slice.slicePlaces ((n : Int) - 1) (-1) (-1) = n := by
  unfold Builtin.Slice.slicePlaces
  have h : ¬ ((-1 : Int) > 0) := by decide
  rw [if_neg h]
  have e : -(-1 : Int) = 1 := rfl
  rw [e, Int.ediv_one]
  split <;> omega
section
variable {prog : Program} {w : World} {A : Around} {E : Value → Shared → Prop} {s : Shared}
theorem applied_back {z : Addr} {k : Tok} {n : Nat} {Q : Int × Int × Nat → Shared → Prop} (hz : s.heap.IsSliceOf z .none .none (.int (-1) k)) (q : Q ((n : Int) - 1, -1, n) s) :
    wpAny (model prog w) A (Builtin.Slice.sliceApplied (.ref z) (pure (n : Int))) Q E s := by
  obtain ⟨oz, h1, _, h2⟩ := id hz
  unfold Builtin.Slice.sliceApplied Builtin.Slice.sliceFields
  refine wpAny_bind (wpAny_bind (wpAny_field h1 h2 (x := .none) rfl (wpAny_bind (wpAny_field h1 h2 (x := .none) rfl (wpAny_bind (wpAny_field h1 h2 (x := .int (-1) k) rfl (wpAny_pure ?_)))))))
  refine wpAny_bind (HT.slicePart_ (.int (-1) k) ?_)
  show wpAny _ _ (if ((-1 : Int) == 0) = true then _ else _) _ _ s
  rw [if_neg (by decide)]
  refine wpAny_bind (HT.slicePart_ .none (wpAny_bind (HT.slicePart_ .none (wpAny_bind (wpAny_pure ?_)))))
  show wpAny _ _ (match Builtin.Slice.sliceAdjust none none (-1) (n : Int) with | (u, v) => pure (u, (-1 : Int), Builtin.Slice.slicePlaces u v (-1))) _ _ s
  rw [adj_back]
  show wpAny _ _ (pure ((n : Int) - 1, (-1 : Int), Builtin.Slice.slicePlaces ((n : Int) - 1) (-1) (-1))) _ _ s
  rw [plc_back]
  exact wpAny_pure q
theorem picked_back (xs : Array Value) : ((List.range xs.size).filterMap fun (m : Nat) => xs[((xs.size : Int) - 1 + (m : Int) * -1).toNat]?).toArray = xs.toList.reverse.toArray := by
  congr 1
  refine List.ext_getElem? fun i => ?_
  have gen : ∀ (L : List Nat), (∀ m ∈ L, m < xs.size) → L.filterMap (fun (m : Nat) => xs[((xs.size : Int) - 1 + (m : Int) * -1).toNat]?) = L.map fun (m : Nat) => xs.getD (xs.size - 1 - m) .none := by
    intro L
    induction L with
    | nil => intro _; rfl
    | cons m L ih =>
      intro hL
      have hm := hL m List.mem_cons_self
      have e2 : ((xs.size : Int) - 1 + (m : Int) * -1).toNat = xs.size - 1 - m := by omega
      have lt : xs.size - 1 - m < xs.size := by omega
      have e3 : xs[xs.size - 1 - m]? = some (xs.getD (xs.size - 1 - m) .none) := by simp [Array.getD, lt]
      rw [List.filterMap_cons, List.map_cons, e2, e3, ih fun k hk => hL k (List.mem_cons_of_mem _ hk)]
  have e := gen (List.range xs.size) fun m hm => List.mem_range.mp hm
  rw [e, List.getElem?_map]
  by_cases h : i < xs.size
  · rw [List.getElem?_range h, List.getElem?_reverse (by simpa using h)]
    have lt : xs.size - 1 - i < xs.size := by omega
    simp [Array.getD, lt]
  · rw [List.getElem?_eq_none (by simp; omega), List.getElem?_eq_none (by simp; omega)]
    rfl
theorem tuple_back {t z : Addr} {xs : Array Value} {k : Tok} {Q : Value → Shared → Prop} (ht : IsTup s.heap t xs) (hz : s.heap.IsSliceOf z .none .none (.int (-1) k)) (small : xs.size ≤ sizeLine)
    (q : Q (.ref s.heap.objs.size) { s with heap := s.heap.push { cls := .type "tuple", data := .seq xs.toList.reverse.toArray } }) : wpAny (model prog w) A (getItem (.ref t) (.ref z)) Q E s := by
  have fits : sizeOk (.seq xs.toList.reverse.toArray) := by
    show xs.toList.reverse.toArray.size ≤ sizeLine
    rw [List.size_toArray, List.length_reverse, Array.length_toList]
    exact small
  obtain ⟨oz, h1, h2, h3⟩ := id hz
  have isSl : s.TypeIs (.ref z) "slice" := ⟨oz, h1, h2⟩
  unfold getItem
  try with_reducible refine wpAny_holding ?_
  first | refine wpAny_bind (wpAny_pure ?_) | skip
  refine wpAny_bind (wpAny_sequenceKey ht.typeIs (by decide) ?_)
  refine wpAny_bind (wpAny_callSpecial?_slot (name := Str.ofString "__getitem__") ht.typeIs slot_tuple_getitem (wpAny_call_entry slot_tuple_getitem ht.typeIs entry_tuple_getitem ?_ (args_tuple_getitem _ _)))
  show wpAny _ _ (Builtin.Tuple.tupleItemsOf (.ref t) >>= _) _ _ s
  refine wpAny_bind (tupleItemsOf_ ht (wpAny_bind (wpAny_typeOf isSl ?_)))
  rw [if_pos (by decide)]
  refine wpAny_bind (applied_back hz ?_)
  show wpAny _ _ (if (((xs.size : Int) - 1 == 0 && (-1 : Int) == 1 && xs.size == xs.size)) = true then _ else _) _ _ s
  have no : ¬ (((xs.size : Int) - 1 == 0 && (-1 : Int) == 1 && xs.size == xs.size) = true) := by simp
  rw [if_neg no, picked_back]
  first
    | exact wpAny_bind (m := Builtin.Tuple.tupleExact _) (wpAny_newObj_type (wpAny_pure ⟨_, rfl, wpAny_pure q⟩) fits)
    | exact wpAny_bind (m := Builtin.Tuple.tupleExact _) (wpAny_newObj_type (wpAny_bind (wpAny_pure (wpAny_pure ⟨_, rfl, wpAny_pure q⟩))) fits)
    | exact wpAny_bind (wpAny_bind (m := Builtin.Tuple.tupleExact _) (wpAny_newObj_type (wpAny_pure (wpAny_pure ⟨_, rfl, wpAny_pure q⟩)) fits))
    | exact wpAny_bind (wpAny_bind (m := Builtin.Tuple.tupleExact _) (wpAny_newObj_type (wpAny_pure ⟨_, rfl, wpAny_pure q⟩) fits))
end
/-- x[::-1], x a list or a tuple -/
def tBack (K : PySem.W.Frag) (te : TE) : TE := fun σ H Q => te σ H fun x H1 => ∃ a xs, x = .ref a ∧
  ((SqL K H1 a xs ∧ ∀ p, H1 p = none → Q (.ref p) (upd H1 p (.lst xs.reverse))) ∨ (SqT K H1 a xs ∧ ∀ p, H1 p = none → Q (.ref p) (upd H1 p (.tup xs.reverse))))
theorem pe_back {X : Cx} {e : Expr} {te : TE} {k : Nat} {p1 p2 p3 pos : Pos} (he : PE X e te) : PE X (.Subscript e (.Slice none none (some (.UnaryOp .USub (.Constant (.int 1) k p1) p2)) p3) pos) (tBack X.K te) where
  run := fun pins s σ H Q I hyp => by
    have step : PO X (some (.UnaryOp .USub (.Constant (.int 1) k p1) p2)) (tPart (tUn (rU fun i => .int (-i)) (tC (.int 1)))) := po_some (pe_un un_neg pe_int)
    refine Subscript_ (thn (he.run pins s σ H _ I hyp) ?_)
    intro v s1 got
    obtain ⟨x, H1, I1, rx, a, xs, ex, alt⟩ := got
    subst ex
    obtain rfl : v = Value.ref a := rx
    refine wpAny_Slice (thn (po_none.run pins s1 σ H1 (fun o G => o = none ∧ G = H1) I1 ⟨rfl, rfl⟩) ?_)
    intro v1 s2 g1
    obtain ⟨o1, G1, I2, q1, eo1, eg1⟩ := g1
    subst eo1 eg1
    cases q1
    refine thn (po_none.run pins s2 σ G1 (fun o G => o = none ∧ G = G1) I2 ⟨rfl, rfl⟩) ?_
    intro v2 s3 g2
    obtain ⟨o2, G2, I3, q2, eo2, eg2⟩ := g2
    subst eo2 eg2
    cases q2
    refine thn (step.run pins s3 σ G2 (fun o G => o = some (-1) ∧ G = G2) I3 ⟨1, rfl, -1, rfl, rfl, rfl⟩) ?_
    intro v3 s4 g3
    obtain ⟨o3, G3, I4, q3, eo3, eg3⟩ := g3
    subst eo3 eg3
    have I5 : Inv X pins σ G3 { s4 with heap := s4.heap.push { cls := .type "slice", data := .fields #[.none, .none, v3] } } := I4.kept (t' := s4.toks) fun b ob q => Heap.get?_push_of_some _ q
    show wpAny (model X.prog X.w) X.A (subscriptTail e (.Slice none none (some (.UnaryOp .USub (.Constant (.int 1) k p1) p2)) p3) (.ref a) (.ref s4.heap.objs.size)) (EP X pins σ Q) X.xe { s4 with heap := s4.heap.push { cls := .type "slice", data := .fields #[.none, .none, v3] } }
    rcases alt with ⟨sq, q⟩ | ⟨sq, q⟩
    · obtain ⟨its, rv, tt, hz⟩ := I5.list sq
      have ln := rv.length
      refine tail_any (ops := [.ref a, .ref s4.heap.objs.size]) tt.isList.typeIs slot_list_getitem.lookup ?_ (by with_unfolding_all rfl)
      refine wpAny_getItem_list_slice tt.isList (Heap.IsSliceOf.new _ .none .none v3) .none .none q3 (by decide) ?_ (by rw [List.size_toArray]; omega)
      rw [PySem.W.krv_pick]
      have nw := I5.laid (t' := s4.toks) (a := (s4.heap.push { cls := .type "slice", data := .fields #[.none, .none, v3] }).objs.size) (o := .lst xs.reverse) (fun b ob z => Heap.get?_push_of_some _ z) (Nat.le_refl _) ⟨by rw [List.length_reverse]; exact hz, _, 0, rv.reverse, Heap.get?_push_size _ rfl⟩
      exact ⟨.ref _, _, nw, rfl, q _ (I5.hok.fresh (Nat.le_refl _))⟩
    · obtain ⟨its, rv, tt, hz⟩ := I5.tuple sq
      have ln := rv.length
      cases q3 with
      | int i tok =>
        refine tail_any (ops := [.ref a, .ref s4.heap.objs.size]) tt.typeIs slot_tuple_getitem.lookup ?_ (by with_unfolding_all rfl)
        refine tuple_back tt (Heap.IsSliceOf.new _ .none .none _) (by rw [List.size_toArray]; omega) ?_
        have nw := I5.laid (t' := s4.toks) (a := (s4.heap.push { cls := .type "slice", data := .fields #[.none, .none, .int (-1) tok] }).objs.size) (o := .tup xs.reverse) (fun b ob z => Heap.get?_push_of_some _ z) (Nat.le_refl _) ⟨by rw [List.length_reverse]; exact hz, _, rv.reverse, ⟨{ cls := .type "tuple", data := .seq its.reverse.toArray }, Heap.get?_push_size _ rfl, rfl, 0, rfl⟩⟩
        exact ⟨.ref _, _, nw, rfl, q _ (I5.hok.fresh (Nat.le_refl _))⟩
def opRev (x : D) (st : Sto) : Option (D × Sto) := match x with
  | .tup xs => some (.tup xs.reverse, st)
  | x => (rdOf st x).map fun xs => (.lst xs.reverse, st)
theorem e_rev {X : Cx} {C : Ctx} {W : WX} {a : Expr} {ca : M D} {k : Nat} {p1 p2 p3 pos : Pos} (hK : C.K = X.K := by rfl) (ha : PE X a (te C W ca)) : PE X (.Subscript a (.Slice none none (some (.UnaryOp .USub (.Constant (.int 1) k p1) p2)) p3) pos) (te C W (un opRev ca)) :=
  (pe_back ha).imp fun σ H Q ⟨env, st, B, e, r, p⟩ => by
    subst e
    refine (seq r p).mono fun v H1 ⟨x, st1, B1, e1, x1, r1, p1, k1⟩ => ?_
    subst e1
    obtain ⟨d, st', e, k⟩ := post_lift k1
    unfold opRev at e
    split at e
    · rename_i xs
      cases e
      obtain ⟨a, us, rfl, hz, hq, t⟩ := p1.tup_inv
      refine ⟨a, us, rfl, .inr ⟨hK ▸ hq, fun p hp => ?_⟩⟩
      obtain ⟨x3, r3, q3⟩ := new_tuple r1.h hp (by rw [List.length_reverse]; exact hz) t.reverse
      exact k (.ref p) _ x3 (r1.of x3 r3) q3
    · cases ex : rdOf st1 x with
      | none => rw [ex] at e; cases e
      | some xs =>
        rw [ex] at e; cases e
        obtain ⟨a, vs, rfl, hq, hz, t⟩ := rdOf_rep r1.h ex p1
        refine ⟨a, vs, rfl, .inl ⟨hK ▸ hq, fun p hp => ?_⟩⟩
        obtain ⟨x2, r2, q⟩ := new_list r1.h hp (by rw [List.length_reverse]; exact hz) t.reverse
        obtain ⟨B2, e2, x3, r3, q3⟩ := q.tree r2
        have e2' : B2.H = upd B1.H p (.lst vs.reverse) := e2
        rw [← e2']
        exact k (.ref p) B2 (x2.trans x3) (r1.of (x2.trans x3) r3) q3
/-! in: flat things first, else data of any depth -/
theorem u65 {A : Around} {k : Nat} (hr : Room k A) : A.units + 65 < cLine := by have := hr.un; omega
def opInA (x y : D) (st : Sto) : Option (D × Sto) := match opIn x y st with
  | some r => some r
  | none => inD false x y st
def opNotInA (x y : D) (st : Sto) : Option (D × Sto) := match opNotIn x y st with
  | some r => some r
  | none => inD true x y st
theorem inA_alt (x y : D) (st : Sto) : opInA x y st = opIn x y st ∨ opInA x y st = inD false x y st := by unfold opInA; cases opIn x y st <;> simp
theorem notInA_alt (x y : D) (st : Sto) : opNotInA x y st = opNotIn x y st ∨ opNotInA x y st = inD true x y st := by unfold opNotInA; cases opNotIn x y st <;> simp
section
variable {X : Cx} {C : Ctx} {W : WX} {a b : Expr} {ca cb : M D} {pos : Pos}
theorem e_inA (hK : C.K = X.K := by rfl) (hu : X.A.units + 65 < cLine) (ha : PE X a (te C W ca)) (hb : PE X b (te C W cb)) (hm : behindInMarks .In b = false := by rfl) : PE X (.Compare a [.In] [b] pos) (te C W (bin opInA ca cb)) :=
  e_cmp ((op_in_sign.or (hK ▸ op_in_seq)).or (hK ▸ op_inD hu)) ((inS_ok.or inF_ok opIn_alt).or inD_ok inA_alt) ha hb hm
theorem e_notInA (hK : C.K = X.K := by rfl) (hu : X.A.units + 65 < cLine) (ha : PE X a (te C W ca)) (hb : PE X b (te C W cb)) (hm : behindInMarks .NotIn b = false := by rfl) : PE X (.Compare a [.NotIn] [b] pos) (te C W (bin opNotInA ca cb)) :=
  e_cmp ((op_notIn_sign.or (hK ▸ op_notIn_seq)).or (hK ▸ op_notInD hu)) ((inS_ok.or inF_ok opNotIn_alt).or notInD_ok notInA_alt) ha hb hm
theorem t_inA (hK : C.K = X.K := by rfl) (hu : X.A.units + 65 < cLine) (ha : PE X a (te C W ca)) (hb : PE X b (te C W cb)) (hm : behindInMarks .In b = false := by rfl) : PT X (.Compare a [.In] [b] pos) (tb C W (tst (bin opInA ca cb))) :=
  t_cmpG ((op_in_sign.or (hK ▸ op_in_seq)).or (hK ▸ op_inD hu)) ((inS_ok.or inF_ok opIn_alt).or inD_ok inA_alt) ha hb hm
theorem t_notInA (hK : C.K = X.K := by rfl) (hu : X.A.units + 65 < cLine) (ha : PE X a (te C W ca)) (hb : PE X b (te C W cb)) (hm : behindInMarks .NotIn b = false := by rfl) : PT X (.Compare a [.NotIn] [b] pos) (tb C W (tst (bin opNotInA ca cb))) :=
  t_cmpG ((op_notIn_sign.or (hK ▸ op_notIn_seq)).or (hK ▸ op_notInD hu)) ((inS_ok.or inF_ok opNotIn_alt).or notInD_ok notInA_alt) ha hb hm
end
@[simp] theorem enumM_run (as : M (List D)) (e : Ev) (st : Sto) : enumM as e st = (as e st).nxt fun ds st1 => match ds with
  | [x] => (match srcOf st1 x with
    | some s => .ok ⟨pairs (rng 0 s.xs.length) s.xs, s.ok⟩ st1
    | none => .bad)
  | _ => .bad := by
  unfold enumM
  rw [bnd_run]
  congr
  funext ds st1
  rw [lift_run]
  match ds with
  | [] => rfl
  | [x] =>
    dsimp only
    cases srcOf st1 x <;> rfl
  | _ :: _ :: _ => rfl
@[simp] theorem opRev_tup (xs : List D) (st : Sto) : opRev (.tup xs) st = some (.tup xs.reverse, st) := rfl
end Ly
/-! abs, len(set(l)). -/
namespace Ly
open PySem PySem.Spec PyProof.Rows L2
def fAbs : List D → Sto → Option (D × Sto)
  | [.int i], st => some (.int (if i < 0 then -i else i), st)
  | _, _ => none
theorem fAbs_ok {C : Ctx} : CallOk C fAbs (fun xs H Q => ∃ i, xs = [.int i] ∧ Q (.int (if i < 0 then -i else i)) H) := fun B st xs vs Q d st' R r e k => by
  unfold fAbs at e
  split at e
  · cases e
    obtain ⟨v, t, rfl, q, h⟩ := r.cons_inv
    rw [h.nil_inv, q.int_inv]
    exact ⟨_, rfl, k _ B (Ext.refl _ _) R rep_int⟩
  · cases e
def opLenSet (x : D) (st : Sto) : Option (D × Sto) := (rdOf st x).bind fun xs => (intsOf xs).bind fun ns => if ns.Nodup ∧ ns.length ≤ 4000 then some (.int ns.length, st) else none
section
variable {X : Cx} {C : Ctx} {W : WX} {e a : Expr} {ca : M D} {as : M (List D)} {p p2 q pos : Pos}
theorem e_abs (hg : Gl X "abs") (hm : X.mg "abs" = none) (ha : PA X [e] (ta C W as)) (he : starEach [e] X.env = (false, eval e X.env) :: starEach [] X.env := by rfl) (hpl : (backTo pos (starEach [] X.env)).any (·.1) = false := by rfl) : PE X (.Call (.Name "abs" p) [e] [] pos) (te C W (calls fAbs as)) :=
  e_callB call_abs fAbs_ok hg hm (by decide +kernel) ha (by decide) (by decide) he hpl
theorem e_lenSet (hc : X.calm = true := by rfl) (hK : C.K = X.K := by rfl) (hg : Gl X "len") (hm : X.mg "len" = none) (hg2 : Gl X "set") (hm2 : X.mg "set" = none) (ha : PE X a (te C W ca)) (na : starEach [a] X.env = (false, eval a X.env) :: starEach [] X.env := by rfl) :
    PE X (.Call (.Name "len" p) [.Call (.Name "set" p2) [a] [] q] [] pos) (te C W (un opLenSet ca)) :=
  (RZ.pe_lenSetI hg hm hg2 hm2 ha hc na).imp fun σ H Q ⟨env, st, B, e, r, k0⟩ => by
    subst e
    refine (seq r k0).mono fun v H1 ⟨x, st1, B1, e1, x1, r1, p1, k1⟩ => ?_
    subst e1
    obtain ⟨d, st', e, k⟩ := post_lift k1
    unfold opLenSet at e
    cases ex : rdOf st1 x with
    | none => rw [ex] at e; cases e
    | some xs =>
      cases en : intsOf xs with
      | none => rw [ex, Option.bind_some, en] at e; cases e
      | some ns =>
        rw [ex, Option.bind_some, en, Option.bind_some] at e
        split at e
        · rename_i hc2
          cases e
          have ey := intsOf_eq en
          subst ey
          obtain ⟨a, vs, rfl, hq, hz, t⟩ := rdOf_rep r1.h ex p1
          have ev := ints_rep t
          subst ev
          exact ⟨a, ns, rfl, hK ▸ hq, hc2.1, hc2.2, k _ B1 (Ext.refl _ _) r1 rep_int⟩
        · cases e
end
/-! len(set(l)), l of int tuples, no two alike -/
def tLenSetT (K : PySem.W.Frag) (ta : TE) : TE := fun σ H Q => ta σ H fun x H1 => ∃ (l : Addr) (ks : List (Addr × List Int)), x = V.ref l ∧ SqL K H1 l (ks.map fun p => V.ref p.1) ∧ (∀ p ∈ ks, SqT K H1 p.1 (p.2.map V.int)) ∧ ks.length < 64 ∧ (ks.map (·.2)).Nodup ∧ Q (.int ks.length) H1
theorem pe_lenSetT {X : Cx} {a : Expr} {ta : TE} {p p2 q pos : Pos} (hc : X.calm = true) (hu : X.A.units + 64 < cLine) (hg : Gl X "len") (hm : X.mg "len" = none) (hg2 : Gl X "set") (hm2 : X.mg "set" = none) (ha : PE X a ta)
    (na : starEach [a] X.env = (false, eval a X.env) :: starEach [] X.env := by rfl) : PE X (.Call (.Name "len" p) [.Call (.Name "set" p2) [a] [] q] [] pos) (tLenSetT X.K ta) where
  run := fun pins s σ H Q I hyp => by
    have inner := ha.run pins s σ H _ I hyp
    refine Call_ (ld_blt I hg hm PySem.boot_len (PyProof.Rows.callWith_builtin1 (PyProof.Rows.args_cons ?_ rfl) rfl rfl))
    refine Call_ (ld_blt I hg2 hm2 PyProof.Rows.boot_set (PyProof.Rows.callWith_type1 (PyProof.Rows.args_cons (thn inner ?_) na) na rfl))
    intro v s1 got
    obtain ⟨x, H1, I1, rx, l, ks, ex, sq, tups, few, nd, q1⟩ := got
    subst ex
    obtain rfl : v = Value.ref l := rx
    refine PyProof.Rows.args_nil ?_
    obtain ⟨its, rv, pl, _⟩ := I1.list sq
    refine call_set_tups (P := X.prog) (w := X.w) ks (I1.ok.hd hc) pl.isList (by simpa using refs_of_vals rv) (fun z hz => I1.isT (tups z hz)) few (by omega) fun g tk L es ep t R G kp => ?_
    refine PyProof.Rows.args_nil ?_
    have I2 : Inv X pins σ H1 { s1 with heap := g, toks := tk } := I1.kept kp
    have same : L.length = ks.length := by
      have p1 : (L.map (·.2)).length ≤ (ks.map (·.2)).length := R.nd.length_le_of_subset fun z hz => by
        obtain ⟨y, hy, e⟩ := List.mem_map.mp hz
        exact List.mem_map.mpr ⟨y, List.mem_of_mem_take (G.sub y hy), e⟩
      have p2 : (ks.map (·.2)).length ≤ (L.map (·.2)).length := nd.length_le_of_subset fun z hz => by
        obtain ⟨y, hy, e⟩ := List.mem_map.mp hz
        rw [← e]
        exact G.all y (by rw [List.take_length]; exact hy)
      rw [List.length_map, List.length_map] at p1 p2
      omega
    obtain ⟨o, ho, hex, hd⟩ := R.ob
    have esz : es.size = L.length := R.size (s := { s1 with heap := g })
    exact call_len_set ho hex hd (R.fits (s := { s1 with heap := g })) (by rw [esz]; omega) ⟨.int ks.length, H1, I2.tok _, ⟨_, by rw [esz, same]⟩, q1⟩
def opLenSetT (x : D) (st : Sto) : Option (D × Sto) := (rdOf st x).bind fun xs => (tupsI xs).bind fun L => if L.Nodup ∧ L.length < 64 then some (.int L.length, st) else none
def opLenSetA (x : D) (st : Sto) : Option (D × Sto) := match opLenSet x st with
  | some r => some r
  | none => opLenSetT x st
theorem lenSet_alt (ca : M D) (e : Ev) (st : Sto) : un opLenSetA ca e st = un opLenSet ca e st ∨ un opLenSetA ca e st = un opLenSetT ca e st := by
  rw [un_run, un_run, un_run]
  cases ca e st with
  | ok x st1 =>
    rw [nxt_ok, nxt_ok, nxt_ok]
    unfold opLenSetA
    cases h : opLenSet x st1 with
    | some r => exact .inl rfl
    | none => exact .inr rfl
  | exc _ _ => exact .inl rfl
  | bad => exact .inl rfl
theorem keys_of {C : Ctx} {B : Bd} : ∀ {L : List (List Int)} {vs : List V}, RepL C B (L.map tupD) vs → ∃ ks : List (Addr × List Int), vs = ks.map (fun p => V.ref p.1) ∧ ks.map (·.2) = L ∧ ∀ p ∈ ks, SqT C.K B.H p.1 (p.2.map V.int)
  | [], _, h => ⟨[], h.nil_inv, rfl, fun _ hp => by cases hp⟩
  | l :: L, vs, h => by
    obtain ⟨v, r, rfl, q, t⟩ := h.cons_inv
    obtain ⟨ks, e1, e2, e3⟩ := keys_of t
    obtain ⟨a, ea, sa⟩ := tupI_of q
    subst ea e1
    refine ⟨(a, l) :: ks, rfl, by rw [List.map_cons, e2], fun p hp => ?_⟩
    rcases List.mem_cons.mp hp with rfl | hp
    · exact sa
    · exact e3 p hp
theorem pe_or {X : Cx} {e : Expr} {t1 t2 : TE} (h1 : PE X e t1) (h2 : PE X e t2) : PE X e (fun σ H Q => t1 σ H Q ∨ t2 σ H Q) where
  run := fun pins s σ H Q I hyp => by
    rcases hyp with h | h
    · exact h1.run pins s σ H Q I h
    · exact h2.run pins s σ H Q I h
theorem e_lenSetT {X : Cx} {C : Ctx} {W : WX} {a : Expr} {ca : M D} {p p2 q pos : Pos} (hc : X.calm = true := by rfl) (hu : X.A.units + 64 < cLine) (hK : C.K = X.K := by rfl) (hg : Gl X "len") (hm : X.mg "len" = none) (hg2 : Gl X "set") (hm2 : X.mg "set" = none) (ha : PE X a (te C W ca)) (na : starEach [a] X.env = (false, eval a X.env) :: starEach [] X.env := by rfl) :
    PE X (.Call (.Name "len" p) [.Call (.Name "set" p2) [a] [] q] [] pos) (te C W (un opLenSetT ca)) :=
  (pe_lenSetT hc hu hg hm hg2 hm2 ha na).imp fun σ H Q ⟨env, st, B, e, r, k0⟩ => by
    subst e
    refine (seq r k0).mono fun v H1 ⟨x, st1, B1, e1, x1, r1, p1, k1⟩ => ?_
    subst e1
    obtain ⟨d, st', e, k⟩ := post_lift k1
    unfold opLenSetT at e
    cases ex : rdOf st1 x with
    | none => rw [ex] at e; cases e
    | some xs =>
      cases en : tupsI xs with
      | none => rw [ex, Option.bind_some, en] at e; cases e
      | some L =>
        rw [ex, Option.bind_some, en, Option.bind_some] at e
        split at e
        · rename_i hc2
          cases e
          have ey := tupsI_eq en
          subst ey
          obtain ⟨a, vs, rfl, hq, hz, t⟩ := rdOf_rep r1.h ex p1
          obtain ⟨ks, e1, e2, e3⟩ := keys_of t
          subst e1
          have kl : ks.length = L.length := by rw [← e2, List.length_map]
          exact ⟨a, ks, rfl, hK ▸ hq, hK ▸ e3, by omega, by rw [e2]; exact hc2.1, by rw [kl]; exact k _ B1 (Ext.refl _ _) r1 rep_int⟩
        · cases e
theorem e_lenSetA {X : Cx} {C : Ctx} {W : WX} {a : Expr} {ca : M D} {p p2 q pos : Pos} (hc : X.calm = true := by rfl) (hu : X.A.units + 64 < cLine) (hK : C.K = X.K := by rfl) (hg : Gl X "len") (hm : X.mg "len" = none) (hg2 : Gl X "set") (hm2 : X.mg "set" = none) (ha : PE X a (te C W ca)) (na : starEach [a] X.env = (false, eval a X.env) :: starEach [] X.env := by rfl) :
    PE X (.Call (.Name "len" p) [.Call (.Name "set" p2) [a] [] q] [] pos) (te C W (un opLenSetA ca)) :=
  (pe_or (e_lenSet hc hK hg hm hg2 hm2 ha na) (e_lenSetT hc hu hK hg hm hg2 hm2 ha na)).imp fun σ H Q ⟨env, st, B, e, r, k0⟩ => by
    rcases lenSet_alt ca env st with z | z
    · exact .inl ⟨env, st, B, e, r, by rw [← z]; exact k0⟩
    · exact .inr ⟨env, st, B, e, r, by rw [← z]; exact k0⟩
end Ly
/-! Instances of own classes: attributes, methods, making. -/
namespace Ly
open PySem PySem.Spec PyProof.Rows L2

/-! ### attributes by name -/
def lk : List Str → List D → Str → Option D
  | k :: ks, x :: xs, f => if k = f then some x else lk ks xs f
  | _, _, _ => none
def putK (f : Str) : List Str → List Str
  | [] => [f]
  | k :: ks => if k = f then k :: ks else k :: putK f ks
def putX (f : Str) (d : D) : List Str → List D → List D
  | [], _ => [d]
  | k :: ks, x :: xs => if k = f then d :: xs else x :: putX f d ks xs
  | _ :: _, [] => []
section
variable {C : Ctx} {B : Bd}
theorem lk_some {f : Str} {d : D} : ∀ {fvs : List (Str × V)} {xs : List D}, RepL C B xs (fvs.map (·.2)) → lk (fvs.map (·.1)) xs f = some d → ∃ v, fvs.lookup f = some v ∧ Rep C B d v
  | [], xs, _, h => by simp [lk] at h
  | (k, u) :: r, [], h, _ => by
    have := h.nil_inv
    simp at this
  | (k, u) :: r, x :: xs, h, e => by
    obtain ⟨v, t, ev, q, h⟩ := h.cons_inv
    simp at ev
    obtain ⟨rfl, rfl⟩ := ev
    rw [List.map_cons] at e
    unfold lk at e
    split at e
    · rename_i hk
      cases e
      exact ⟨u, by rw [List.lookup_cons]; simp [show k = f from hk], q⟩
    · rename_i hk
      obtain ⟨v, h1, h2⟩ := lk_some h e
      have hk' : (f == k) = false := beq_eq_false_iff_ne.mpr fun z => hk z.symm
      exact ⟨v, by rw [List.lookup_cons, hk']; exact h1, h2⟩
theorem lk_none {f : Str} : ∀ {fvs : List (Str × V)}, f ∉ fvs.map (·.1) → fvs.lookup f = none
  | [], _ => rfl
  | (k, u) :: r, h => by
    rw [List.map_cons, List.mem_cons, not_or] at h
    have hk' : (f == k) = false := beq_eq_false_iff_ne.mpr h.1
    rw [List.lookup_cons, hk']
    exact lk_none h.2
theorem put_rep {f : Str} {d : D} {v : V} (q : Rep C B d v) : ∀ {fvs : List (Str × V)} {xs : List D}, RepL C B xs (fvs.map (·.2)) → (putF f v fvs).map (·.1) = putK f (fvs.map (·.1)) ∧ RepL C B (putX f d (fvs.map (·.1)) xs) ((putF f v fvs).map (·.2))
  | [], xs, h => ⟨rfl, .cons q .nil⟩
  | (k, u) :: r, [], h => by
    have := h.nil_inv
    simp at this
  | (k, u) :: r, x :: xs, h => by
    obtain ⟨v', t, ev, q', h⟩ := h.cons_inv
    simp at ev
    obtain ⟨rfl, rfl⟩ := ev
    obtain ⟨i1, i2⟩ := put_rep q h
    rw [List.map_cons]
    unfold putF putK putX
    by_cases hk : k = f
    · simp only [if_pos hk]
      exact ⟨rfl, .cons q h⟩
    · simp only [if_neg hk]
      exact ⟨by rw [List.map_cons, i1], .cons q' i2⟩
end

/-! ### what of the text a class must have -/
structure AttrF (K : PySem.W.Frag) (mg : Str → Option Value) (c f : Str) : Prop where
  ex : ∃ Ca, mg c = some (.ref Ca) ∧ Cls K Ca ∧ NoAttr K Ca f
structure MethF (K : PySem.W.Frag) (mg : Str → Option Value) (c m qual : Str) (st : Stmt) (ps : List Str) : Prop where
  ex : ∃ Ca f fd, mg c = some (.ref Ca) ∧ Cls K Ca ∧ Meth K Ca m f ∧ Fun K m qual st f fd ∧ Binds K fd ps []
structure InitF (K : PySem.W.Frag) (mg : Str → Option Value) (c qual : Str) (st : Stmt) (ps : List Str) : Prop where
  ex : ∃ Ca f fd, mg c = some (.ref Ca) ∧ Mk K Ca f ∧ Fun K "__init__" qual st f fd ∧ Binds K fd ps []

/-! ### e.f -/
def attrD (c f : Str) (d : D) (st : Sto) : Option (D × Sto) := match d with
  | .ref i => (match st[i]? with
    | some (.ins c' ks xs) => if c' = c then (lk ks xs f).map fun d => (d, st) else none
    | _ => none)
  | _ => none
/-- an instance at a place -/
theorem ref_ins {C : Ctx} {B : Bd} {st : Sto} {i : Nat} {c : Str} {ks : List Str} {xs : List D} {v : V} (R : RelH C B st) (e : st[i]? = some (.ins c ks xs)) (r : Rep C B (.ref i) v) :
    ∃ a Ca dx fvs, v = .ref a ∧ B.m[i]? = some a ∧ C.mg c = some (.ref Ca) ∧ B.H a = some (.ins Ca dx fvs) ∧ fvs.map (·.1) = ks ∧ RepL C B xs (fvs.map (·.2)) := by
  obtain ⟨a, ha, rfl⟩ := r.ref_inv
  obtain ⟨Ca, dx, fvs, g, hH, hk, t⟩ := R.cell i _ a e ha
  exact ⟨a, Ca, dx, fvs, rfl, ha, g, hH, hk, t⟩
section
variable {X : Cx} {C : Ctx} {W : WX} {e o : Expr} {es : List Expr} {co ce : M D} {as : M (List D)} {c f m : Str} {pos apos p : Pos}
theorem e_attr (hK : C.K = X.K := by rfl) (hM : C.mg = X.mg := by rfl) (F : AttrF X.K X.mg c f) (he : PE X e (te C W co)) (hb : attributeBase e f X.env (eval e X.env) = eval e X.env := by rfl) : PE X (.Attribute e f pos) (te C W (un (attrD c f) co)) := by
  obtain ⟨Ca, g, cl, na⟩ := F.ex
  refine (pe_fld he hb).imp fun σ H Q ⟨env, st, B, e, rr, q⟩ => ?_
  subst e
  refine (seq rr q).mono fun v H1 ⟨d, st1, B1, e1, x1, r1, p1, k1⟩ => ?_
  subst e1
  obtain ⟨d', st', ed, k⟩ := post_lift k1
  unfold attrD at ed
  cases d with
  | ref i =>
    dsimp only at ed
    cases ec : st1[i]? with
    | none => rw [ec] at ed; cases ed
    | some cc =>
      rw [ec] at ed
      cases cc with
      | ins c' ks xs =>
        dsimp only at ed
        split at ed
        · rename_i hc
          subst hc
          cases el : lk ks xs f with
          | none => rw [el] at ed; cases ed
          | some dd =>
            rw [el] at ed; cases ed
            obtain ⟨a, Cb, dx, fvs, rfl, ha, g', hH, hk, t⟩ := ref_ins r1.h ec p1
            rw [hM, g] at g'
            cases g'
            obtain ⟨u, hu, ru⟩ := lk_some t (by rw [hk]; exact el)
            exact ⟨a, Ca, dx, fvs, u, rfl, hH, cl, na, hu, k u B1 (Ext.refl _ _) r1 ru⟩
        · cases ed
      | lst _ => cases ed
      | dct _ _ => cases ed
      | dtt _ _ => cases ed
  | _ => cases ed
/-! ### o.f = e -/
def mfld (c f : Str) (o v : M D) : MS := mk v fun x => mk o fun y => fun env st => match y with
  | .ref i => (match st[i]? with
    | some (.ins c' ks xs) => if c' = c ∧ ks.length < 1000 then .nx env (st.set i (.ins c (putK f ks) (putX f x ks xs))) else .bad
    | _ => .bad)
  | _ => .bad
theorem s_fld {pos' : Pos} (hK : C.K = X.K := by rfl) (hM : C.mg = X.mg := by rfl) (F : AttrF X.K X.mg c f) (ho : PE X o (te C W co)) (he : PE X e (te C W ce)) (hs : swapsWith e (some (.Attribute o f pos')) pos.line X.env = pure false := by rfl) : PS X (.Assign [.Attribute o f pos'] e pos) (ts C W (mfld c f co ce)) := by
  obtain ⟨Ca, g, cl, na⟩ := F.ex
  refine (ps_fld ho he hs).imp fun E σ H ⟨env, st, B, e, r, q⟩ => ?_
  subst e
  refine (seqS r q).mono fun v H1 ⟨dx, st1, B1, e1, x1, r1, p1, k1⟩ => ?_
  subst e1
  refine (seqS r1 k1).mono fun vo H2 ⟨dy, st2, B2, e2, x2, r2, p2, k2⟩ => ?_
  subst e2
  cases dy with
  | ref i =>
    dsimp only at k2
    cases ec : st2[i]? with
    | none => rw [ec] at k2; exact k2.elim
    | some cc =>
      rw [ec] at k2
      cases cc with
      | ins c' ks xs =>
        dsimp only at k2
        split at k2
        · rename_i hc
          obtain ⟨hc, hl⟩ := hc
          subst hc
          obtain ⟨a, Cb, dx', fvs, rfl, ha, g', hH, hk, t⟩ := ref_ins r2.h ec p2
          have g2 := g'
          rw [hM, g] at g'
          cases g'
          have hl' : fvs.length < 1000 := by rw [← hk, List.length_map] at hl; exact hl
          have p1' := p1.mono x2
          obtain ⟨x4, r4⟩ := r2.h.write (o := .ins Ca dx' (putF f v fvs)) (c := .ins c' (putK f ks) (putX f dx ks xs)) ha fun B' x e => by
            obtain ⟨i1, i2⟩ := put_rep (p1'.mono x) (t.mono x)
            rw [hk] at i1 i2
            exact ⟨Ca, dx', _, g2, e, i1, i2⟩
          exact ⟨a, Ca, dx', fvs, rfl, hH, cl, na, hl', k2 σ _ x4 (r2.of x4 r4)⟩
        · exact k2.elim
      | lst _ => exact k2.elim
      | dct _ _ => exact k2.elim
      | dtt _ _ => exact k2.elim
  | _ => exact k2.elim
end

/-! ### methods -/
/-- a method at its class -/
structure Dm (P : Program) (w : World) (K : PySem.W.Frag) (mg : Str → Option Value) (base : Heap) (C : Ctx) (k : Nat) (c m : Str) (n : Nat) (f : List D → Sto → R D) : Prop where
  ex : ∃ Ca fa fd ps, mg c = some (.ref Ca) ∧ Cls K Ca ∧ Meth K Ca m fa ∧ FnOk P w K mg base (L2.CX P w) k fa fd ps (spOf C n f) ∧ Binds K fd ps []
  ar : ∀ ds st, ds.length ≠ n → f ds st = .bad
structure Dn (P : Program) (w : World) (K : PySem.W.Frag) (mg : Str → Option Value) (base : Heap) (C : Ctx) (k : Nat) (c : Str) (n : Nat) (f : List D → Sto → R D) : Prop where
  ex : ∃ Ca fa fd ps, mg c = some (.ref Ca) ∧ Mk K Ca fa ∧ FnOk P w K mg base (L2.CX P w) k fa fd ps (spOf C n f) ∧ Binds K fd ps []
  ar : ∀ ds st, ds.length ≠ n → f ds st = .bad
section
variable {P : Program} {w : World} {K : PySem.W.Frag} {mg : Str → Option Value} {base : Heap}
theorem dm_ok {c m qual : Str} {st : Stmt} {N ps : List Str} {k : Nat} {C : Ctx} {body : MS} (F : MethF K mg c m qual st ps) (S : FnScope N ps (defScope st))
    (hb : ∀ (f : Addr) (cdv : Value) (A : Around) (outer : List Env) (s : Shared) (H : Hp) (E : XK), Room k (A.deeper (envOfC qual (defScope st) s.heap.objs.size f cdv)) →
      PSs (cxOf (L2.CX P w) P w K mg base N qual (defScope st) f cdv A outer s H E) (defBody st) (ts C (fun cls d _ H => E cls d H) body)) :
    Dm P w K mg base C (k + 1) c m ps.length (fn ps.length N.length body) := by
  obtain ⟨Ca, f, fd, g, cl, me, h, b⟩ := F.ex
  exact ⟨⟨Ca, f, fd, ps, g, cl, me, fn_ok h S (hb f), b⟩, fn_ar⟩
theorem dn_ok {c qual : Str} {st : Stmt} {N ps : List Str} {k : Nat} {C : Ctx} {body : MS} (F : InitF K mg c qual st ps) (S : FnScope N ps (defScope st))
    (hb : ∀ (f : Addr) (cdv : Value) (A : Around) (outer : List Env) (s : Shared) (H : Hp) (E : XK), Room k (A.deeper (envOfC qual (defScope st) s.heap.objs.size f cdv)) →
      PSs (cxOf (L2.CX P w) P w K mg base N qual (defScope st) f cdv A outer s H E) (defBody st) (ts C (fun cls d _ H => E cls d H) body)) :
    Dn P w K mg base C (k + 1) c ps.length (fn ps.length N.length body) := by
  obtain ⟨Ca, f, fd, g, mk, h, b⟩ := F.ex
  exact ⟨⟨Ca, f, fd, ps, g, mk, fn_ok h S (hb f), b⟩, fn_ar⟩
end
def isObj (c m : Str) (st : Sto) (x : D) : Bool := match x with
  | .ref i => (match st[i]? with
    | some (.ins c' ks _) => decide (c' = c) && !decide (m ∈ ks)
    | _ => false)
  | _ => false
def callO (c m : Str) (f : List D → Sto → R D) (o : M D) (as : M (List D)) : M D := bnd o fun x => fun env st => if isObj c m st x = true then bnd as (fun ds => fun _ st' => f (x :: ds) st') env st else .bad
theorem isObj_ins {C : Ctx} {B : Bd} {st : Sto} {c m : Str} {x : D} {v : V} {Ca : Addr} (R : RelH C B st) (h : isObj c m st x = true) (r : Rep C B x v) (g : C.mg c = some (.ref Ca)) : ∃ a dx fvs, v = .ref a ∧ B.H a = some (.ins Ca dx fvs) ∧ fvs.lookup m = none := by
  unfold isObj at h
  cases x with
  | ref i =>
    dsimp only at h
    cases ec : st[i]? with
    | none => rw [ec] at h; cases h
    | some cc =>
      rw [ec] at h
      cases cc with
      | ins c' ks xs =>
        simp at h
        obtain ⟨rfl, hm⟩ := h
        obtain ⟨a, Cb, dx, fvs, rfl, ha, g', hH, hk, t⟩ := ref_ins R ec r
        rw [g] at g'
        cases g'
        exact ⟨a, dx, fvs, rfl, hH, lk_none (by rw [hk]; exact hm)⟩
      | lst _ => cases h
      | dct _ _ => cases h
      | dtt _ _ => cases h
  | _ => cases h
section
variable {X : Cx} {C : Ctx} {W : WX} {e o : Expr} {es : List Expr} {co : M D} {as : M (List D)} {c m : Str} {pos apos : Pos} {k n : Nat} {f : List D → Sto → R D}
theorem e_callO {pl : Sem Bool} (hM : C.mg = X.mg := by rfl) (F : Dm X.prog X.w X.K X.mg X.base C k c m n f) (hr : Room k X.A) (hx : Pass X W) (ho : PE X o (te C W co)) (ha : PA X (e :: es) (ta C W as))
    (hst : starEach (e :: es) X.env = (false, eval e X.env) :: starEach es X.env := by rfl) (hpl : (backTo pos (starEach es X.env)).any (·.1) = false := by rfl)
    (ht : eval (.Call (.Attribute o m apos) (e :: es) [] pos) X.env = (do
      let vo ← eval o X.env
      standAt apos.atName
      let (fv, one) ← holding [vo] (getMethod vo m pl)
      callWith pos fv one (backTo pos (starEach (e :: es) X.env)) (backToKw pos (keywordEach [] X.env))) := by rfl) :
    PE X (.Call (.Attribute o m apos) (e :: es) [] pos) (te C W (callO c m f co as)) := by
  obtain ⟨Ca, fa, fd, ps, g, cl, me, h1, h4⟩ := F.ex
  constructor
  rintro pins s σ H Q I ⟨env, st, B, eB, rr, q⟩
  subst eB
  have step1 := ho.run pins s σ B.H _ I (seq rr q)
  refine PySem.W.methodCall_KW (pl := pl) (thn step1 ?_) ht
  rintro u s1 ⟨v, H1, I1, rv, x, st1, B1, e1, x1, r1, p1, k1⟩
  subst e1
  split at k1
  · rename_i hob
    obtain ⟨a, dx, fvs, rfl, hH, hl⟩ := isObj_ins r1.h hob p1 (by rw [hM]; exact g)
    obtain rfl : u = Value.ref a := rv
    refine getmeth_ok I1 hH cl me hl ?_
    have step2 := ha.run pos pins s1 σ B1.H _ I1 (seq r1 k1)
    refine PySem.W.callWith_K (first := [.ref a]) (h₀ := X.base) I.ok.mod.kin me.kp (thn step2 ?_) hst hpl
    rintro us s2 ⟨vs, H2, I2, r2v, ds, st2, B2, e2, x2, r2, p2, k2⟩
    subst e2
    exact ⟨I2.kIn, run_fnS (us := Value.ref a :: us) (vs := V.ref a :: vs) h1 hr h4 (hx σ) I2 (.cons rfl r2v) (sp_of F.ar r2 (RepL.cons (p1.mono x2) p2) k2)⟩
  · exact k1.elim
theorem e_callO0 {pl : Sem Bool} (hM : C.mg = X.mg := by rfl) (F : Dm X.prog X.w X.K X.mg X.base C k c m n f) (hr : Room k X.A) (hx : Pass X W) (ho : PE X o (te C W co))
    (ht : eval (.Call (.Attribute o m apos) [] [] pos) X.env = (do
      let vo ← eval o X.env
      standAt apos.atName
      let (fv, one) ← holding [vo] (getMethod vo m pl)
      callWith pos fv one (backTo pos (starEach [] X.env)) (backToKw pos (keywordEach [] X.env))) := by rfl) :
    PE X (.Call (.Attribute o m apos) [] [] pos) (te C W (callO c m f co (args []))) := by
  obtain ⟨Ca, fa, fd, ps, g, cl, me, h1, h4⟩ := F.ex
  constructor
  rintro pins s σ H Q I ⟨env, st, B, eB, rr, q⟩
  subst eB
  have step1 := ho.run pins s σ B.H _ I (seq rr q)
  refine PySem.W.methodCall_KW (pl := pl) (thn step1 ?_) ht
  rintro u s1 ⟨v, H1, I1, rv, x, st1, B1, e1, x1, r1, p1, k1⟩
  subst e1
  split at k1
  · rename_i hob
    obtain ⟨a, dx, fvs, rfl, hH, hl⟩ := isObj_ins r1.h hob p1 (by rw [hM]; exact g)
    obtain rfl : u = Value.ref a := rv
    refine getmeth_ok I1 hH cl me hl ?_
    exact PySem.W.callWith_K0 (first := [.ref a]) I1.kIn me.kp (run_fnS (us := [Value.ref a]) (vs := [V.ref a]) h1 hr h4 (hx σ) I1 (.cons rfl .nil) (sp_of F.ar r1 (RepL.cons p1 .nil) k1))
  · exact k1.elim
/-! ### made -/
def newO (c : Str) (f : List D → Sto → R D) (ds : List D) (st : Sto) : R D := match f (.ref st.length :: ds) (st ++ [.ins c [] []]) with
  | .ok .non st' => .ok (.ref st.length) st'
  | .exc x st' => .exc x st'
  | _ => .bad
def mkO (c : Str) (f : List D → Sto → R D) (as : M (List D)) : M D := bnd as fun ds => fun _ st => newO c f ds st
theorem run_new {env : Ev} {pins : List (Addr × Obj)} {σ : Sl} {B : Bd} {st : Sto} {s : Shared} {Q : VK} {us : List Value} {vs : List V} {ds : List D} {Ca fa : Addr} {fd : FuncData} {ps : List Str} (hM : C.mg = X.mg) (g : X.mg c = some (.ref Ca)) (mk : Mk X.K Ca fa)
    (h1 : FnOk X.prog X.w X.K X.mg X.base (L2.CX X.prog X.w) k fa fd ps (spOf C n f)) (hb : Binds X.K fd ps []) (har : ∀ ds st, ds.length ≠ n → f ds st = .bad) (hr : Room (k + 1) X.A) (hx : Pass X W) (I : Inv X pins σ B.H s) (rv : Vals vs us) (rr : Rel C B env σ st) (rl : RepL C B ds vs)
    (h : post C W (fun B => Rep C B) σ env B Q (newO c f ds st)) : wpAny (model X.prog X.w) X.A (call (.ref Ca) us) (EP X pins σ Q) X.xe s := by
  have fx : B.H (s.heap.objs.size + 1) = none := I.hok.fresh (Nat.le_succ _)
  have fd' : B.H s.heap.objs.size = none := I.hok.fresh (Nat.le_refl _)
  have ne : s.heap.objs.size ≠ s.heap.objs.size + 1 := Nat.ne_of_lt (Nat.lt_succ_self _)
  have I2 := Inv.made (C := Ca) I
  obtain ⟨xa, Ra⟩ := rr.h.new (o := .own (s.heap.objs.size + 1)) fd'
  obtain ⟨xb, Rb, gb⟩ := Ra.newC (p := s.heap.objs.size + 1) (o := .ins Ca s.heap.objs.size []) (c := .ins c [] []) (by show upd B.H _ _ _ = none; rw [upd_ne ne.symm]; exact fx) fun B' x e => ⟨Ca, _, [], by rw [hM]; exact g, e, rfl, .nil⟩
  have sp : spOf C n f (V.ref (s.heap.objs.size + 1) :: vs) (upd (upd B.H s.heap.objs.size (.own (s.heap.objs.size + 1))) (s.heap.objs.size + 1) (.ins Ca s.heap.objs.size [])) (fun v H2 => v = .non ∧ Q (.ref (s.heap.objs.size + 1)) H2) (WE W σ) := by
    have hn : (D.ref st.length :: ds).length = n := by
      by_cases hn : (D.ref st.length :: ds).length = n
      · exact hn
      · unfold newO at h
        rw [har _ _ hn] at h
        exact h.elim
    refine ⟨by rw [← hn, List.length_cons, List.length_cons, rl.length], _, _, _, rfl, Rb, RepL.cons (rep_ref gb) (rl.mono (xa.trans xb)), ?_⟩
    unfold newO at h
    cases q : f (D.ref st.length :: ds) (st ++ [.ins c [] []]) with
    | bad => rw [q] at h; exact h.elim
    | exc y st' => rw [q] at h; exact fun cls B' gg x' R' => h cls B' gg ((xa.trans xb).trans x') (rr.of ((xa.trans xb).trans x') R')
    | ok d st' =>
      rw [q] at h
      cases d with
      | non => exact fun v B' x' R' t => ⟨t.non_inv, h _ B' ((xa.trans xb).trans x') (rr.of ((xa.trans xb).trans x') R') (rep_ref (x'.mm _ _ gb))⟩
      | _ => exact h.elim
  have b := hb _ (Value.ref (s.heap.objs.size + 1) :: us) I2.kIn (by
    have e := (show Vals (V.ref (s.heap.objs.size + 1) :: vs) (Value.ref (s.heap.objs.size + 1) :: us) from .cons rfl rv).length
    rw [h1.len _ _ _ _ sp] at e
    rw [List.append_nil]; exact e.symm)
  rw [List.append_nil] at b
  have big := make_map (f := fa) (R := fun r s' => match r with
      | .error e => X.xe e s'
      | .ok (.ret u) => EP X pins σ Q u s'
      | _ => False) (vs := us) (kw := []) I.kIn mk.makes mk.init (beq_iff_eq.mp mk.fn)
      (codeAny_mono (h1.run _ X.stack _ _ ⟨Value.ref (s.heap.objs.size + 1) :: us, []⟩ (Value.ref (s.heap.objs.size + 1) :: us) _ _ (WE W σ) (hr.make Ca us []) (I2.env0.make Ca us []) b (show Vals (V.ref (s.heap.objs.size + 1) :: vs) (Value.ref (s.heap.objs.size + 1) :: us) from .cons rfl rv) sp) fun r s' hq' => by
        cases r with
        | error e => exact hx σ pins _ _ e s' I2 hq'
        | ok fl =>
          cases fl with
          | ret u =>
            obtain ⟨v, H', I3, rv', ev, q3⟩ := I2.after hq'
            subst ev
            exact ⟨rv', ⟨V.ref (s.heap.objs.size + 1), H', I3, rfl, q3⟩⟩
          | next => exact False.elim hq'
          | brk => exact False.elim hq'
          | cont => exact False.elim hq')
  refine wpAny_call (codeAny_mono big fun r s' hq => ?_)
  cases r with
  | error e => exact hq
  | ok fl => cases fl <;> exact hq
theorem e_mkO (hM : C.mg = X.mg := by rfl) (F : Dn X.prog X.w X.K X.mg X.base C k c n f) (hr : Room (k + 1) X.A) (hx : Pass X W) (ha : PA X (e :: es) (ta C W as)) (hg : Gl X c := by rfl) (hdb : (c == ("__debug__" : Str)) = false := by decide)
    (he : starEach (e :: es) X.env = (false, eval e X.env) :: starEach es X.env := by rfl) (hpl : (backTo pos (starEach es X.env)).any (·.1) = false := by rfl) : PE X (.Call (.Name c apos) (e :: es) [] pos) (te C W (mkO c f as)) := by
  obtain ⟨Ca, fa, fd, ps, g, mk, h1, h4⟩ := F.ex
  constructor
  rintro pins s σ H Q I ⟨env, st, B, eB, rr, q⟩
  subst eB
  refine wpAny_Call_Name_kw (ld_glob I hg g ?_ hdb)
  have step1 := ha.run pos pins s σ B.H _ I (seq rr q)
  refine PySem.W.callWith_K (h₀ := X.base) I.ok.mod.kin mk.kp (thn step1 ?_) he hpl
  rintro us s1 ⟨vs, H1, I1, rv, ds, st1, B1, e1, x1, r1, p1, k1⟩
  subst e1
  exact ⟨I1.kIn, run_new hM g mk h1 h4 F.ar hr hx I1 rv r1 p1 k1⟩
theorem e_mkO0 (hM : C.mg = X.mg := by rfl) (F : Dn X.prog X.w X.K X.mg X.base C k c n f) (hr : Room (k + 1) X.A) (hx : Pass X W) (hg : Gl X c := by rfl) (hdb : (c == ("__debug__" : Str)) = false := by decide) :
    PE X (.Call (.Name c apos) [] [] pos) (te C W (mkO c f (args []))) := by
  obtain ⟨Ca, fa, fd, ps, g, mk, h1, h4⟩ := F.ex
  constructor
  rintro pins s σ H Q I ⟨env, st, B, eB, rr, q⟩
  subst eB
  refine wpAny_Call_Name_kw (ld_glob I hg g ?_ hdb)
  exact PySem.W.callWith_K0 I.kIn mk.kp (run_new (us := []) (vs := []) (ds := []) hM g mk h1 h4 F.ar hr hx I .nil rr .nil q)
end
/-! ### a def without parameters, called -/
section
variable {X : Cx} {C : Ctx} {W : WX} {x : Str} {p pos : Pos} {k n : Nat} {f : List D → Sto → R D}
/-- one of two ways, by the class that stands at the place -/
def isCls (c : Str) (st : Sto) (x : D) : Bool := match x with
  | .ref i => (match st[i]? with
    | some (.ins c' _ _) => decide (c' = c)
    | _ => false)
  | _ => false
def mcase (c : Str) (o : M D) (a b : M D) : M D := fun e st => match o e st with
  | .ok x st' => if isCls c st' x = true then a e st else b e st
  | _ => b e st
theorem e_case {ex : Expr} {c : Str} {o a b : M D} (ha : PE X ex (te C W a)) (hb : PE X ex (te C W b)) : PE X ex (te C W (mcase c o a b)) := by
  constructor
  rintro pins s σ H Q I ⟨env, st, B, eB, rr, q⟩
  unfold mcase at q
  split at q
  · split at q
    · exact ha.run pins s σ H Q I ⟨env, st, B, eB, rr, q⟩
    · exact hb.run pins s σ H Q I ⟨env, st, B, eB, rr, q⟩
  · exact hb.run pins s σ H Q I ⟨env, st, B, eB, rr, q⟩
end
/-! ### facts of the text -/
section
variable {K : PySem.W.Frag} {h : Heap} {mg : Str → Option Value}
theorem clsF_mk {Ca : Addr} (pg : PySem.W.plainGet K Ca Str.empty = true) (hd : PySem.W.hasDictIn K Ca = true) (po : PySem.W.plainOver K Ca = true) (sa : PySem.W.findIn K (.ref Ca) "__setattr__" = some (some (.builtin "object.__setattr__"))) : Cls K Ca := ⟨pg, hd, po, sa⟩
theorem useCls {Ca : Addr} {c : Str} {p : Prop} (X : K.In h) (G : h.Ns mainGlobals mg) (a : PySem.W.nsIn K mainGlobals c = some (some (.ref Ca))) (pg : PySem.W.plainGet K Ca Str.empty = true) (hd : PySem.W.hasDictIn K Ca = true) (po : PySem.W.plainOver K Ca = true)
    (sa : PySem.W.findIn K (.ref Ca) "__setattr__" = some (some (.builtin "object.__setattr__"))) (k : mg c = some (.ref Ca) → Cls K Ca → p) : p := k (PySem.W.mg_of X G a) ⟨pg, hd, po, sa⟩
theorem clsAt_mk {Ca : Addr} {c : Str} (X : K.In h) (G : h.Ns mainGlobals mg) (a : PySem.W.nsIn K mainGlobals c = some (some (.ref Ca))) (pg : PySem.W.plainGet K Ca Str.empty = true) (hd : PySem.W.hasDictIn K Ca = true) (po : PySem.W.plainOver K Ca = true)
    (sa : PySem.W.findIn K (.ref Ca) "__setattr__" = some (some (.builtin "object.__setattr__"))) : ∃ Ca', PySem.W.nsIn K mainGlobals c = some (some (.ref Ca')) ∧ mg c = some (.ref Ca') ∧ Cls K Ca' := ⟨Ca, a, PySem.W.mg_of X G a, pg, hd, po, sa⟩
theorem attrF_mk {Ca : Addr} {c f : Str} (g : mg c = some (.ref Ca)) (cl : Cls K Ca) (n : PySem.W.findIn K (.ref Ca) f = some none) : AttrF K mg c f := ⟨⟨Ca, g, cl, n⟩⟩
theorem methF_mk {Ca f : Addr} {c m qual : Str} {st : Stmt} {ps : List Str} {oc : Value} {od an : Option Addr} {osl : Array (Option Value)} {kV doc pm cdv ct : Value} (g : mg c = some (.ref Ca)) (cl : Cls K Ca) (a : PySem.W.findIn K (.ref Ca) m = some (some (.ref f))) (i : PySem.W.isFn K (.ref f) = true)
    (l : K.lookup f = some ⟨oc, od, .func (PySem.W.fnOf m qual (defArgs st) (defBody st) (defScope st) .none kV doc pm an cdv ct), osl⟩) (cc : PySem.W.codeIn K cdv qual = true) (k : PySem.W.keepIn K (.ref f) = true)
    (hb : ∀ (kV doc pm : Value) (an : Option Addr) (cdv ct : Value) (us : List Value), us.length = ps.length → bindArgs (PySem.W.fnOf m qual (defArgs st) (defBody st) (defScope st) .none kV doc pm an cdv ct) ⟨us, []⟩ = pure (ps.zip us)) : MethF K mg c m qual st ps :=
  have F := fun_mk (st := st) l cc k
  ⟨⟨Ca, f, _, g, cl, ⟨a, i, k⟩, F, F.binds hb⟩⟩
theorem initF_mk {Ca f : Addr} {c qual : Str} {st : Stmt} {ps : List Str} {oc : Value} {od an : Option Addr} {osl : Array (Option Value)} {kV doc pm cdv ct : Value} (g : mg c = some (.ref Ca)) (cl : Cls K Ca) (m : PySem.W.makesIn K Ca = true) (kc : PySem.W.keepIn K (.ref Ca) = true) (a : PySem.W.findIn K (.ref Ca) "__init__" = some (some (.ref f))) (i : PySem.W.isFn K (.ref f) = true)
    (l : K.lookup f = some ⟨oc, od, .func (PySem.W.fnOf "__init__" qual (defArgs st) (defBody st) (defScope st) .none kV doc pm an cdv ct), osl⟩) (cc : PySem.W.codeIn K cdv qual = true) (k : PySem.W.keepIn K (.ref f) = true)
    (hb : ∀ (kV doc pm : Value) (an : Option Addr) (cdv ct : Value) (us : List Value), us.length = ps.length → bindArgs (PySem.W.fnOf "__init__" qual (defArgs st) (defBody st) (defScope st) .none kV doc pm an cdv ct) ⟨us, []⟩ = pure (ps.zip us)) : InitF K mg c qual st ps :=
  have F := fun_mk (st := st) l cc k
  ⟨⟨Ca, f, _, g, ⟨m, a, i, kc⟩, F, F.binds hb⟩⟩
end
end Ly
/-! More methods of lists. -/
namespace Ly
open PySem PySem.Spec PyProof.Rows L2
open AutoSeq1 (wpAny_loadPart')
/-! ### list.extend(tuple) -/
theorem meets_extTup (p t : Addr) (xs ys : Array Value) (n m : Nat) (td : Option Addr) (ts : Array (Option Value)) (h0 : ¬(!xs.isEmpty && Builtin.List.listTooLong (xs.size + ys.size)) = true) (h1 : xs.size ≤ sizeLine) (h2 : xs.size + ys.size ≤ sizeLine + 1) :
    Meets (Builtin.«list.extend» ⟨[.ref p, .ref t], []⟩) (fun _ R s => s.heap.get? p = some { cls := .type "list", data := .seq xs n } ∧ s.heap.get? t = some { cls := .type "tuple", dict := td, data := .seq ys m, slots := ts } ∧
      R (.ok (.ret Value.none)) { s with heap := s.heap.update p (Obj.mapSeq fun z => z ++ ys) }) :=
  .of_wp fun prog w A R s hyp => by
    obtain ⟨h0', g0, d0, k0, o0⟩ := s
    obtain ⟨hp, ht, hR⟩ := hyp
    have a1 := AutoSeq1.sub_tuple_tuple
    have a2 := AutoSeq1.sub_list_list
    have a3 := AutoSeq1.sub_tuple_list
    have a4 := AutoSeq1.sub_list_tuple
    have fits : (xs ++ ys).size ≤ sizeLine + 1 := by rw [Array.size_append]; exact h2
    wp_walk using (wpAny_updateSeq hp rfl (hz := h1) (_hz' := fits)), wpAny_loadPart' hp, wpAny_loadPart' ht
    exact ⟨_, rfl, hR⟩
def rExtT (K : PySem.W.Frag) : V → List V → Hp → VK → Prop := fun x vs H Q => ∃ (p t : Addr) (xs ys : List V), x = V.ref p ∧ vs = [V.ref t] ∧ H p = some (.lst xs) ∧ SqT K H t ys ∧ xs.length + ys.length ≤ sizeLine ∧ Q .non (upd H p (.lst (xs ++ ys)))
theorem mt_extT {X : Cx} : MtM X "list.extend" (rExtT X.K) := by
  rintro pins s σ H x vs v us Q I rx rv ⟨p, t, xs, ys, rfl, rfl, hP, hT, small, q⟩
  cases rx
  obtain ⟨u, rfl, ru⟩ := rv.one
  cases ru
  obtain ⟨zp, is1, n1, rel1, len1, at1⟩ := I.lstM hP
  obtain ⟨is2, rel2, ⟨⟨oc, od, oda, osl⟩, at2, c2, n2, d2⟩, _⟩ := I.tuple hT
  simp only at c2 d2
  subst c2 d2
  have len2 := rel2.length
  have tot : is1.toArray.size + is2.toArray.size ≤ sizeLine := by simp only [List.size_toArray]; omega
  have notLong : ¬ (!is1.toArray.isEmpty && Builtin.List.listTooLong (is1.toArray.size + is2.toArray.size)) = true := by
    rw [notLongL tot, Bool.and_false]; exact Bool.false_ne_true
  refine call_meets PySem.F.slot_list_extend ⟨_, at1, rfl⟩ PySem.F.entry_list_extend (PySem.F.args_list_extend_2 _ _) (meets_extTup p t is1.toArray is2.toArray n1 n2 od osl notLong (by simp only [List.size_toArray]; omega) (by omega)) ⟨at1, at2, ?_⟩
  exact ⟨.non, _, I.lset (its' := is1 ++ is2) hP at1 (by simp) (rel1.append rel2) (by rw [List.length_append]; omega), rfl, q⟩
def fExtendA (x : D) (ys : List D) (st : Sto) : Option (D × Sto) := match x, ys with
  | .ref i, [.tup zs] => (match st[i]? with
    | some (.lst xs) => if xs.length + zs.length ≤ sizeLine then some (.non, st.set i (.lst (xs ++ zs))) else none
    | _ => none)
  | x, ys => fExtend x ys st
theorem MethOk.or {C : Ctx} {f g h : D → List D → Sto → Option (D × Sto)} {r r' : V → List V → Hp → VK → Prop} (hf : MethOk C f r) (hg : MethOk C g r') (hh : ∀ x ys st, h x ys st = f x ys st ∨ h x ys st = g x ys st) : MethOk C h (fun x vs H Q => r x vs H Q ∨ r' x vs H Q) := fun B st x xs v vs Q d st' R rx rl e k => by
  rcases hh x xs st with q | q
  · exact .inl (hf B st x xs v vs Q d st' R rx rl (q ▸ e) k)
  · exact .inr (hg B st x xs v vs Q d st' R rx rl (q ▸ e) k)
theorem MtR.or {X : Cx} {id : String} {r r' : V → List V → Hp → VK → Prop} (h : MtR X id r) (h' : MtR X id r') : MtR X id (fun x vs H Q => r x vs H Q ∨ r' x vs H Q) := by
  rintro pins s σ H x xs v us Q I rx rxs (q | q)
  · exact h pins s σ H x xs v us Q I rx rxs q
  · exact h' pins s σ H x xs v us Q I rx rxs q
theorem fExtendA_ok {C : Ctx} : MethOk C fExtendA (fun x vs H Q => rExtend x vs H Q ∨ rExtT C.K x vs H Q) := fun B st x xs v vs Q d st' R rx rl e k => by
  unfold fExtendA at e
  split at e
  · rename_i i zs
    cases ec : st[i]? with
    | none => rw [ec] at e; cases e
    | some cc =>
      rw [ec] at e
      cases cc with
      | ins _ _ _ => cases e
      | dct _ _ => cases e
      | dtt _ _ => cases e
      | lst ds =>
        dsimp only at e
        split at e
        · rename_i hz
          cases e
          obtain ⟨a, us, rfl, ha, hH, hz', t⟩ := ref_lst R ec rx
          obtain ⟨vy, t2, rfl, qy, h2⟩ := rl.cons_inv
          rw [h2.nil_inv]
          obtain ⟨b, ws, rfl, hzB, hB, tB⟩ := qy.tup_inv
          have hl : us.length + ws.length ≤ sizeLine := by rw [t.length, tB.length]; exact hz
          obtain ⟨x4, r4⟩ := R.write (o := .lst (us ++ ws)) (c := .lst (ds ++ zs)) ha fun B' x e => ⟨_, e, by rw [List.length_append]; exact hl, (t.mono x).append (tB.mono x)⟩
          exact .inr ⟨a, b, us, ws, rfl, rfl, hH, hB, hl, k _ _ x4 r4 rep_non⟩
        · cases e
  · exact .inl (fExtend_ok B st x xs v vs Q d st' R rx rl e k)
/-! ### pop, reverse, clear, count -/
def fPop (x : D) (ys : List D) (st : Sto) : Option (D × Sto) := match x, ys with
  | .ref i, [] => (match st[i]? with
    | some (.lst xs) => (xs[xs.length - 1]?).map fun d => (d, st.set i (.lst xs.dropLast))
    | _ => none)
  | _, _ => none
theorem fPop_ok {C : Ctx} : MethOk C fPop rPop := fun B st x xs v vs Q d st' R rx rl e k => by
  unfold fPop at e
  split at e
  · rename_i i
    cases ec : st[i]? with
    | none => rw [ec] at e; cases e
    | some cc =>
      rw [ec] at e
      cases cc with
      | ins _ _ _ => cases e
      | dct _ _ => cases e
      | dtt _ _ => cases e
      | lst ds =>
        dsimp only at e
        cases el : ds[ds.length - 1]? with
        | none => rw [el] at e; cases e
        | some dd =>
          rw [el] at e; cases e
          rw [rl.nil_inv]
          obtain ⟨a, us, rfl, ha, hH, hz', t⟩ := ref_lst R ec rx
          obtain ⟨y, hy, ry⟩ := t.get el
          obtain ⟨x4, r4⟩ := R.write (o := .lst us.dropLast) (c := .lst ds.dropLast) ha fun B' x e => ⟨_, e, by rw [List.length_dropLast]; omega, (t.mono x).dropLast⟩
          exact ⟨a, us, y, rfl, rfl, hH, by rw [t.length]; exact hy, k _ _ x4 r4 (ry.mono x4)⟩
  · cases e
/-- pop(i), i not negative -/
def fPopAt (x : D) (ys : List D) (st : Sto) : Option (D × Sto) := match x, ys with
  | .ref i, [.int j] => (match st[i]? with
    | some (.lst xs) => if 0 ≤ j ∧ j < 1000000 then (xs[j.toNat]?).map fun d => (d, st.set i (.lst (xs.eraseIdx j.toNat))) else none
    | _ => none)
  | _, _ => none
theorem RepL.eraseIdx {C : Ctx} {B : Bd} : ∀ {ds : List D} {vs : List V} (k : Nat), RepL C B ds vs → RepL C B (ds.eraseIdx k) (vs.eraseIdx k)
  | [], vs, k, h => by rw [h.nil_inv]; exact .nil
  | x :: xs, _, 0, h => by
    obtain ⟨v, r, rfl, q, h⟩ := h.cons_inv
    exact h
  | x :: xs, _, k + 1, h => by
    obtain ⟨v, r, rfl, q, h⟩ := h.cons_inv
    exact .cons q (RepL.eraseIdx k h)
theorem fPopAt_ok {C : Ctx} : MethOk C fPopAt rPopAt := fun B st x xs v vs Q d st' R rx rl e k => by
  unfold fPopAt at e
  split at e
  · rename_i i j
    cases ec : st[i]? with
    | none => rw [ec] at e; cases e
    | some cc =>
      rw [ec] at e
      cases cc with
      | ins _ _ _ => cases e
      | dct _ _ => cases e
      | dtt _ _ => cases e
      | lst ds =>
        dsimp only at e
        split at e
        · rename_i hj
          cases el : ds[j.toNat]? with
          | none => rw [el] at e; cases e
          | some dd =>
            rw [el] at e; cases e
            obtain ⟨vy, t2, rfl, qy, h2⟩ := rl.cons_inv
            rw [h2.nil_inv, qy.int_inv]
            obtain ⟨a, us, rfl, ha, hH, hz', t⟩ := ref_lst R ec rx
            obtain ⟨y, hy, ry⟩ := t.get el
            have hlt : j.toNat < us.length := (List.getElem?_eq_some_iff.mp hy).1
            have e1 : seqIndex? j us.length = some j.toNat := by
              unfold seqIndex?
              have h1 : ¬ j < 0 := by omega
              simp [h1]
              omega
            obtain ⟨x4, r4⟩ := R.write (o := .lst (us.eraseIdx j.toNat)) (c := .lst (ds.eraseIdx j.toNat)) ha fun B' x e => ⟨_, e, Nat.le_trans (List.length_eraseIdx_le us j.toNat) hz', (t.mono x).eraseIdx _⟩
            exact ⟨a, us, j, j.toNat, y, rfl, rfl, hH, by omega, by omega, e1, hy, k _ _ x4 r4 (ry.mono x4)⟩
        · cases e
  · cases e
def fPopA (x : D) (ys : List D) (st : Sto) : Option (D × Sto) := match ys with
  | [] => fPop x [] st
  | ys => fPopAt x ys st
def fUpd (g : List D → List D) (x : D) (ys : List D) (st : Sto) : Option (D × Sto) := match x, ys with
  | .ref i, [] => (match st[i]? with
    | some (.lst xs) => some (.non, st.set i (.lst (g xs)))
    | _ => none)
  | _, _ => none
theorem fReverse_ok {C : Ctx} : MethOk C (fUpd List.reverse) rReverse := fun B st x xs v vs Q d st' R rx rl e k => by
  unfold fUpd at e
  split at e
  · rename_i i
    cases ec : st[i]? with
    | none => rw [ec] at e; cases e
    | some cc =>
      rw [ec] at e
      cases cc with
      | ins _ _ _ => cases e
      | dct _ _ => cases e
      | dtt _ _ => cases e
      | lst ds =>
        cases e
        rw [rl.nil_inv]
        obtain ⟨a, us, rfl, ha, hH, hz', t⟩ := ref_lst R ec rx
        obtain ⟨x4, r4⟩ := R.write (o := .lst us.reverse) (c := .lst ds.reverse) ha fun B' x e => ⟨_, e, by rw [List.length_reverse]; exact hz', (t.mono x).reverse⟩
        exact ⟨a, us, rfl, rfl, hH, k _ _ x4 r4 rep_non⟩
  · cases e
theorem fClear_ok {C : Ctx} : MethOk C (fUpd fun _ => []) rClear := fun B st x xs v vs Q d st' R rx rl e k => by
  unfold fUpd at e
  split at e
  · rename_i i
    cases ec : st[i]? with
    | none => rw [ec] at e; cases e
    | some cc =>
      rw [ec] at e
      cases cc with
      | ins _ _ _ => cases e
      | dct _ _ => cases e
      | dtt _ _ => cases e
      | lst ds =>
        cases e
        rw [rl.nil_inv]
        obtain ⟨a, us, rfl, ha, hH, hz', t⟩ := ref_lst R ec rx
        obtain ⟨x4, r4⟩ := R.write (o := .lst []) (c := .lst []) ha fun B' x e => ⟨_, e, Nat.zero_le _, .nil⟩
        exact ⟨a, us, rfl, rfl, hH, k _ _ x4 r4 rep_non⟩
  · cases e
/-! ### list.count -/
def rCntF (K : PySem.W.Frag) : V → List V → Hp → VK → Prop := fun x xs H Q => ∃ (p : Addr) (ys : List V) (y : V), x = V.ref p ∧ xs = [y] ∧ SqL K H p ys ∧ flatV y = true ∧ ys.all flatV = true ∧ Q (.int (ys.countP fun z => eqV z y : Nat)) H
theorem mt_cntF {X : Cx} : MtR X "list.count" (rCntF X.K) := by
  rintro pins s σ H x xs v us Q I rx rxs ⟨p, ys, y, rfl, rfl, hs, fy, fys, q⟩
  cases rx
  cases rxs with
  | cons ry rt =>
    rename_i uy ut
    cases rt
    obtain ⟨is1, rel1, ⟨⟨oc, od, oda, osl⟩, n1, at1, c1, _, d1⟩, _⟩ := I.list hs
    simp only at c1 d1
    subst c1 d1
    refine call_meets PySem.F.slot_list_count ⟨_, at1, rfl⟩ PySem.F.entry_list_count (PySem.F.args_list_count_2 _ _) (SeqAt.list_countAt p is1.toArray n1 od osl uy (eqU y)) ⟨at1, fun w hw => mem_eqAt ry fy rel1 fys w (by simpa using hw), ?_⟩
    have cnt : ∀ {ys : List V} {is1 : List Value}, Vals ys is1 → ys.all flatV = true → is1.countP (eqU y) = ys.countP fun z => eqV z y := by
      intro ys is1 rel
      induction rel with
      | nil => intro _; rfl
      | cons r t ih =>
        intro fl
        rw [List.all_cons, Bool.and_eq_true] at fl
        rw [List.countP_cons, List.countP_cons, ih fl.2, eqU_of r fl.1]
    refine ⟨.int _, H, I.tok _, ⟨s.toks, ?_⟩, q⟩
    show Value.int ((is1.toArray.toList.countP (eqU y) : Nat) : Int) s.toks = _
    rw [show is1.toArray.toList = is1 from rfl, cnt rel1 fys]
def fCount (x : D) (ys : List D) (st : Sto) : Option (D × Sto) := match ys with
  | [y] => (rdOf st x).bind fun xs => if y.flat && xs.all D.flat then some (.int ((xs.countP fun z => D.eq z y : Nat) : Int), st) else none
  | _ => none
theorem fCount_ok {C : Ctx} : MethOk C fCount (rCntF C.K) := fun B st x xs v vs Q d st' R rx rl e k => by
  unfold fCount at e
  split at e
  · rename_i y
    cases ex : rdOf st x with
    | none => rw [ex] at e; cases e
    | some ds =>
      rw [ex, Option.bind_some] at e
      split at e
      · rename_i hf
        rw [Bool.and_eq_true] at hf
        cases e
        obtain ⟨vy, t2, rfl, qy, h2⟩ := rl.cons_inv
        rw [h2.nil_inv]
        obtain ⟨a, us, rfl, hq, hz, t⟩ := rdOf_rep R ex rx
        obtain ⟨h4, _⟩ := flat_all hf.1 qy hf.2 t
        refine ⟨a, us, vy, rfl, rfl, hq, (flat_eqV hf.1 hf.1 qy qy).1, h4, ?_⟩
        have cnt : ∀ {ds : List D} {us : List V}, RepL C B ds us → ds.all D.flat = true → (us.countP fun z => eqV z vy) = ds.countP fun z => D.eq z y := by
          intro ds
          induction ds with
          | nil => intro us r _; rw [r.nil_inv]; rfl
          | cons x xs ih =>
            intro us r fl
            obtain ⟨w, r', rfl, q, r⟩ := r.cons_inv
            rw [List.all_cons, Bool.and_eq_true] at fl
            rw [List.countP_cons, List.countP_cons, ih r fl.2, (flat_eqV fl.1 hf.1 q qy).2.2]
        rw [cnt t hf.2]
        exact k _ B (Ext.refl _ _) R rep_int
      · cases e
  · cases e
section
variable {X : Cx} {C : Ctx} {W : WX} {o e : Expr} {co : M D} {as : M (List D)} {apos cpos : Pos}
theorem e_extendA (hK : C.K = X.K := by rfl) (ho : PE X o (te C W co)) (ha : PA X [e] (ta C W as)) (hbase : attributeBase o "extend" X.env (eval o X.env) = eval o X.env := by rfl) (hfew : ((backTo cpos (starEach [e] X.env)).all (fun x => !x.1) && (backToKw cpos (keywordEach [] X.env)).all (fun x => x.1.isSome) && decide ([e].length + ([] : List Keyword).length + (if ([] : List Keyword).isEmpty then 0 else 1) < 30)) = true := by rfl) (hline : (apos.endLine == cpos.line) = true := by rfl)
    (he : starEach [e] X.env = (false, eval e X.env) :: starEach [] X.env := by rfl) (hpl : (backTo cpos (starEach [] X.env)).any (·.1) = false := by rfl) : PE X (.Call (.Attribute o "extend" apos) [e] [] cpos) (te C W (meth "list" fExtendA co as)) :=
  e_meth hK PySem.F.plainAttrs_list PySem.F.slot_list_extend PySem.F.type_list_extend (MtR.or mt_extend (hK ▸ mt_extT)) fExtendA_ok ho ha hbase hfew hline he hpl
theorem e_count (hK : C.K = X.K := by rfl) (ho : PE X o (te C W co)) (ha : PA X [e] (ta C W as)) (hbase : attributeBase o "count" X.env (eval o X.env) = eval o X.env := by rfl) (hfew : ((backTo cpos (starEach [e] X.env)).all (fun x => !x.1) && (backToKw cpos (keywordEach [] X.env)).all (fun x => x.1.isSome) && decide ([e].length + ([] : List Keyword).length + (if ([] : List Keyword).isEmpty then 0 else 1) < 30)) = true := by rfl) (hline : (apos.endLine == cpos.line) = true := by rfl)
    (he : starEach [e] X.env = (false, eval e X.env) :: starEach [] X.env := by rfl) (hpl : (backTo cpos (starEach [] X.env)).any (·.1) = false := by rfl) : PE X (.Call (.Attribute o "count" apos) [e] [] cpos) (te C W (meth "list" fCount co as)) :=
  e_meth hK PySem.F.plainAttrs_list PySem.F.slot_list_count PySem.F.type_list_count (hK ▸ mt_cntF) fCount_ok ho ha hbase hfew hline he hpl
theorem e_popAt (hK : C.K = X.K := by rfl) (ho : PE X o (te C W co)) (ha : PA X [e] (ta C W as)) (hbase : attributeBase o "pop" X.env (eval o X.env) = eval o X.env := by rfl) (hfew : ((backTo cpos (starEach [e] X.env)).all (fun x => !x.1) && (backToKw cpos (keywordEach [] X.env)).all (fun x => x.1.isSome) && decide ([e].length + ([] : List Keyword).length + (if ([] : List Keyword).isEmpty then 0 else 1) < 30)) = true := by rfl) (hline : (apos.endLine == cpos.line) = true := by rfl)
    (he : starEach [e] X.env = (false, eval e X.env) :: starEach [] X.env := by rfl) (hpl : (backTo cpos (starEach [] X.env)).any (·.1) = false := by rfl) : PE X (.Call (.Attribute o "pop" apos) [e] [] cpos) (te C W (meth "list" fPopAt co as)) :=
  e_meth hK PySem.F.plainAttrs_list PySem.F.slot_list_pop PySem.F.type_list_pop mt_popAt fPopAt_ok ho ha hbase hfew hline he hpl
theorem e_pop (hK : C.K = X.K := by rfl) (ho : PE X o (te C W co)) (hbase : attributeBase o "pop" X.env (eval o X.env) = eval o X.env := by rfl) (hline : (apos.endLine == cpos.line) = true := by rfl) : PE X (.Call (.Attribute o "pop" apos) [] [] cpos) (te C W (meth0 "list" fPop co)) :=
  e_meth0 hK PySem.F.plainAttrs_list PySem.F.slot_list_pop PySem.F.type_list_pop mt_pop fPop_ok ho hbase hline
theorem e_reverse (hK : C.K = X.K := by rfl) (ho : PE X o (te C W co)) (hbase : attributeBase o "reverse" X.env (eval o X.env) = eval o X.env := by rfl) (hline : (apos.endLine == cpos.line) = true := by rfl) : PE X (.Call (.Attribute o "reverse" apos) [] [] cpos) (te C W (meth0 "list" (fUpd List.reverse) co)) :=
  e_meth0 hK PySem.F.plainAttrs_list PySem.F.slot_list_reverse PySem.F.type_list_reverse mt_reverse fReverse_ok ho hbase hline
theorem e_clear (hK : C.K = X.K := by rfl) (ho : PE X o (te C W co)) (hbase : attributeBase o "clear" X.env (eval o X.env) = eval o X.env := by rfl) (hline : (apos.endLine == cpos.line) = true := by rfl) : PE X (.Call (.Attribute o "clear" apos) [] [] cpos) (te C W (meth0 "list" (fUpd fun _ => []) co)) :=
  e_meth0 hK PySem.F.plainAttrs_list PySem.F.slot_list_clear PySem.F.type_list_clear mt_clear fClear_ok ho hbase hline
end
end Ly
/-! What is known of slots may be dropped; of new places nobody else knows, they may be given up. -/
namespace Ly
open PySem PySem.Spec PyProof.Rows L2
def drops (is : List Nat) (e : Ev) : Ev := is.foldl (fun e i => e.set i none) e
theorem RelE.drop {C : Ctx} {B : Bd} {env : Ev} {σ : Sl} (h : RelE C B env σ) (i : Nat) : RelE C B (env.set i none) σ := by
  refine ⟨by rw [List.length_set]; exact h.1, fun j d e => ?_⟩
  by_cases hj : i = j
  · subst hj
    by_cases hi : i < env.length
    · rw [List.getElem?_set_self hi] at e; cases e
    · rw [List.getElem?_eq_none (by rw [List.length_set]; omega)] at e; cases e
  · rw [List.getElem?_set_ne hj] at e
    exact h.2 j d e
theorem RelE.drops {C : Ctx} {B : Bd} {σ : Sl} : ∀ (is : List Nat) {env : Ev}, RelE C B env σ → RelE C B (Ly.drops is env) σ
  | [], _, h => h
  | i :: is, _, h => RelE.drops is (h.drop i)
def mdrop (is : List Nat) (c : MS) : MS := fun e st => match c e st with
  | .nx e' st' => .nx (drops is e') st'
  | .ct e' st' => .ct (drops is e') st'
  | .bk e' st' => .bk (drops is e') st'
  | r => r
def mpre (is : List Nat) (c : MS) : MS := fun e st => c (drops is e) st
section
variable {X : Cx} {C : Ctx} {W : WX} {s1 : Stmt} {ss : List Stmt} {c : MS} {is : List Nat}
theorem drop_rd : ∀ E σ H, ts C W (mdrop is c) E σ H → ts C W c E σ H := fun E σ H ⟨env, st, B, e, r, p⟩ => by
  refine ⟨env, st, B, e, r, ?_⟩
  unfold mdrop at p
  cases q : c env st with
  | nx e' st' => rw [q] at p; exact fun σ' B' x r => p σ' B' x ⟨r.h, r.e.drops is⟩
  | ct e' st' => rw [q] at p; exact fun σ' B' x r => p σ' B' x ⟨r.h, r.e.drops is⟩
  | bk e' st' => rw [q] at p; exact fun σ' B' x r => p σ' B' x ⟨r.h, r.e.drops is⟩
  | ret d st' => rw [q] at p; exact p
  | exc y e' st' => rw [q] at p; exact p
  | bad => rw [q] at p; exact p
theorem pre_rd : ∀ E σ H, ts C W (mpre is c) E σ H → ts C W c E σ H := fun E σ H ⟨env, st, B, e, r, p⟩ => ⟨drops is env, st, B, e, ⟨r.h, r.e.drops is⟩, p⟩
theorem ss_drop (is : List Nat) (h : PSs X ss (ts C W c)) : PSs X ss (ts C W (mdrop is c)) := h.imp drop_rd
theorem s_drop (is : List Nat) (h : PS X s1 (ts C W c)) : PS X s1 (ts C W (mdrop is c)) := h.imp drop_rd
theorem s_pre (is : List Nat) (h : PS X s1 (ts C W c)) : PS X s1 (ts C W (mpre is c)) := h.imp pre_rd
end
/-! ### runs -/
section
variable (e : Ev) (st : Sto) (is : List Nat) (c : MS)
@[simp] theorem mpre_run : mpre is c e st = c (drops is e) st := rfl
def RS.drop (is : List Nat) : RS → RS
  | .nx e' st' => .nx (drops is e') st'
  | .ct e' st' => .ct (drops is e') st'
  | .bk e' st' => .bk (drops is e') st'
  | r => r
@[simp] theorem mdrop_run : mdrop is c e st = (c e st).drop is := by unfold mdrop RS.drop; cases c e st <;> rfl
@[simp] theorem drop_nx : (RS.nx e st).drop is = .nx (drops is e) st := rfl
@[simp] theorem drop_ct : (RS.ct e st).drop is = .ct (drops is e) st := rfl
@[simp] theorem drop_bk : (RS.bk e st).drop is = .bk (drops is e) st := rfl
@[simp] theorem drop_ret (d : D) : (RS.ret d st).drop is = .ret d st := rfl
@[simp] theorem drop_exc (x : Str) : (RS.exc x e st).drop is = .exc x e st := rfl
@[simp] theorem drop_bad : (RS.bad).drop is = .bad := rfl
@[simp] theorem drops_nil : drops [] e = e := rfl
@[simp] theorem drops_cons (i : Nat) : drops (i :: is) e = drops is (e.set i none) := rfl
end
/-! ### places above a store -/
section
variable (st l l' : Sto) (k : Nat) (c : Cell)
@[simp] theorem app_get0 : (st ++ l)[st.length]? = l[0]? := by
  rw [List.getElem?_append_right (Nat.le_refl _), Nat.sub_self]
@[simp] theorem app_get : (st ++ l)[st.length + k]? = l[k]? := by
  rw [List.getElem?_append_right (Nat.le_add_right _ _), Nat.add_sub_cancel_left]
@[simp] theorem app_set0 : (st ++ l).set st.length c = st ++ l.set 0 c := by
  rw [List.set_append_right _ _ (Nat.le_refl _), Nat.sub_self]
@[simp] theorem app_set : (st ++ l).set (st.length + k) c = st ++ l.set k c := by
  rw [List.set_append_right _ _ (Nat.le_add_right _ _), Nat.add_sub_cancel_left]
theorem app_low {i : Nat} {d : Cell} (h : st[i]? = some d) : (st ++ l)[i]? = some d := by
  rw [List.getElem?_append_left (List.getElem?_eq_some_iff.mp h).1]; exact h
end
/-! ### a while's turns -/
section
variable {n : Nat} {t : M Bool} {body : MS} {e e2 : Ev} {st st1 st2 : Sto} {d : D} {x : Str}
theorem while_go (ht : t e st = .ok true st1) (hb : body e st1 = .nx e2 st2) : mwhile (n + 1) t body e st = mwhile n t body e2 st2 := by
  conv => lhs; unfold mwhile
  rw [mk_run, ht, toS_ok, if_pos rfl, hb]
theorem while_stop (ht : t e st = .ok false st1) : mwhile (n + 1) t body e st = .nx e st1 := by
  conv => lhs; unfold mwhile
  rw [mk_run, ht, toS_ok, if_neg Bool.false_ne_true]
  rfl
theorem while_ret (ht : t e st = .ok true st1) (hb : body e st1 = .ret d st2) : mwhile (n + 1) t body e st = .ret d st2 := by
  conv => lhs; unfold mwhile
  rw [mk_run, ht, toS_ok, if_pos rfl, hb]
end
/-! ### loops as folds -/
section
variable {α β : Type}
theorem forX_fold {p : Pat} {body : MS} (g : α → D) (step : β → α → β) (I : β → Prop) (E : β → Ev) (S : β → Sto) : ∀ (l : List α) (s : β), I s →
    (∀ s a, I s → a ∈ l → I (step s a) ∧ ∃ e1, asg p (g a) (E s) = some e1 ∧ (body e1 (S s) = .nx (E (step s a)) (S (step s a)) ∨ body e1 (S s) = .ct (E (step s a)) (S (step s a)))) →
    forX (fun _ => true) p body (l.map g) (E s) (S s) = .nx (E (l.foldl step s)) (S (l.foldl step s))
  | [], s, _, _ => rfl
  | a :: l, s, hI, h => by
    obtain ⟨h1, e1, h2, h3⟩ := h s a hI List.mem_cons_self
    have ih := forX_fold g step I E S l (step s a) h1 fun s' b hs hb => h s' b hs (List.mem_cons_of_mem _ hb)
    rw [List.map_cons, List.foldl_cons]
    unfold forX
    rw [if_pos rfl, h2]
    dsimp only
    rcases h3 with h3 | h3 <;> rw [h3] <;> exact ih
/-- by the index, over a list of n items -/
theorem forX_ix {p : Pat} {body : MS} (g : α → D) (l : List α) (E : Nat → Ev) (S : Nat → Sto)
    (h : ∀ (k : Nat) (hk : k < l.length), ∃ e1, asg p (g l[k]) (E k) = some e1 ∧ (body e1 (S k) = .nx (E (k + 1)) (S (k + 1)) ∨ body e1 (S k) = .ct (E (k + 1)) (S (k + 1)))) :
    forX (fun _ => true) p body (l.map g) (E 0) (S 0) = .nx (E l.length) (S l.length) := by
  induction l generalizing E S with
  | nil => rfl
  | cons a l ih =>
    obtain ⟨e1, h2, h3⟩ := h 0 (Nat.zero_lt_succ _)
    have := ih (fun k => E (k + 1)) (fun k => S (k + 1)) fun k hk => h (k + 1) (Nat.succ_lt_succ hk)
    rw [List.map_cons]
    unfold forX
    simp only [List.getElem_cons_zero] at h2
    rw [if_pos rfl, h2]
    dsimp only
    rcases h3 with h3 | h3 <;> rw [h3] <;> exact this
/-- with a property that may name places unknown ahead -/
theorem forX_stp {p : Pat} {body : MS} {ok : Sto → Bool} (g : α → D) (P : Nat → Ev → Sto → Prop) : ∀ (l : List α) (n : Nat) (e : Ev) (st : Sto), P n e st →
    (∀ (k : Nat) (hk : k < l.length) (e : Ev) (st : Sto), P (n + k) e st → ok st = true ∧ ∃ e1, asg p (g l[k]) e = some e1 ∧ ∃ e2 st2, (body e1 st = .nx e2 st2 ∨ body e1 st = .ct e2 st2) ∧ P (n + k + 1) e2 st2) →
    (∀ e st, P (n + l.length) e st → ok st = true) →
    ∃ e2 st2, forX ok p body (l.map g) e st = .nx e2 st2 ∧ P (n + l.length) e2 st2
  | [], n, e, st, h0, h, hk => ⟨e, st, by unfold forX; rw [List.map_nil]; simp [hk e st h0], h0⟩
  | a :: l, n, e, st, h0, h, hk => by
    obtain ⟨ho, e1, h2, e2, st2, h3, h4⟩ := h 0 (Nat.zero_lt_succ _) e st h0
    obtain ⟨e3, st3, q, q2⟩ := forX_stp g P l (n + 1) e2 st2 h4 (fun k hk e st hp => by
      have := h (k + 1) (Nat.succ_lt_succ hk) e st (by rw [show n + (k + 1) = n + 1 + k by omega]; exact hp)
      rw [show n + (k + 1) + 1 = n + 1 + k + 1 by omega] at this
      exact this) (fun e st hp => hk e st (by rw [List.length_cons, show n + (l.length + 1) = n + 1 + l.length by omega]; exact hp))
    refine ⟨e3, st3, ?_, by rw [List.length_cons, show n + (l.length + 1) = n + 1 + l.length by omega]; exact q2⟩
    rw [List.map_cons]
    unfold forX
    simp only [List.getElem_cons_zero] at h2
    rw [if_pos ho, h2]
    dsimp only
    rcases h3 with h3 | h3 <;> rw [h3] <;> exact q
end
end Ly
/-! == where both sides are the same datum; plain data by shape. -/
namespace Ly
open PySem PySem.Spec PyProof.Rows L2
def okN (n : Nat) (d : D) : Prop := D.ok n d = true ∧ D.ns d = true
theorem okL_of (n : Nat) : ∀ xs : List D, (∀ x ∈ xs, okN n x) → D.okL n xs = true ∧ D.nsL xs = true
  | [], _ => by simp [D.okL, D.nsL]
  | x :: xs, h => by
    obtain ⟨h1, h2⟩ := h x List.mem_cons_self
    obtain ⟨h3, h4⟩ := okL_of n xs fun y hy => h y (List.mem_cons_of_mem _ hy)
    simp [D.okL, D.nsL, h1, h2, h3, h4]
theorem okN_tup {n : Nat} {xs : List D} (h : ∀ x ∈ xs, okN n x) : okN (n + 1) (.tup xs) := by
  obtain ⟨h1, h2⟩ := okL_of n xs h
  exact ⟨by simp [D.ok, h1], by simp [D.ns, h2]⟩
theorem okN_lst {n : Nat} {xs : List D} (h : ∀ x ∈ xs, okN n x) : okN (n + 1) (.lst xs) := by
  obtain ⟨h1, h2⟩ := okL_of n xs h
  exact ⟨by simp [D.ok, h1], by simp [D.ns, h2]⟩
theorem okN_int (n : Nat) (i : Int) : okN n (.int i) := ⟨by simp [D.ok], by simp [D.ns]⟩
theorem okN_bl (n : Nat) (i : Bool) : okN n (.bl i) := ⟨by simp [D.ok], by simp [D.ns]⟩
theorem okN_str (n : Nat) {i : Str} (h : PyData.strOk i = true := by decide) : okN n (.str i) := ⟨by simp [D.ok, h], by simp [D.ns]⟩
theorem okN_non (n : Nat) : okN n .non := ⟨by simp [D.ok], by simp [D.ns]⟩
theorem okN_map {α : Type} {n : Nat} {f : α → D} (h : ∀ a, okN n (f a)) (l : List α) : ∀ x ∈ l.map f, okN n x := fun x hx => by
  obtain ⟨a, _, rfl⟩ := List.mem_map.mp hx
  exact h a
theorem okN_tupD (n : Nat) (l : List Int) : okN (n + 1) (tupD l) := okN_tup (okN_map (okN_int n) l)
mutual
theorem D.eq_self : ∀ d : D, D.ns d = true → D.eq d d = true
  | .non, _ => by simp [D.eq]
  | .bl _, _ => by simp [D.eq]
  | .int _, _ => by simp [D.eq]
  | .str _, _ => by simp [D.eq]
  | .tup xs, h => by simp [D.ns] at h; simp [D.eq, D.eqL_self xs h]
  | .lst xs, h => by simp [D.ns] at h; simp [D.eq, D.eqL_self xs h]
  | .dic _ _, h => by simp [D.ns] at h
  | .ref _, h => by simp [D.ns] at h
  | .exc _, h => by simp [D.ns] at h
  | .scr _, h => by simp [D.ns] at h
  | .thk, h => by simp [D.ns] at h
  | .glo _, h => by simp [D.ns] at h
theorem D.eqL_self : ∀ d : List D, D.nsL d = true → D.eqL d d = true
  | [], _ => by simp [D.eqL]
  | x :: xs, h => by simp [D.nsL] at h; simp [D.eqL, D.eq_self x h.1, D.eqL_self xs h.2]
end
theorem flat2_self {d : D} {b : Bool} (h : flat2 d d = some b) : b = true := by
  cases d <;> simp [flat2] at h <;> simp [h]
theorem top_flat {st : Sto} {x y : D} {b : Bool} (h : flat2 x y = some b) : top st x = x ∧ top st y = y := by
  cases x <;> cases y <;> simp [flat2] at h <;> exact ⟨rfl, rfl⟩
theorem eqOf_same {st : Sto} {x y d : D} (hx : top st x = d) (hy : top st y = d) (h : okN 60 d) : eqOf st x y = some true := by
  unfold eqOf
  cases hf : flat2 x y with
  | some b =>
    obtain ⟨h1, h2⟩ := top_flat (st := st) hf
    rw [← h1, ← h2, hx, hy] at hf
    rw [flat2_self hf]
  | none =>
    dsimp only
    rw [hx, hy, if_pos (by simp [h.1, h.2]), D.eq_self d h.2]
theorem eq_same {st : Sto} {x y d : D} (hx : top st x = d) (hy : top st y = d) (h : okN 60 d) : opEq x y st = some (.bl true, st) := by
  unfold opEq; rw [eqOf_same hx hy h]; rfl
theorem ne_same {st : Sto} {x y d : D} (hx : top st x = d) (hy : top st y = d) (h : okN 60 d) : opNe x y st = some (.bl false, st) := by
  unfold opNe; rw [eqOf_same hx hy h]; rfl
theorem eq_refl {st : Sto} {d : D} (h : okN 60 d) (ht : top st d = d := by rfl) : opEq d d st = some (.bl true, st) := eq_same ht ht h
theorem ne_refl {st : Sto} {d : D} (h : okN 60 d) (ht : top st d = d := by rfl) : opNe d d st = some (.bl false, st) := ne_same ht ht h
end Ly
/-! More rules: a slice of a list is written. -/
namespace Ly
open PySem PySem.Spec PyProof.Rows L2
/-- o[lo:hi] = ys, by values: both parts written, ys another list -/
def gSubSl (to : TE) (tl th : TO) : TG := fun v σ H Q => to σ H fun x H1 => tl σ H1 fun l H2 => th σ H2 fun u H3 => ∃ i j a b xs ys, x = V.ref i ∧ v = V.ref j ∧ l = some a ∧ u = some b ∧ i ≠ j ∧
  H3 i = some (.lst xs) ∧ H3 j = some (.lst ys) ∧ 0 ≤ a ∧ a ≤ b ∧ b ≤ (xs.length : Int) ∧ xs.length + ys.length ≤ sizeLine ∧ Q σ (upd H3 i (.lst (xs.take a.toNat ++ ys ++ xs.drop b.toNat)))
theorem pg_subsl {X : Cx} {o : Expr} {lo hi : Option Expr} {to : TE} {tl th : TO} {p2 pos : Pos} (ho : PE X o to) (hl : PO X lo tl) (hu : PO X hi th)
    (ha : ∀ v, assign (.Subscript o (.Slice lo hi none p2) pos) X.env v = (do
      let ov ← holding [v] (eval o X.env)
      let iv ← holding [v, ov] (eval (.Slice lo hi none p2) X.env)
      standAt pos
      holding [v, ov, iv] (setItem ov iv v)
      release [iv, v, ov] []) := by intro _; rfl) : PG X (.Subscript o (.Slice lo hi none p2) pos) (gSubSl to tl th) := by
  refine ⟨fun pins s σ H v u Q I r h => ?_⟩
  rw [ha]
  refine wpAny_bind (wpAny_holding (thn (ho.run pins s σ H _ I h) fun ov s1 ⟨x, H1, I1, r1, q1⟩ => ?_))
  refine wpAny_bind (wpAny_holding (wpAny_Slice (thn (hl.run pins s1 σ H1 _ I1 q1) fun vl s2 ⟨l, H2, I2, pl, q2⟩ => thn (hu.run pins s2 σ H2 _ I2 q2) fun vu s3 ⟨u', H3, I3, pu, q3⟩ => ?_)))
  rw [evalPart_none]
  refine wpAny_pure ?_
  have I4 : Inv X pins σ H3 { s3 with heap := s3.heap.push { cls := .type "slice", data := .fields #[vl, vu, .none] } } := I3.kept (t' := s3.toks) fun b ob q => Heap.get?_push_of_some _ q
  obtain ⟨i, j, a, b, xs, ys, rfl, rfl, rfl, rfl, hne, hi', hj', h0, h1, h2, hz, q⟩ := q3
  obtain rfl : ov = Value.ref i := r1
  obtain rfl : u = Value.ref j := r
  have ra : RelV (.int a) vl := by cases pl with | int _ t => exact ⟨t, rfl⟩
  have rb : RelV (.int b) vu := by cases pu with | int _ t => exact ⟨t, rfl⟩
  show wpAny _ _ _ _ _ { s3 with heap := s3.heap.push { cls := .type "slice", data := .fields #[vl, vu, .none] } }
  refine wpAny_bind (wpAny_standAt (wpAny_bind (wpAny_holding ?_)))
  refine set_slice (sl := s3.heap.objs.size) I4 hi' hj' hne (Heap.IsSliceOf.new ..) ra rb h0 h1 h2 hz fun s5 I5 => ?_
  exact wpAny_release ⟨σ, _, I5, q⟩
/-- o[lo:hi] = e, e a new list -/
def msubsl (o : M D) (lo hi : M (Option Int)) (v : M D) : MS := mk v fun x => mk o fun y => mk lo fun l => mk hi fun h => fun env st => match y, x, l, h with
  | .ref i, .lst ys, some a, some b => (match st[i]? with
    | some (.lst xs) => if 0 ≤ a ∧ a ≤ b ∧ b ≤ (xs.length : Int) ∧ xs.length + ys.length ≤ sizeLine then .nx env (st.set i (.lst (xs.take a.toNat ++ ys ++ xs.drop b.toNat))) else .bad
    | _ => .bad)
  | _, _, _, _ => .bad
theorem s_subsl {X : Cx} {C : Ctx} {W : WX} {o e : Expr} {lo hi : Option Expr} {c co : M D} {cl ch : M (Option Int)} {p2 spos pos : Pos} (he : PE X e (te C W c)) (ho : PE X o (te C W co)) (hl : PO X lo (to C W cl)) (hh : PO X hi (to C W ch))
    (ha : ∀ v, assign (.Subscript o (.Slice lo hi none p2) spos) X.env v = (do
      let ov ← holding [v] (eval o X.env)
      let iv ← holding [v, ov] (eval (.Slice lo hi none p2) X.env)
      standAt spos
      holding [v, ov, iv] (setItem ov iv v)
      release [iv, v, ov] []) := by intro _; rfl) (hs : swapsWithSole [.Subscript o (.Slice lo hi none p2) spos] e pos.line X.env = pure false := by rfl) (hw : swappedStores [.Subscript o (.Slice lo hi none p2) spos] e X.env = pure none := by rfl)
    (h1 : (assignEach [.Subscript o (.Slice lo hi none p2) spos] X.env).map (·.2) = [assign (.Subscript o (.Slice lo hi none p2) spos) X.env] := by rfl) :
    PS X (.Assign [.Subscript o (.Slice lo hi none p2) spos] e pos) (ts C W (msubsl co cl ch c)) := (ps_asg he (pg_subsl ho hl hh ha) hs hw h1).imp fun E σ H ⟨env, st, B, e, r, q⟩ => by
  subst e
  refine (seqS r q).mono fun v H1 ⟨dx, st1, B1, e1, x1, r1, p1, k1⟩ => ?_
  subst e1
  refine (seqS r1 k1).mono fun vo H2 ⟨dy, st2, B2, e2, x2, r2, p2, k2⟩ => ?_
  subst e2
  refine (seqS r2 k2).mono fun l H3 ⟨l', st3, B3, e3, x3, r3, p3, k3⟩ => ?_
  subst e3
  subst p3
  refine (seqS r3 k3).mono fun u H4 ⟨u', st4, B4, e4, x4, r4, p4, k4⟩ => ?_
  subst e4
  subst p4
  obtain ⟨i, rfl⟩ : ∃ i, dy = .ref i := by cases dy <;> first | exact k4.elim | exact ⟨_, rfl⟩
  obtain ⟨ys, rfl⟩ : ∃ ys, dx = .lst ys := by cases dx <;> first | exact k4.elim | exact ⟨_, rfl⟩
  obtain ⟨a, rfl⟩ : ∃ a, l' = some a := by cases l' <;> first | exact k4.elim | exact ⟨_, rfl⟩
  obtain ⟨b, rfl⟩ : ∃ b, u' = some b := by cases u' <;> first | exact k4.elim | exact ⟨_, rfl⟩
  dsimp only at k4
  cases ec : st4[i]? with
  | none => rw [ec] at k4; exact k4.elim
  | some cc =>
    rw [ec] at k4
    cases cc with
    | ins _ _ _ => exact k4.elim
    | dct _ _ => exact k4.elim
    | dtt _ _ => exact k4.elim
    | lst xs =>
      dsimp only at k4
      split at k4
      · rename_i hc
        obtain ⟨h0, h1, h2, hz⟩ := hc
        obtain ⟨ad, had, rfl⟩ := (p2.mono (x3.trans x4)).ref_inv
        obtain ⟨vs, hH, hzz, t⟩ := r4.h.cell i _ ad ec had
        have p1' := p1.mono (x2.trans (x3.trans x4))
        unfold Rep at p1'
        obtain ⟨bd, us, rfl, hz2, ⟨hF, hB⟩, ru⟩ := p1'
        have hne : ad ≠ bd := fun q => r4.h.sep ad (List.mem_of_getElem? had) (by rw [q]; exact hF)
        obtain ⟨x5, r5⟩ := r4.h.write (o := .lst (vs.take a.toNat ++ us ++ vs.drop b.toNat)) (c := .lst (xs.take a.toNat ++ ys ++ xs.drop b.toNat)) had fun B' x e => ⟨_, e, by
          have := t.length
          have := ru.length
          simp only [List.length_append, List.length_take, List.length_drop]; omega, (((t.mono x).take _).append (ru.mono x)).append ((t.mono x).drop _)⟩
        exact ⟨ad, bd, a, b, vs, us, rfl, rfl, rfl, rfl, hne, hH, hB, h0, h1, by rw [t.length]; exact h2, by rw [t.length, ru.length]; exact hz, k4 σ _ x5 (r4.of x5 r5)⟩
      · exact k4.elim
/-! ### a tuple of texts that the module holds -/
def strsB : List Value → List Str → Bool
  | [], [] => true
  | .str x _ :: r, s :: q => x == s && strsB r q
  | _, _ => false
theorem strsB_of : ∀ {vs : List Value} {ss : List Str}, strsB vs ss = true → Vals (ss.map V.str) vs
  | [], [], _ => .nil
  | .str x t :: r, s :: q, h => by
    simp only [strsB, Bool.and_eq_true, beq_iff_eq] at h
    rw [List.map_cons, h.1]
    exact .cons ⟨t, rfl⟩ (strsB_of h.2)
def tupB (K : PySem.W.Frag) (a : Addr) (ss : List Str) : Bool := match K.lookup a with
  | some ⟨.type c, _, .seq its _, _⟩ => c == "tuple" && (decide (its.size ≤ 1000) && strsB its.toList ss)
  | _ => false
structure GlT (K : PySem.W.Frag) (mg : Str → Option Value) (x : Str) (ss : List Str) : Prop where
  ex : ∃ (a : Addr) (o : Obj) (its : Array Value) (n : Nat), mg x = some (.ref a) ∧ K.lookup a = some o ∧ o.cls = .type "tuple" ∧ o.data = .seq its n ∧ its.size ≤ sizeLine ∧ Vals (ss.map V.str) its.toList
theorem glT_mk {K : PySem.W.Frag} {h : Heap} {mg : Str → Option Value} {x : Str} {a : Addr} {ss : List Str} (X : K.In h) (G : h.Ns mainGlobals mg) (e : PySem.W.nsIn K mainGlobals x = some (some (.ref a))) (b : tupB K a ss = true) : GlT K mg x ss := by
  unfold tupB at b
  split at b
  · rename_i c d its n sl q
    simp only [Bool.and_eq_true, beq_iff_eq, decide_eq_true_eq] at b
    exact ⟨a, _, its, n, PySem.W.mg_of X G e, q, by rw [b.1], rfl, Nat.le_trans b.2.1 (by decide), strsB_of b.2.2⟩
  · cases b
theorem e_globT {X : Cx} {C : Ctx} {W : WX} {x : Str} {ss : List Str} {pos : Pos} (T : GlT X.K X.mg x ss) (hK : C.K = X.K := by rfl) (hg : Gl X x := by rfl) (hd : (x == ("__debug__" : Str)) = false := by decide) : PE X (.Name x pos) (te C W (ret (.tup (ss.map .str)))) := by
  obtain ⟨a, o, its, n, e1, e2, e3, e4, e5, e6⟩ := T.ex
  refine e_glob (v := .ref a) hg e1 rfl (fun B => ?_) hd
  refine rep_tup (vs := ss.map V.str) ?_ (.inr ⟨o, its, n, by rw [hK]; exact e2, e3, e4, e5, e6⟩) (RepL.of_strs ss)
  have := e6.length
  rw [this]
  exact e5
end Ly
/-! Texts: walked, joined, split, looked through. -/
namespace Ly
open PySem PySem.Spec PyProof.Rows L2
/-! ### the signs of a text -/
def signs (x : Str) : List D := x.cps.toList.map fun c => .str ⟨#[c]⟩
def walkS (c : M D) : M Src := bnd c fun d => match d with
  | .str x => if x.length ≤ sizeLine then ret ⟨signs x, fun _ => true⟩ else fun _ _ => .bad
  | _ => fun _ _ => .bad
section
variable {X : Cx} {C : Ctx} {W : WX} {tg e : Expr} {c : M D}
theorem i_walkS (h : PE X e (te C W c)) : PI X tg e (ti C W (walkS c)) := (pi_str h).imp fun σ H R ⟨env, st, B, e, r, q⟩ => by
  subst e
  refine (seq r q).mono fun v H1 ⟨d, st1, B1, e1, x1, r1, p1, k1⟩ => ?_
  subst e1
  obtain ⟨x, rfl⟩ : ∃ x, d = .str x := by cases d <;> first | exact k1.elim | exact ⟨_, rfl⟩
  dsimp only at k1
  split at k1
  · rename_i hz
    refine ⟨x, p1.str_inv, k1 _ B1 (Ext.refl _ _) r1 ⟨?_, fun B2 st2 i k R2 ok => ⟨fun hi => ?_, fun d hd => ?_⟩⟩⟩
    · show (signs x).length ≤ sizeLine
      unfold signs
      rw [List.length_map]
      simpa [Str.length] using hz
    · have hi : (signs x).length ≤ i := hi
      unfold signs at hi
      rw [List.length_map] at hi
      show x.cps.size ≤ i
      simpa using hi
    · have hd : (signs x)[i]? = some d := hd
      unfold signs at hd
      rw [List.getElem?_map] at hd
      obtain ⟨c, hc, rfl⟩ := Option.map_eq_some_iff.mp hd
      have hc' : x.cps[i]? = some c := by simpa using hc
      refine ⟨?_, fun y H3 hy => ?_⟩
      · show i < x.cps.size
        exact (Array.getElem?_eq_some_iff.mp hc').1
      · obtain ⟨rfl, c', e1, rfl⟩ := hy
        rw [hc'] at e1
        cases e1
        exact ⟨B2, rfl, Ext.refl _ _, R2, rep_str⟩
  · exact k1.elim
end
/-! ### methods -/
def strL : List D → Option (List Str)
  | [] => some []
  | .str s :: r => (strL r).map (s :: ·)
  | _ => none
theorem strL_map : ∀ {xs : List D} {ss : List Str}, strL xs = some ss → xs = ss.map .str
  | [], ss, h => by cases h; rfl
  | x :: r, ss, h => by
    cases x <;> try (cases h; done)
    rename_i s
    simp only [strL] at h
    obtain ⟨q, e, rfl⟩ := Option.map_eq_some_iff.mp h
    rw [strL_map e]; rfl
theorem strL_of (ss : List Str) : strL (ss.map .str) = some ss := by
  induction ss with
  | nil => rfl
  | cons s r ih => rw [List.map_cons]; simp only [strL, ih, Option.map_some]
def itemsOf (st : Sto) : D → Option (List D)
  | .tup xs => some xs
  | d => rdOf st d
def fJoin (x : D) (ys : List D) (st : Sto) : Option (D × Sto) := match x, ys with
  | .str a, [d] => (itemsOf st d).bind fun xs => (strL xs).bind fun ss => if (ss.map (·.length)).sum + ss.length * a.length ≤ 16777216 then some (.str (Txt.join a ss), st) else none
  | _, _ => none
theorem fJoin_ok {C : Ctx} : MethOk C fJoin (fun x xs H Q => ∃ a p, ∃ ys : List Str, x = .str a ∧ xs = [.ref p] ∧ (SqL C.K H p (ys.map V.str) ∨ SqT C.K H p (ys.map V.str)) ∧
    (ys.map (·.length)).sum + ys.length * a.length ≤ 16777216 ∧ Q (.str (Txt.join a ys)) H) := fun B st x xs v vs Q d st' R rx rl e k => by
  unfold fJoin at e
  split at e
  · rename_i a y
    rw [rx.str_inv]
    obtain ⟨u, r, rfl, ry, rn⟩ := rl.cons_inv
    rw [rn.nil_inv]
    cases ei : itemsOf st y with
    | none => rw [ei] at e; cases e
    | some its =>
      rw [ei, Option.bind_some] at e
      cases es : strL its with
      | none => rw [es] at e; cases e
      | some ss =>
        rw [es, Option.bind_some] at e
        split at e
        · rename_i hz
          cases e
          have em := strL_map es
          subst em
          have fin := k (.str (Txt.join a ss)) B (Ext.refl _ _) R rep_str
          unfold itemsOf at ei
          split at ei
          · cases ei
            obtain ⟨p, us, rfl, hz2, hq, t⟩ := ry.tup_inv
            have := t.strs
            subst this
            exact ⟨a, p, ss, rfl, rfl, .inr hq, hz, fin⟩
          · obtain ⟨p, us, rfl, hq, hz2, t⟩ := rdOf_rep R ei ry
            have := t.strs
            subst this
            exact ⟨a, p, ss, rfl, rfl, .inl hq, hz, fin⟩
        · cases e
  · cases e
def fSplit (x : D) (ys : List D) (st : Sto) : Option (D × Sto) := match x, ys with
  | .str a, [.str b] => if (b.length == 0) = false ∧ a.length + 2 ≤ sizeLine then some (.lst ((Txt.split a b).map .str), st) else none
  | _, _ => none
theorem fSplit_ok {C : Ctx} : MethOk C fSplit (fun x xs H Q => ∃ a b, x = .str a ∧ xs = [.str b] ∧ (b.length == 0) = false ∧ a.length + 2 ≤ sizeLine ∧ rNewStrs (Txt.split a b) H Q) := fun B st x xs v vs Q d st' R rx rl e k => by
  unfold fSplit at e
  split at e
  · rename_i a b
    split at e
    · rename_i hc
      cases e
      rw [rx.str_inv]
      obtain ⟨u, r, rfl, ry, rn⟩ := rl.cons_inv
      rw [rn.nil_inv, ry.str_inv]
      refine ⟨a, b, rfl, rfl, hc.1, hc.2, fun p hp => ?_⟩
      have hl : (Txt.split a b).length ≤ sizeLine := Nat.le_trans (PyProof.Rows.split_le a b) hc.2
      obtain ⟨x2, r2, q⟩ := new_list R hp (vs := (Txt.split a b).map V.str) (ds := (Txt.split a b).map D.str) (by rw [List.length_map]; exact hl) (RepL.of_strs _)
      obtain ⟨B2, e2, x3, r3, q3⟩ := q.tree r2
      have e2' : B2.H = upd B.H p (.lst ((Txt.split a b).map V.str)) := e2
      rw [← e2']
      exact k (.ref p) B2 (x2.trans x3) r3 q3
    · cases e
  · cases e
def fSIndex (x : D) (ys : List D) (st : Sto) : Option (D × Sto) := match x, ys with
  | .str a, [.str b] => (Builtin.Str.occurrences a b 0 a.length 1).head?.map fun i => (.int (i : Nat), st)
  | _, _ => none
theorem fSIndex_ok {C : Ctx} : MethOk C fSIndex (fun x xs H Q => ∃ a b i rest, x = .str a ∧ xs = [.str b] ∧ Builtin.Str.occurrences a b 0 a.length 1 = i :: rest ∧ Q (.int (i : Nat)) H) := fun B st x xs v vs Q d st' R rx rl e k => by
  unfold fSIndex at e
  split at e
  · rename_i a b
    rw [rx.str_inv]
    obtain ⟨u, r, rfl, ry, rn⟩ := rl.cons_inv
    rw [rn.nil_inv, ry.str_inv]
    cases eo : Builtin.Str.occurrences a b 0 a.length 1 with
    | nil => rw [eo] at e; cases e
    | cons i rest =>
      rw [eo] at e
      cases e
      exact ⟨a, b, i, rest, rfl, rfl, eo, k _ B (Ext.refl _ _) R rep_int⟩
  · cases e
def fUpper (x : D) (ys : List D) (st : Sto) : Option (D × Sto) := match x, ys with
  | .str a, [] => if a.length ≤ 5592405 then some (.str (Txt.upper a), st) else none
  | _, _ => none
theorem fUpper_ok {C : Ctx} : MethOk C fUpper (fun x xs H Q => ∃ a, x = .str a ∧ xs = [] ∧ a.length ≤ 5592405 ∧ Q (.str (Txt.upper a)) H) := fun B st x xs v vs Q d st' R rx rl e k => by
  unfold fUpper at e
  split at e
  · rename_i a
    split at e
    · rename_i hc
      cases e
      rw [rx.str_inv, rl.nil_inv]
      exact ⟨a, rfl, rfl, hc, k _ B (Ext.refl _ _) R rep_str⟩
    · cases e
  · cases e
section
variable {X : Cx} {C : Ctx} {W : WX} {o e : Expr} {co : M D} {as : M (List D)} {apos cpos : Pos}
theorem e_join (hK : C.K = X.K := by rfl) (ho : PE X o (te C W co)) (ha : PA X [e] (ta C W as)) (hbase : attributeBase o "join" X.env (eval o X.env) = eval o X.env := by rfl)
    (hfew : ((backTo cpos (starEach [e] X.env)).all (fun x => !x.1) && (backToKw cpos (keywordEach [] X.env)).all (fun x => x.1.isSome) && decide ([e].length + ([] : List Keyword).length + (if ([] : List Keyword).isEmpty then 0 else 1) < 30)) = true := by rfl) (hline : (apos.endLine == cpos.line) = true := by rfl)
    (he : starEach [e] X.env = (false, eval e X.env) :: starEach [] X.env := by rfl) (hpl : (backTo cpos (starEach [] X.env)).any (·.1) = false := by rfl) : PE X (.Call (.Attribute o "join" apos) [e] [] cpos) (te C W (meth "str" fJoin co as)) :=
  e_meth hK PySem.F.plainAttrs_str PySem.F.slot_str_join PySem.F.type_str_join (hK ▸ mt_join) fJoin_ok ho ha hbase hfew hline he hpl
theorem e_split (hK : C.K = X.K := by rfl) (ho : PE X o (te C W co)) (ha : PA X [e] (ta C W as)) (hbase : attributeBase o "split" X.env (eval o X.env) = eval o X.env := by rfl)
    (hfew : ((backTo cpos (starEach [e] X.env)).all (fun x => !x.1) && (backToKw cpos (keywordEach [] X.env)).all (fun x => x.1.isSome) && decide ([e].length + ([] : List Keyword).length + (if ([] : List Keyword).isEmpty then 0 else 1) < 30)) = true := by rfl) (hline : (apos.endLine == cpos.line) = true := by rfl)
    (he : starEach [e] X.env = (false, eval e X.env) :: starEach [] X.env := by rfl) (hpl : (backTo cpos (starEach [] X.env)).any (·.1) = false := by rfl) : PE X (.Call (.Attribute o "split" apos) [e] [] cpos) (te C W (meth "str" fSplit co as)) :=
  e_meth hK PySem.F.plainAttrs_str PySem.F.slot_str_split PySem.F.type_str_split mt_split fSplit_ok ho ha hbase hfew hline he hpl
theorem e_sindex (hK : C.K = X.K := by rfl) (ho : PE X o (te C W co)) (ha : PA X [e] (ta C W as)) (hbase : attributeBase o "index" X.env (eval o X.env) = eval o X.env := by rfl)
    (hfew : ((backTo cpos (starEach [e] X.env)).all (fun x => !x.1) && (backToKw cpos (keywordEach [] X.env)).all (fun x => x.1.isSome) && decide ([e].length + ([] : List Keyword).length + (if ([] : List Keyword).isEmpty then 0 else 1) < 30)) = true := by rfl) (hline : (apos.endLine == cpos.line) = true := by rfl)
    (he : starEach [e] X.env = (false, eval e X.env) :: starEach [] X.env := by rfl) (hpl : (backTo cpos (starEach [] X.env)).any (·.1) = false := by rfl) : PE X (.Call (.Attribute o "index" apos) [e] [] cpos) (te C W (meth "str" fSIndex co as)) :=
  e_meth hK PySem.F.plainAttrs_str PySem.F.slot_str_index PySem.F.type_str_index mt_sindex fSIndex_ok ho ha hbase hfew hline he hpl
theorem e_upper (hK : C.K = X.K := by rfl) (ho : PE X o (te C W co)) (hbase : attributeBase o "upper" X.env (eval o X.env) = eval o X.env := by rfl) (hline : (apos.endLine == cpos.line) = true := by rfl) : PE X (.Call (.Attribute o "upper" apos) [] [] cpos) (te C W (meth0 "str" fUpper co)) :=
  e_meth0 hK PySem.F.plainAttrs_str PySem.F.slot_str_upper PySem.F.type_str_upper mt_upper fUpper_ok ho hbase hline
end
end Ly
/-! Shared computations. -/
namespace Pg
open PySem PySem.Spec PyProof.Rows L2 Ly
def b_is_whole : MS := (mblock [(mret (vand (un (opIsi ["int"]) (mvar 0)) (vand (vnot (un (opIsi ["bool"]) (mvar 0))) (chain opLe opLe (mvar 1) (mvar 0) (mvar 2)))))])
def f_is_whole : List D → Sto → R D := fn 3 3 b_is_whole
def b_Ear_init : MS := (mblock [(mfld "Ear" "heard" (mvar 0) (dtup [])),
  (mfld "Ear" "past" (mvar 0) (box (dlst []))),
  (mfld "Ear" "later" (mvar 0) (box (dlst [])))])
def f_Ear_init : List D → Sto → R D := fn 1 1 b_Ear_init
def b_Ear_many : MS := (mblock [(mret (calls fLen (args [(un (attrD "Ear" "heard") (mvar 0))])))])
def f_Ear_many : List D → Sto → R D := fn 1 1 b_Ear_many
def b_are_bytes : MS := (mblock [(mcond (mor (mnot (tst (un (opIsi ["list", "tuple"]) (mvar 0)))) (mnot (tst (chain opLe opLe (mvar 1) (calls fLen (args [(mvar 0)])) (mvar 2))))) (mblock [(mret (ret (.bl false)))]) (mblock [])),
  (mret (calls fAll (args [(tree (comp (walk (mvar 0)) (.nm 3) [3] (ret true) (callF Pg.f_is_whole (args [(mvar 3), (ret (.int 0)), (ret (.int 255))]))))])))])
def f_are_bytes : List D → Sto → R D := fn 3 4 b_are_bytes
def b_is_frame : MS := (mblock [(mret (vand (un (opIsi ["tuple"]) (mvar 0)) (vand (callF Pg.f_are_bytes (args [(mvar 0), (ret (.int 2)), (ret (.int 20))])) (bin opEq (bin opMod (calls fSumA (args [(mvar 0)])) (ret (.int 256))) (ret (.int 0))))))])
def f_is_frame : List D → Sto → R D := fn 1 1 b_is_frame
def b_law_frame : MS := (mblock [(mset 2 (bin opAdd (ret (.int 1)) (callF stdPick (args [(mvar 0), (mvar 1), (ret (.int 99))])))),
  (mset 3 (callF stdPick (args [(mvar 0), (bin opAdd (mvar 1) (ret (.int 1))), (ret (.int 5))]))),
  (mcond (tst (bin opEq (mvar 3) (ret (.int 0)))) (mblock [(mset 4 (box (dlst [(mvar 2), (ret (.int 1)), (callF stdPick (args [(mvar 0), (bin opAdd (mvar 1) (ret (.int 2))), (ret (.int 16))])), (callF stdPick (args [(mvar 0), (bin opAdd (mvar 1) (ret (.int 3))), (ret (.int 16))]))]))),
  (mdo (meth "list" fExtendA (mvar 4) (args [(tree (dlst [(bin opAdd (ret (.int 1)) (callF stdPick (args [(mvar 0), (bin opAdd (mvar 1) (ret (.int 4))), (ret (.int 8))])))]))])))]) (mblock [(mcond (tst (bin opEq (mvar 3) (ret (.int 1)))) (mblock [(mset 4 (box (dlst [(mvar 2), (ret (.int 2)), (callF stdPick (args [(mvar 0), (bin opAdd (mvar 1) (ret (.int 2))), (ret (.int 16))])), (callF stdPick (args [(mvar 0), (bin opAdd (mvar 1) (ret (.int 3))), (ret (.int 16))]))]))),
  (mset 4 (box (bin catN (mvar 4) (tree (comp (range1 (args [(bin opAdd (ret (.int 1)) (callF stdPick (args [(mvar 0), (bin opAdd (mvar 1) (ret (.int 4))), (ret (.int 8))])))])) (.nm 6) [6] (ret true) (callF stdPick (args [(mvar 0), (bin opAdd (bin opAdd (mvar 1) (ret (.int 5))) (mvar 6)), (ret (.int 256))])))))))]) (mblock [(mset 5 (bin opIx (tree (dlst [(ret (.int 4)), (ret (.int 30)), (ret (.int 256))])) (bin opSub (mvar 3) (ret (.int 2))))),
  (mset 4 (box (comp (range1 (args [(bin opAdd (ret (.int 1)) (callF stdPick (args [(mvar 0), (bin opAdd (mvar 1) (ret (.int 4))), (ret (.int 19))])))])) (.nm 6) [6] (ret true) (callF stdPick (args [(mvar 0), (bin opAdd (bin opAdd (mvar 1) (ret (.int 5))) (mvar 6)), (mvar 5)])))))]))])),
  (mret (bin opAdd (calls fTuple (args [(mvar 4)])) (dtup [(bin opMod (bin opSub (ret (.int 256)) (bin opMod (calls fSumA (args [(mvar 4)])) (ret (.int 256)))) (ret (.int 256)))])))])
def f_law_frame : List D → Sto → R D := fn 2 7 b_law_frame
def b_packed : MS := (mblock [(mcond (mor (mnot (tst (un (opIsi ["list", "tuple"]) (mvar 0)))) (mor (tst (bin opGt (calls fLen (args [(mvar 0)])) (ret (.int 20)))) (mnot (tst (calls fAll (args [(tree (comp (walk (mvar 0)) (.nm 3) [3] (ret true) (callF Pg.f_is_frame (args [(mvar 3)]))))])))))) (mblock [(mraise ("NoFrame" : Str))]) (mblock [])),
  (mset 1 (box (dlst []))),
  (mpre [2] (mfor (walk (mvar 0)) (.nm 2) (mdrop [2] (mblock [(mdo (meth "list" fAppend (mvar 1) (args [(calls fLen (args [(mvar 2)]))]))),
  (mdo (meth "list" fExtendA (mvar 1) (args [(mvar 2)])))])))),
  (mret (calls fTuple (args [(mvar 1)])))])
def f_packed : List D → Sto → R D := fn 1 4 b_packed
def b_next_in : MS := (mblock [(mcond (mnot (tst (chain opLe opLe (ret (.int 2)) (bin opIx (mvar 0) (ret (.int 0))) (ret (.int 20))))) (mblock [(mret (dtup [(ret .non), (ret (.bl false))]))]) (mblock [])),
  (mcond (tst (bin opLe (calls fLen (args [(mvar 0)])) (bin opIx (mvar 0) (ret (.int 0))))) (mblock [(mret (dtup [(ret .non), (ret (.bl true))]))]) (mblock [])),
  (mset 1 (calls fTuple (args [(slice opSl (mvar 0) (part (ret (.int 1))) (part (bin opAdd (bin opIx (mvar 0) (ret (.int 0))) (ret (.int 1)))))]))),
  (mret (dtup [(mif (tst (callF Pg.f_is_frame (args [(mvar 1)]))) (mvar 1) (ret .non)), (ret (.bl false))]))])
def f_next_in : List D → Sto → R D := fn 1 2 b_next_in
def b_found_in : MS := (mblock [(mset 1 (box (dlst []))),
  (mset 2 (ret (.int 0))),
  (mpre [3, 4] (mwhile 100000 (tst (bin opLt (mvar 2) (calls fLen (args [(mvar 0)])))) (mdrop [3, 4] (mblock [(mput (.tp [3, 4]) (callF Pg.f_next_in (args [(slice opSl (mvar 0) (part (mvar 2)) (ret none))]))),
  (mcond (tst (mvar 4)) (mblock [(mret (dtup [(mvar 1), (mvar 2)]))]) (mblock [])),
  (mcond (tst (bin opNotN (mvar 3) (ret .non))) (mblock [(mdo (meth "list" fAppend (mvar 1) (args [(dtup [(mvar 2), (mvar 3)])]))),
  (mset 2 (bin opAdd (mvar 2) (calls fLen (args [(mvar 3)]))))]) (mblock [])),
  (mset 2 (bin opAdd (mvar 2) (ret (.int 1))))])))),
  (mret (dtup [(mvar 1), (mvar 2)]))])
def f_found_in : List D → Sto → R D := fn 1 5 b_found_in
def b_Ear_frames : MS := (mblock [(mret (tree (comp (walk (bin opIx (callF Pg.f_found_in (args [(un (attrD "Ear" "heard") (mvar 0))])) (ret (.int 0)))) (.tp [1, 2]) [1, 2] (ret true) (mvar 2))))])
def f_Ear_frames : List D → Sto → R D := fn 1 3 b_Ear_frames
def b_Ear_spots : MS := (mblock [(mret (tree (comp (walk (bin opIx (callF Pg.f_found_in (args [(un (attrD "Ear" "heard") (mvar 0))])) (ret (.int 0)))) (.tp [1, 2]) [1, 2] (ret true) (mvar 1))))])
def f_Ear_spots : List D → Sto → R D := fn 1 3 b_Ear_spots
def b_Ear_undecided : MS := (mblock [(mret (bin opSub (calls fLen (args [(un (attrD "Ear" "heard") (mvar 0))])) (bin opIx (callF Pg.f_found_in (args [(un (attrD "Ear" "heard") (mvar 0))])) (ret (.int 1)))))])
def f_Ear_undecided : List D → Sto → R D := fn 1 1 b_Ear_undecided
def b_Ear_hear : MS := (mblock [(mcond (mor (mnot (tst (un (opIsi ["list", "tuple"]) (mvar 1)))) (mnot (tst (callF Pg.f_are_bytes (args [(mvar 1), (ret (.int 0)), (calls fLen (args [(mvar 1)]))]))))) (mblock [(mraise ("NoFrame" : Str))]) (mblock [])),
  (mcond (tst (bin opGt (bin opAdd (calls fLen (args [(un (attrD "Ear" "heard") (mvar 0))])) (calls fLen (args [(mvar 1)]))) (ret (.int 400)))) (mblock [(mraise ("Full" : Str))]) (mblock [])),
  (mset 2 (calls fLen (args [(callO "Ear" "frames" Pg.f_Ear_frames (mvar 0) (args []))]))),
  (mdo (meth "list" fAppend (un (attrD "Ear" "past") (mvar 0)) (args [(un (attrD "Ear" "heard") (mvar 0))]))),
  (mfld "Ear" "later" (mvar 0) (box (dlst []))),
  (mfld "Ear" "heard" (mvar 0) (bin opAdd (un (attrD "Ear" "heard") (mvar 0)) (calls fTuple (args [(mvar 1)])))),
  (mret (slice opSl (callO "Ear" "frames" Pg.f_Ear_frames (mvar 0) (args [])) (part (mvar 2)) (ret none)))])
def f_Ear_hear : List D → Sto → R D := fn 2 3 b_Ear_hear
end Pg
/-! Frames, ears: what the shared computations come to. -/
namespace Pg
open PySem PySem.Spec PyProof.Rows L2 Ly

/-! ### helpers -/
theorem loopC_mapK {α : Type} {ok : Sto → Bool} {p : Pat} {cond : M Bool} {elt : M D} {env : Ev} {st : Sto} (hok : ok st = true) (g f : α → D) (c : α → Bool) (e : α → Ev) : ∀ l : List α, (∀ a ∈ l, asg p (g a) env = some (e a) ∧ cond (e a) st = .ok (c a) st ∧ (c a = true → elt (e a) st = .ok (f a) st)) →
    loopC ok p cond elt env (l.map g) st = .ok ((l.filter c).map f) st
  | [], _ => by unfold loopC; rw [List.map_nil]; simp [hok]
  | a :: l, h => by
    obtain ⟨h1, h2, h3⟩ := h a List.mem_cons_self
    have ih := loopC_mapK hok g f c e l fun b hb => h b (List.mem_cons_of_mem _ hb)
    rw [List.map_cons]
    unfold loopC
    rw [if_pos hok, h1]
    dsimp only
    rw [h2]
    cases hc : c a with
    | true =>
      dsimp only
      rw [h3 hc]
      dsimp only
      rw [ih, List.filter_cons_of_pos hc]
      rfl
    | false =>
      dsimp only
      rw [ih, List.filter_cons_of_neg (by simp [hc])]
theorem loopC_all {α : Type} {ok : Sto → Bool} {p : Pat} {elt : M D} {env : Ev} {st : Sto} (hok : ok st = true) (g f : α → D) (e : α → Ev) (l : List α) (h : ∀ a ∈ l, asg p (g a) env = some (e a) ∧ elt (e a) st = .ok (f a) st) :
    loopC ok p (ret true) elt env (l.map g) st = .ok (l.map f) st := by
  have := loopC_mapK (cond := ret true) hok g f (fun _ => true) e l fun a ha => ⟨(h a ha).1, rfl, fun _ => (h a ha).2⟩
  rwa [List.filter_eq_self.mpr (fun _ _ => rfl)] at this
theorem gcR_fz {st g : Sto} {d d' : D} (h : fz st.length (st ++ g) d = some d') : gcR st (.ok d (st ++ g)) = .ok d' st := by
  unfold gcR
  dsimp only
  rw [if_pos (gcOk_same _ _ _), h]
  simp
/-- an older place holds a newer one: nothing is given up -/
theorem gcR_kept {st st' : Sto} {d : D} {i : Nat} {c : Cell} (hi : i < st.length) (h : st'[i]? = some c) (hne : st[i]? ≠ some c) (hc : c.cl st.length = false) : gcR st (.ok d st') = .ok d st' := by
  unfold gcR
  dsimp only
  rw [if_neg]
  intro g
  rcases gcOk_spec g i c hi h with q | q
  · exact hne q
  · rw [hc] at q; cases q
/-- places below are as they were, but for those written -/
theorem gcR_low {st st' : Sto} {d : D} (hl : st'.length = st.length) (hd : D.cl st.length d = true) (h : ∀ (i : Nat) (c : Cell), st'[i]? = some c → st[i]? = some c ∨ c.cl st.length = true) : gcR st (.ok d st') = .ok d st' := by
  unfold gcR
  dsimp only
  have g : gcOk st.length st st' = true := by
    have gen : ∀ (n : Nat) (a b : Sto), b.length = a.length → (∀ (i : Nat) (c : Cell), b[i]? = some c → a[i]? = some c ∨ c.cl n = true) → gcOk n a b = true := by
      intro n a
      induction a with
      | nil => intro b _ _; rfl
      | cons x xs ih =>
        intro b hb hh
        cases b with
        | nil => simp at hb
        | cons y ys =>
          unfold gcOk
          rw [Bool.and_eq_true]
          refine ⟨?_, ih ys (by simpa using hb) fun i c hc => by simpa using hh (i + 1) c (by simpa using hc)⟩
          rcases hh 0 y rfl with q | q
          · have : x = y := by simpa using q
            rw [decide_eq_true this.symm]; rfl
          · rw [q, Bool.or_true]
    exact gen _ _ _ hl h
  rw [if_pos g, fz_cl _ _ _ hd]
  dsimp only
  rw [← hl, List.take_length]

/-! ### sequences of ints -/
inductive Ints (st : Sto) : D → List Int → Prop where
  | tup (xs : List Int) : Ints st (.tup (xs.map .int)) xs
  | lst (xs : List Int) : Ints st (.lst (xs.map .int)) xs
  | ref {p : Nat} {xs : List Int} (h : st[p]? = some (.lst (xs.map .int))) : Ints st (.ref p) xs
section
variable {st : Sto} {d : D} {xs : List Int}
theorem Ints.isi (h : Ints st d xs) : opIsi ["list", "tuple"] d st = some (.bl true, st) := by
  cases h with
  | tup => rfl
  | lst => rfl
  | ref h => unfold opIsi tyN; dsimp only; rw [h]; rfl
theorem Ints.len (h : Ints st d xs) : fLen [d] st = some (.int xs.length, st) := by
  cases h with
  | tup => simp
  | lst => simp
  | ref h => simp [fLen, seqOf, rdOf, lstOf, h]
theorem Ints.src (h : Ints st d xs) : ∃ ok, srcOf st d = some ⟨xs.map .int, ok⟩ ∧ ok st = true := by
  cases h with
  | tup => exact ⟨_, rfl, rfl⟩
  | lst => exact ⟨_, rfl, rfl⟩
  | @ref p xs h => exact ⟨fun st => decide (st[p]? = some (.lst (xs.map .int))), by unfold srcOf; dsimp only; rw [h], by simp [h]⟩
theorem Ints.tuple (h : Ints st d xs) : fTuple [d] st = some (.tup (xs.map .int), st) := by
  cases h with
  | tup => rfl
  | lst => rfl
  | ref h => exact tuple_ref h
theorem Ints.list (h : Ints st d xs) : fList [d] st = some (xs.map .int, st) := by
  cases h with
  | tup => rfl
  | lst => rfl
  | ref h => simp [fList, seqOf, rdOf, lstOf, h]
theorem Ints.sum (h : Ints st d xs) : fSumA [d] st = some (.int xs.sum, st) := by
  cases h with
  | tup => show (intsOf (xs.map D.int)).map _ = _; rw [intsOf_map]; rfl
  | lst => exact fSum_lst st xs
  | ref h => show (rdOf st (.ref _)).bind _ = _; rw [rdOf_ref h, Option.bind_some, intsOf_map]; rfl
theorem Ints.more (h : Ints st d xs) (l : Sto) : Ints (st ++ l) d xs := by
  cases h with
  | tup => exact .tup _
  | lst => exact .lst _
  | ref h => exact .ref (app_low _ _ h)
end

theorem extA_lst {st : Sto} {p : Nat} {xs : List D} (h : st[p]? = some (.lst xs)) {zs : List D} (hz : xs.length + zs.length ≤ sizeLine) : fExtendA (.ref p) [.lst zs] st = some (.non, st.set p (.lst (xs ++ zs))) := extend_ref h hz
theorem extA_tup {st : Sto} {p : Nat} {xs : List D} (h : st[p]? = some (.lst xs)) {zs : List D} (hz : xs.length + zs.length ≤ sizeLine) : fExtendA (.ref p) [.tup zs] st = some (.non, st.set p (.lst (xs ++ zs))) := by
  unfold fExtendA; dsimp only; rw [h]; dsimp only; rw [if_pos hz]
/-! ### frames.py -/
theorem whole_run (a l h : Int) (st : Sto) : f_is_whole [.int a, .int l, .int h] st = .ok (.bl (decide (l ≤ a) && decide (a ≤ h))) st := by
  unfold f_is_whole b_is_whole
  rw [fn_run (by rfl)]
  by_cases h1 : l ≤ a
  · simp -implicitDefEqProofs [opLe, h1]
    exact gcR_same (by simp)
  · simp -implicitDefEqProofs [opLe, h1]
    exact gcR_same (by simp)
def byt (x : Int) : Bool := decide (0 ≤ x) && decide (x ≤ 255)
def Byt (xs : List Int) : Prop := ∀ x ∈ xs, 0 ≤ x ∧ x ≤ 255
theorem byt_all {xs : List Int} (h : Byt xs) : xs.all byt = true := List.all_eq_true.mpr fun x hx => by
  unfold byt; rw [decide_eq_true (h x hx).1, decide_eq_true (h x hx).2]; rfl
theorem Byt.app {xs ys : List Int} (h : Byt xs) (k : Byt ys) : Byt (xs ++ ys) := fun x hx => (List.mem_append.mp hx).elim (h x) (k x)
theorem Byt.take {xs : List Int} (h : Byt xs) (n : Nat) : Byt (xs.take n) := fun x hx => h x (List.mem_of_mem_take hx)
theorem Byt.drop {xs : List Int} (h : Byt xs) (n : Nat) : Byt (xs.drop n) := fun x hx => h x (List.mem_of_mem_drop hx)
theorem bytes_run {st : Sto} {d : D} {xs : List Int} (h : Ints st d xs) (lo hi : Int) : f_are_bytes [d, .int lo, .int hi] st = .ok (.bl ((decide (lo ≤ xs.length) && decide ((xs.length : Int) ≤ hi)) && xs.all byt)) st := by
  unfold f_are_bytes b_are_bytes
  rw [fn_run (by rfl)]
  obtain ⟨ok, s1, s2⟩ := h.src
  have A : loopC ok (.nm 3) (ret true) (callF f_is_whole (args [(mvar 3), (ret (.int 0)), (ret (.int 255))])) [some d, some (.int lo), some (.int hi), none] (xs.map .int) st = .ok (xs.map fun x => .bl (byt x)) st := by
    refine loopC_all s2 D.int _ (fun x => [some d, some (.int lo), some (.int hi), some (.int x)]) xs fun x _ => ⟨rfl, ?_⟩
    simp -implicitDefEqProofs [whole_run, byt]
  by_cases h1 : lo ≤ xs.length
  · by_cases h2 : (xs.length : Int) ≤ hi
    · simp -implicitDefEqProofs [h.isi, h.len, opLe, h1, h2, s1, wipeE, A]
      exact gcR_same (by simp)
    · simp -implicitDefEqProofs [h.isi, h.len, opLe, h1, h2]
      exact gcR_same (by simp)
  · simp -implicitDefEqProofs [h.isi, h.len, opLe, h1]
    exact gcR_same (by simp)
def isFr (xs : List Int) : Bool := ((decide (2 ≤ (xs.length : Int)) && decide ((xs.length : Int) ≤ 20)) && xs.all byt) && decide (xs.sum % 256 = 0)
theorem frame_run (xs : List Int) (st : Sto) : f_is_frame [.tup (xs.map .int)] st = .ok (.bl (isFr xs)) st := by
  unfold f_is_frame b_is_frame isFr
  rw [fn_run (by rfl)]
  have B := bytes_run (.tup (st := st) xs) 2 20
  have S := (Ints.tup (st := st) xs).sum
  cases hb : ((decide (2 ≤ (xs.length : Int)) && decide ((xs.length : Int) ≤ 20)) && xs.all byt) with
  | true =>
    rw [hb] at B
    simp -implicitDefEqProofs [B, S]
    exact gcR_same (by simp)
  | false =>
    rw [hb] at B
    simp -implicitDefEqProofs [B]
    exact gcR_same (by simp)
structure Frame (xs : List Int) : Prop where
  byt : Byt xs
  l2 : 2 ≤ xs.length
  l20 : xs.length ≤ 20
  sum : xs.sum % 256 = 0
theorem Frame.is {xs : List Int} (h : Frame xs) : isFr xs = true := by
  unfold isFr
  rw [decide_eq_true h.sum, decide_eq_true (show (2 : Int) ≤ xs.length by have := h.l2; omega), decide_eq_true (show (xs.length : Int) ≤ 20 by have := h.l20; omega), byt_all h.byt]
  rfl
theorem isFr_of {xs : List Int} (h : isFr xs = true) : Frame xs := by
  unfold isFr at h
  simp only [Bool.and_eq_true, decide_eq_true_eq, List.all_eq_true, byt] at h
  exact ⟨fun x hx => h.1.2 x hx, by omega, by omega, h.2⟩

/-! ### drawn frames -/
def fr (ps : List Int) : List Int := ps ++ [(256 - ps.sum % 256) % 256]
theorem fr_frame {ps : List Int} (h : Byt ps) (h1 : 1 ≤ ps.length) (h2 : ps.length ≤ 19) : Frame (fr ps) := by
  unfold fr
  refine ⟨fun x hx => ?_, by simp; omega, by simp; omega, ?_⟩
  · rcases List.mem_append.mp hx with hx | hx
    · exact h x hx
    · have := List.mem_singleton.mp hx; omega
  · rw [List.sum_append]; simp only [List.sum_cons, List.sum_nil]; omega
theorem catN_ref {st : Sto} {p : Nat} {xs ys : List D} (h : st[p]? = some (.lst xs)) (z : xs.length + ys.length ≤ sizeLine) : catN (.ref p) (.lst ys) st = some (xs ++ ys, st) := by
  unfold catN
  rw [lstOf_ref h]
  show (if xs.length + ys.length ≤ sizeLine then _ else _) = _
  rw [if_pos z]
def dr (ns : List Int) (at' M : Int) (n : Nat) : List Int := (List.range n).map fun (i : Nat) => pk ns (at' + (i : Int)) M
theorem dr_len (ns : List Int) (at' M : Int) (n : Nat) : (dr ns at' M n).length = n := by unfold dr; simp
theorem dr_byt {ns : List Int} {at' M : Int} (h1 : 0 < M) (h2 : M ≤ 256) (n : Nat) : Byt (dr ns at' M n) := fun x hx => by
  unfold dr at hx
  obtain ⟨i, _, rfl⟩ := List.mem_map.mp hx
  have := pk_range ns (at' + (i : Int)) h1
  omega
theorem pick_any {ns : List Int} (h : ns.length ≤ 63) (k m : Int) (s : Sto) (h0 : 0 ≤ k) (hm : 0 < m) : stdPick [.scr ns, .int k, .int m] s = .ok (.int (pk ns k m)) s := pick_run h0 hm (scr_ok h)
theorem draw_run {ns : List Int} (h : ns.length ≤ 63) {at' : Int} (h0 : 0 ≤ at') {own way x4 x5 : Option D} {m : M D} {M : Int} (hM : 0 < M) (hm : ∀ x s, m [some (.scr ns), some (.int at'), own, way, x4, x5, x] s = .ok (.int M) s) (n : Nat) (s : Sto) :
    loopC (fun _ => true) (.nm 6) (ret true) (callF stdPick (args [(mvar 0), (bin opAdd (bin opAdd (mvar 1) (ret (.int 5))) (mvar 6)), m])) [some (.scr ns), some (.int at'), own, way, x4, x5, none] (rng 0 n) s = .ok ((dr ns (at' + 5) M n).map .int) s := by
  rw [rng_map]
  unfold dr
  rw [List.map_map]
  refine loopC_all (ok := fun _ => true) rfl (fun (i : Nat) => D.int (0 + (i : Int))) _ (fun i => [some (.scr ns), some (.int at'), own, way, x4, x5, some (.int (0 + (i : Int)))]) _ fun i _ => ⟨rfl, ?_⟩
  rw [Int.zero_add]
  simp -implicitDefEqProofs [hm, pick_any h (at' + 5 + (i : Int)) M s (by omega) hM]
theorem lf_run {ns : List Int} (h : ns.length ≤ 63) {at' : Int} (h0 : 0 ≤ at') : ∃ fs, Frame fs ∧ ∀ st, f_law_frame [.scr ns, .int at'] st = .ok (tupD fs) st := by
  have p0 : ∀ s, _ := fun s => pick_any h at' 99 s h0 (by decide)
  have p1 : ∀ s, _ := fun s => pick_any h (at' + 1) 5 s (by omega) (by decide)
  have p2 : ∀ s, _ := fun s => pick_any h (at' + 2) 16 s (by omega) (by decide)
  have p3 : ∀ s, _ := fun s => pick_any h (at' + 3) 16 s (by omega) (by decide)
  have p4 : ∀ s, _ := fun s => pick_any h (at' + 4) 8 s (by omega) (by decide)
  have p5 : ∀ s, _ := fun s => pick_any h (at' + 4) 19 s (by omega) (by decide)
  have r0 := pk_range ns at' (m := 99) (by decide)
  have r1 := pk_range ns (at' + 1) (m := 5) (by decide)
  have r2 := pk_range ns (at' + 2) (m := 16) (by decide)
  have r3 := pk_range ns (at' + 3) (m := 16) (by decide)
  have r4 := pk_range ns (at' + 4) (m := 8) (by decide)
  have r5 := pk_range ns (at' + 4) (m := 19) (by decide)
  by_cases w0 : pk ns (at' + 1) 5 = 0
  · refine ⟨fr [1 + pk ns at' 99, 1, pk ns (at' + 2) 16, pk ns (at' + 3) 16, 1 + pk ns (at' + 4) 8], fr_frame ?_ (by simp) (by simp), fun st => ?_⟩
    · intro x hx
      simp at hx
      omega
    · unfold f_law_frame b_law_frame
      rw [fn_run (by rfl)]
      have I0 := Ints.ref (st := st ++ [.lst [.int (1 + pk ns at' 99), .int 1, .int (pk ns (at' + 2) 16), .int (pk ns (at' + 3) 16), .int (1 + pk ns (at' + 4) 8)]]) (p := st.length) (xs := [1 + pk ns at' 99, 1, pk ns (at' + 2) 16, pk ns (at' + 3) 16, 1 + pk ns (at' + 4) 8]) (by simp)
      have t0 := I0.tuple
      have s0 := I0.sum
      have g0 : (st ++ [Cell.lst [.int (1 + pk ns at' 99), .int 1, .int (pk ns (at' + 2) 16), .int (pk ns (at' + 3) 16)]])[st.length]? = some (.lst [.int (1 + pk ns at' 99), .int 1, .int (pk ns (at' + 2) 16), .int (pk ns (at' + 3) 16)]) := by simp
      have x0 := extA_lst g0 (zs := [.int (1 + pk ns (at' + 4) 8)]) (sz _ (by simp))
      have i0 := isOf_ref g0
      rw [app_set0] at x0
      simp -implicitDefEqProofs [p0, p1, w0, p2, p3, p4, i0, x0, t0, s0, fr, tupD]
      exact gcR_new (by simp)
  · by_cases w1 : pk ns (at' + 1) 5 = 1
    · obtain ⟨n, hn⟩ : ∃ n : Nat, (n : Int) = 1 + pk ns (at' + 4) 8 := ⟨(1 + pk ns (at' + 4) 8).toNat, by omega⟩
      have d2 := dr_len ns (at' + 5) 256 n
      have e1 := range1_nat (n := n) (by omega)
      refine ⟨fr ([1 + pk ns at' 99, 2, pk ns (at' + 2) 16, pk ns (at' + 3) 16] ++ dr ns (at' + 5) 256 n), fr_frame (Byt.app ?_ (dr_byt (by decide) (by decide) n)) (by simp) (by simp; omega), fun st => ?_⟩
      · intro x (hx : x ∈ [1 + pk ns at' 99, 2, pk ns (at' + 2) 16, pk ns (at' + 3) 16])
        simp at hx
        omega
      · unfold f_law_frame b_law_frame
        rw [fn_run (by rfl)]
        have A := fun s => draw_run h h0 (own := some (.int (1 + pk ns at' 99))) (way := some (.int 1)) (x4 := some (.ref st.length)) (x5 := none) (m := ret (.int 256)) (M := 256) (by decide) (fun _ _ => rfl) n s
        generalize dr ns (at' + 5) 256 n = rest at *
        have c0 := catN_ref (st := st ++ [.lst [.int (1 + pk ns at' 99), .int 2, .int (pk ns (at' + 2) 16), .int (pk ns (at' + 3) 16)]]) (p := st.length) (xs := [.int (1 + pk ns at' 99), .int 2, .int (pk ns (at' + 2) 16), .int (pk ns (at' + 3) 16)]) (ys := rest.map .int) (by simp) (sz _ (by simp [d2]; omega))
        simp -implicitDefEqProofs [p0, p1, w1, p2, p3, p4, ← hn, e1, wipeE, A, c0]
        have I0 := Ints.ref (st := st ++ [.lst [.int (1 + pk ns at' 99), .int 2, .int (pk ns (at' + 2) 16), .int (pk ns (at' + 3) 16)], .lst (.int (1 + pk ns at' 99) :: .int 2 :: .int (pk ns (at' + 2) 16) :: .int (pk ns (at' + 3) 16) :: rest.map .int)]) (p := st.length + 1) (xs := (1 + pk ns at' 99) :: 2 :: pk ns (at' + 2) 16 :: pk ns (at' + 3) 16 :: rest) get2b
        have t0 := I0.tuple
        have s0 := I0.sum
        have zz : rest.length + 1 + 1 + 1 + 1 + 1 ≤ sizeLine := sz _ (by omega)
        simp -implicitDefEqProofs [t0, s0, fr, zz, tupD]
        exact gcR_new (by simp [clL_append, clL_ints])
    · obtain ⟨n, hn⟩ : ∃ n : Nat, (n : Int) = 1 + pk ns (at' + 4) 19 := ⟨(1 + pk ns (at' + 4) 19).toNat, by omega⟩
      obtain ⟨M, hM, m1, m2⟩ : ∃ M : Int, atI [D.int 4, D.int 30, D.int 256] (pk ns (at' + 1) 5 - 2) = some (.int M) ∧ 0 < M ∧ M ≤ 256 := by
        have w : pk ns (at' + 1) 5 - 2 = 0 ∨ pk ns (at' + 1) 5 - 2 = 1 ∨ pk ns (at' + 1) 5 - 2 = 2 := by omega
        rcases w with w | w | w <;> rw [w]
        · exact ⟨4, rfl, by decide, by decide⟩
        · exact ⟨30, rfl, by decide, by decide⟩
        · exact ⟨256, rfl, by decide, by decide⟩
      have d2 := dr_len ns (at' + 5) M n
      have e1 := range1_nat (n := n) (by omega)
      refine ⟨fr (dr ns (at' + 5) M n), fr_frame (dr_byt m1 m2 n) (by omega) (by omega), fun st => ?_⟩
      unfold f_law_frame b_law_frame
      rw [fn_run (by rfl)]
      have A := fun s => draw_run h h0 (own := some (.int (1 + pk ns at' 99))) (way := some (.int (pk ns (at' + 1) 5))) (x4 := none) (x5 := some (.int M)) (m := mvar 5) (M := M) m1 (fun _ _ => rfl) n s
      generalize dr ns (at' + 5) M n = rest at *
      have I0 := Ints.ref (st := st ++ [.lst (rest.map .int)]) (p := st.length) (xs := rest) (by simp)
      have t0 := I0.tuple
      have s0 := I0.sum
      have zz : rest.length + 1 ≤ sizeLine := sz _ (by omega)
      simp -implicitDefEqProofs [p0, p1, w0, w1, hM, p2, p3, p5, ← hn, e1, wipeE, A, t0, s0, fr, zz, tupD]
      exact gcR_new (by simp [clL_append, clL_ints])
end Pg
/-! Frames in a row, ears. -/
namespace Pg
open PySem PySem.Spec PyProof.Rows L2 Ly

/-! ### packed -/
inductive Tups (st : Sto) : D → List (List Int) → Prop where
  | tup (fs : List (List Int)) : Tups st (.tup (fs.map tupD)) fs
  | lst (fs : List (List Int)) : Tups st (.lst (fs.map tupD)) fs
  | ref {p : Nat} {fs : List (List Int)} (h : st[p]? = some (.lst (fs.map tupD))) : Tups st (.ref p) fs
section
variable {st : Sto} {d : D} {fs : List (List Int)}
theorem Tups.isi (h : Tups st d fs) : opIsi ["list", "tuple"] d st = some (.bl true, st) := by
  cases h with
  | tup => rfl
  | lst => rfl
  | ref h => unfold opIsi tyN; dsimp only; rw [h]; rfl
theorem Tups.len (h : Tups st d fs) : fLen [d] st = some (.int fs.length, st) := by
  cases h with
  | tup => simp
  | lst => simp
  | ref h => simp [fLen, seqOf, rdOf, lstOf, h]
theorem Tups.src (h : Tups st d fs) : ∃ ok, srcOf st d = some ⟨fs.map tupD, ok⟩ ∧ ok st = true := by
  cases h with
  | tup => exact ⟨_, rfl, rfl⟩
  | lst => exact ⟨_, rfl, rfl⟩
  | @ref p _ h => exact ⟨fun st => decide (st[p]? = some (.lst (fs.map tupD))), by unfold srcOf; dsimp only; rw [h], by simp [h]⟩
theorem Tups.more (h : Tups st d fs) (l : Sto) : Tups (st ++ l) d fs := by
  cases h with
  | tup => exact .tup _
  | lst => exact .lst _
  | ref h => exact .ref (app_low _ _ h)
/-- the source of a walk, over a longer store, too -/
theorem Tups.srcs (h : Tups st d fs) : ∃ ok : Sto → Bool, srcOf st d = some ⟨fs.map tupD, ok⟩ ∧ (∀ l, srcOf (st ++ l) d = some ⟨fs.map tupD, ok⟩ ∧ ok (st ++ l) = true) := by
  cases h with
  | tup => exact ⟨_, rfl, fun l => ⟨rfl, rfl⟩⟩
  | lst => exact ⟨_, rfl, fun l => ⟨rfl, rfl⟩⟩
  | @ref p _ h => exact ⟨fun st => decide (st[p]? = some (.lst (fs.map tupD))), by unfold srcOf; dsimp only; rw [h], fun l => ⟨by unfold srcOf; dsimp only; rw [app_low _ _ h], by simp [app_low _ l h]⟩⟩
end
/-- by the index, over any source -/
theorem forX_ixK {α : Type} {ok : Sto → Bool} {p : Pat} {body : MS} (g : α → D) (l : List α) (E : Nat → Ev) (S : Nat → Sto) (hok : ∀ k, ok (S k) = true)
    (h : ∀ (k : Nat) (hk : k < l.length), ∃ e1, asg p (g l[k]) (E k) = some e1 ∧ (body e1 (S k) = .nx (E (k + 1)) (S (k + 1)) ∨ body e1 (S k) = .ct (E (k + 1)) (S (k + 1)))) :
    forX ok p body (l.map g) (E 0) (S 0) = .nx (E l.length) (S l.length) := by
  induction l generalizing E S with
  | nil => unfold forX; rw [List.map_nil]; simp [hok]
  | cons a l ih =>
    obtain ⟨e1, h2, h3⟩ := h 0 (Nat.zero_lt_succ _)
    have := ih (fun k => E (k + 1)) (fun k => S (k + 1)) (fun k => hok (k + 1)) fun k hk => h (k + 1) (Nat.succ_lt_succ hk)
    rw [List.map_cons]
    unfold forX
    simp only [List.getElem_cons_zero] at h2
    rw [if_pos (hok 0), h2]
    dsimp only
    rcases h3 with h3 | h3 <;> rw [h3] <;> exact this
def pack1 (f : List Int) : List Int := (f.length : Int) :: f
def pack (fs : List (List Int)) : List Int := fs.flatMap pack1
theorem pack_take {fs : List (List Int)} {k : Nat} (h : k < fs.length) : pack (fs.take (k + 1)) = pack (fs.take k) ++ pack1 fs[k] := by
  unfold pack
  rw [List.take_succ_eq_append_getElem h, List.flatMap_append, List.flatMap_cons, List.flatMap_nil, List.append_nil]
theorem pack_len {fs : List (List Int)} (h : ∀ f ∈ fs, f.length ≤ 20) : (pack fs).length ≤ 21 * fs.length := by
  induction fs with
  | nil => simp [pack]
  | cons f fs ih =>
    have h1 := h f List.mem_cons_self
    have h2 := ih fun g hg => h g (List.mem_cons_of_mem _ hg)
    have e : (pack (f :: fs)).length = f.length + 1 + (pack fs).length := by unfold pack; rw [List.flatMap_cons, List.length_append]; rfl
    rw [List.length_cons]; omega
theorem pack_byt {fs : List (List Int)} (h : ∀ f ∈ fs, Frame f) : Byt (pack fs) := fun x hx => by
  unfold pack at hx
  obtain ⟨f, hf, hx⟩ := List.mem_flatMap.mp hx
  have F := h f hf
  rcases List.mem_cons.mp hx with e | hx
  · have := F.l20; omega
  · exact F.byt x hx
theorem frames_all {st : Sto} {d : D} {fs : List (List Int)} {ok : Sto → Bool} (hok : ok st = true) (hf : ∀ f ∈ fs, Frame f) (a b : Option D) : loopC ok (.nm 3) (ret true) (callF f_is_frame (args [(mvar 3)])) [some d, a, b, none] (fs.map tupD) st = .ok (fs.map fun _ => .bl true) st := by
  refine loopC_all hok tupD _ (fun f => [some d, a, b, some (tupD f)]) fs fun f hm => ⟨rfl, ?_⟩
  have := frame_run f st
  rw [(hf f hm).is] at this
  simp -implicitDefEqProofs [tupD, this]
theorem all_yes {α : Type} (xs : List α) : (xs.all fun _ => true) = true := List.all_eq_true.mpr fun _ _ => rfl
theorem packed_run {g : Sto} {d : D} {fs : List (List Int)} (h : Tups g d fs) (hf : ∀ f ∈ fs, Frame f) (h20 : fs.length ≤ 20) : f_packed [d] g = .ok (tupD (pack fs)) g := by
  unfold f_packed b_packed
  rw [fn_run (by rfl)]
  obtain ⟨ok, s1, s2⟩ := h.srcs
  have s0 : ok g = true := by have := (s2 []).2; rwa [List.append_nil] at this
  have A := fun a b => frames_all (d := d) s0 hf a b
  have big : ¬ ((20 : Int) < fs.length) := by omega
  simp -implicitDefEqProofs [h.isi, h.len, opGt, big, s1, wipeE, A, all_yes]
  generalize hb : mdrop [2] _ = bd
  have L := forX_ixK (ok := ok) (p := .nm 2) (body := bd) tupD fs (fun _ => [some d, some (.ref g.length), none, none]) (fun k => g ++ [.lst ((pack (fs.take k)).map .int)]) (fun s => (s2 _).2) fun k hk => by
    subst hb
    refine ⟨_, rfl, .inl ?_⟩
    have hz : (pack (fs.take k)).length ≤ 21 * 20 := by
      have := pack_len (fs := fs.take k) fun f hm => (hf f (List.mem_of_mem_take hm)).l20
      rw [List.length_take] at this
      omega
    have fl := (hf fs[k] (List.getElem_mem hk)).l20
    have g0 : (g ++ [Cell.lst ((pack (fs.take k)).map .int)])[g.length]? = some (.lst ((pack (fs.take k)).map .int)) := by simp
    have a0 := append_ref g0 (by rw [List.length_map]; exact sz_lt _ (by omega)) (.int (fs[k].length : Int))
    rw [app_set0] at a0
    have g1 : (g ++ [Cell.lst ((pack (fs.take k)).map .int ++ [.int (fs[k].length : Int)])])[g.length]? = some (.lst ((pack (fs.take k)).map .int ++ [.int (fs[k].length : Int)])) := by simp
    have x1 := extA_tup g1 (zs := fs[k].map .int) (sz _ (by simp; omega))
    rw [app_set0] at x1
    have i0 := isOf_ref g0
    have i1 := isOf_ref g1
    simp -implicitDefEqProofs only [List.set_cons_zero] at a0 x1
    rw [pack_take hk]
    simp -implicitDefEqProofs [tupD, i0, i1, a0, x1, pack1]
  simp -implicitDefEqProofs only [List.take_zero, List.take_length] at L
  rw [show pack [] = [] from rfl, List.map_nil] at L
  have s3 := (s2 [.lst []]).1
  have I0 := Ints.ref (st := g ++ [.lst ((pack fs).map .int)]) (p := g.length) (xs := pack fs) (by simp)
  simp -implicitDefEqProofs [s3, L, I0.tuple]
  exact gcR_new (by simp [clL_ints])

/-! ### next_in, found_in -/
theorem cut_both {α : Type} (xs : List α) (n m : Nat) : cut xs (some (n : Int)) (some (m : Int)) = (xs.drop n).take (m - n) := by
  unfold cut
  rw [HT.sIx_nat, HT.sIx_nat]
  by_cases h : n ≤ xs.length
  · rw [Nat.min_eq_left h]
    by_cases h2 : m ≤ xs.length
    · rw [Nat.min_eq_left h2]
    · rw [Nat.min_eq_right (show xs.length ≤ m by omega), List.take_of_length_le (by rw [List.length_drop]; omega), List.take_of_length_le (by rw [List.length_drop]; omega)]
  · rw [Nat.min_eq_right (show xs.length ≤ n by omega), List.drop_eq_nil_of_le (Nat.le_refl _), List.drop_eq_nil_of_le (show xs.length ≤ n by omega), List.take_nil, List.take_nil]
theorem cut_one (x : Int) (r : List Int) (k : Nat) : cut ((x :: r).map D.int) (some 1) (some ((k : Int) + 1)) = (r.take k).map .int := by
  rw [cut_map]
  have := cut_both (x :: r) 1 (k + 1)
  rw [show ((k + 1 : Nat) : Int) = (k : Int) + 1 by omega] at this
  exact congrArg _ this
/-- what next_in tells: nothing here; not yet; a frame -/
def nextD (x : Int) (r : List Int) : D :=
  if 2 ≤ x ∧ x ≤ 20 then (if (r.length : Int) < x then .tup [.non, .bl true] else .tup [if isFr (r.take x.toNat) then tupD (r.take x.toNat) else .non, .bl false]) else .tup [.non, .bl false]
theorem next_run (x : Int) (r : List Int) (hr : r.length ≤ 1000) (st : Sto) : f_next_in [tupD (x :: r)] st = .ok (nextD x r) st := by
  unfold f_next_in b_next_in nextD tupD
  rw [fn_run (by rfl)]
  by_cases h1 : 2 ≤ x
  · by_cases h2 : x ≤ 20
    · rw [if_pos ⟨h1, h2⟩]
      by_cases h3 : (r.length : Int) < x
      · rw [if_pos h3]
        have h3' : (r.length : Int) + 1 ≤ x := by omega
        simp -implicitDefEqProofs [opLe, h1, h2, h3']
        exact gcR_same (by simp)
      · rw [if_neg h3]
        have h3' : ¬ (r.length : Int) + 1 ≤ x := by omega
        obtain ⟨k, hk⟩ : ∃ k : Nat, x = (k : Int) := ⟨x.toNat, by omega⟩
        have c1 := cut_one x r k
        rw [← hk] at c1
        have ek : x.toNat = k := by omega
        rw [List.map_cons] at c1
        have F := frame_run (r.take k) st
        rw [ek]
        cases hf : isFr (r.take k) with
        | true =>
          rw [hf] at F
          simp -implicitDefEqProofs [opLe, h1, h2, h3', c1, F, -List.map_take]
          exact gcR_same (by simp [clL_ints, -List.map_take])
        | false =>
          rw [hf] at F
          simp -implicitDefEqProofs [opLe, h1, h2, h3', c1, F, -List.map_take]
          exact gcR_same (by simp)
    · rw [if_neg (fun z => h2 z.2)]
      simp -implicitDefEqProofs [opLe, h1, h2]
      exact gcR_same (by simp)
  · rw [if_neg (fun z => h1 z.1)]
    simp -implicitDefEqProofs [opLe, h1]
    exact gcR_same (by simp)
/-- all frames found from the place on, the place that is not decided -/
def fnd : Nat → Nat → List Int → List (Nat × List Int) × Nat
  | 0, at', _ => ([], at')
  | n + 1, at', xs => match xs.drop at' with
    | [] => ([], at')
    | x :: r => if 2 ≤ x ∧ x ≤ 20 then
        (if (r.length : Int) < x then ([], at') else if isFr (r.take x.toNat) then
          ((at', r.take x.toNat) :: (fnd n (at' + x.toNat + 1) xs).1, (fnd n (at' + x.toNat + 1) xs).2) else fnd n (at' + 1) xs)
      else fnd n (at' + 1) xs
def hitD (p : Nat × List Int) : D := .tup [.int p.1, tupD p.2]
theorem clL_hits (n : Nat) (l : List (Nat × List Int)) : D.clL n (l.map hitD) = true := clL_map n _ (fun p => by unfold hitD tupD; simp [clL_ints]) l
theorem found_loop {g : Sto} {xs : List Int} (hl : xs.length ≤ 1000) {body : MS} (hb : mdrop [3, 4] (mblock [(mput (.tp [3, 4]) (callF Pg.f_next_in (args [(slice opSl (mvar 0) (part (mvar 2)) (ret none))]))),
  (mcond (tst (mvar 4)) (mblock [(mret (dtup [(mvar 1), (mvar 2)]))]) (mblock [])),
  (mcond (tst (bin opNotN (mvar 3) (ret .non))) (mblock [(mdo (meth "list" fAppend (mvar 1) (args [(dtup [(mvar 2), (mvar 3)])]))),
  (mset 2 (bin opAdd (mvar 2) (calls fLen (args [(mvar 3)]))))]) (mblock [])),
  (mset 2 (bin opAdd (mvar 2) (ret (.int 1))))]) = body) : ∀ (n : Nat) (at' : Nat) (made : List (Nat × List Int)), xs.length + 1 ≤ at' + n → at' ≤ xs.length → made.length ≤ at' →
    (mwhile n (tst (bin opLt (mvar 2) (calls fLen (args [(mvar 0)])))) body [some (tupD xs), some (.ref g.length), some (.int at'), none, none] (g ++ [.lst (made.map hitD)])).thn (mret (dtup [(mvar 1), (mvar 2)])) =
      .ret (.tup [.ref g.length, .int (fnd n at' xs).2]) (g ++ [.lst ((made ++ (fnd n at' xs).1).map hitD)])
  | 0, at', made, h, h2, h3 => by omega
  | n + 1, at', made, h, h2, h3 => by
    have ih := found_loop (g := g) hl hb n
    have c0 : cut (xs.map D.int) (some (at' : Int)) none = (xs.drop at').map .int := by rw [cut_map]; exact congrArg _ (cut_from xs at')
    have T : (tst (bin opLt (mvar 2) (calls fLen (args [(mvar 0)])))) [some (tupD xs), some (.ref g.length), some (.int at'), none, none] (g ++ [.lst (made.map hitD)]) = .ok (decide ((at' : Int) < xs.length)) (g ++ [.lst (made.map hitD)]) := by simp -implicitDefEqProofs [tupD, opLt]
    unfold fnd
    cases hd : xs.drop at' with
    | nil =>
      have hlen : ¬ (at' : Int) < xs.length := by
        have := congrArg List.length hd
        rw [List.length_drop] at this
        simp at this
        omega
      rw [decide_eq_false hlen] at T
      rw [while_stop T]
      simp -implicitDefEqProofs
    | cons x r =>
      have lr : xs.length = at' + 1 + r.length := by
        have := congrArg List.length hd
        rw [List.length_drop, List.length_cons] at this
        omega
      rw [decide_eq_true (show (at' : Int) < xs.length by omega)] at T
      have N' : f_next_in [D.tup ((x :: r).map D.int)] (g ++ [.lst (made.map hitD)]) = .ok (nextD x r) (g ++ [.lst (made.map hitD)]) := next_run x r (by omega) _
      have g0 : (g ++ [Cell.lst (made.map hitD)])[g.length]? = some (.lst (made.map hitD)) := by simp
      have i0 := isOf_ref g0
      rw [hd] at c0
      unfold nextD at N'
      dsimp only
      rw [List.map_cons] at c0 N'
      by_cases w : 2 ≤ x ∧ x ≤ 20
      · rw [if_pos w] at N' ⊢
        by_cases w2 : (r.length : Int) < x
        · rw [if_pos w2] at N' ⊢
          have BR : body [some (tupD xs), some (.ref g.length), some (.int at'), none, none] (g ++ [.lst (made.map hitD)]) = .ret (.tup [.ref g.length, .int at']) (g ++ [.lst (made.map hitD)]) := by
            subst hb
            simp -implicitDefEqProofs [tupD, c0, N']
          rw [while_ret T BR, thn_ret, List.append_nil]
        · rw [if_neg w2] at N' ⊢
          cases w3 : isFr (r.take x.toNat) with
          | true =>
            rw [w3, if_pos rfl] at N'
            rw [if_pos rfl]
            have F := isFr_of w3
            have tl : (r.take x.toNat).length = x.toNat := by rw [List.length_take]; omega
            have a0 := append_ref g0 (by rw [List.length_map]; exact sz_lt _ (by omega)) (hitD (at', r.take x.toNat))
            rw [app_set0] at a0
            simp -implicitDefEqProofs only [List.set_cons_zero] at a0
            have ih2 := ih (at' + x.toNat + 1) (made ++ [(at', r.take x.toNat)]) (by omega) (by omega) (by simp; omega)
            have e1 : (at' : Int) + ((r.take x.toNat).length : Int) + 1 = ((at' + x.toNat + 1 : Nat) : Int) := by rw [tl]; omega
            have BR : body [some (tupD xs), some (.ref g.length), some (.int at'), none, none] (g ++ [.lst (made.map hitD)]) = .nx [some (tupD xs), some (.ref g.length), some (.int ((at' + x.toNat + 1 : Nat) : Int)), none, none] (g ++ [.lst ((made ++ [(at', r.take x.toNat)]).map hitD)]) := by
              rw [← e1, List.map_append, List.map_cons, List.map_nil]
              subst hb
              generalize r.take x.toNat = fr at *
              unfold hitD tupD at *
              simp -implicitDefEqProofs [tupD, c0, N', i0, a0]
            rw [while_go T BR, ih2, List.append_assoc, List.singleton_append]
          | false =>
            rw [w3] at N'
            have ih2 := ih (at' + 1) made (by omega) (by omega) (by omega)
            have BR : body [some (tupD xs), some (.ref g.length), some (.int at'), none, none] (g ++ [.lst (made.map hitD)]) = .nx [some (tupD xs), some (.ref g.length), some (.int ((at' + 1 : Nat) : Int)), none, none] (g ++ [.lst (made.map hitD)]) := by
              subst hb
              simp -implicitDefEqProofs [tupD, c0, N']
            rw [while_go T BR, ih2]
            rfl
      · rw [if_neg w] at N' ⊢
        have ih2 := ih (at' + 1) made (by omega) (by omega) (by omega)
        have BR : body [some (tupD xs), some (.ref g.length), some (.int at'), none, none] (g ++ [.lst (made.map hitD)]) = .nx [some (tupD xs), some (.ref g.length), some (.int ((at' + 1 : Nat) : Int)), none, none] (g ++ [.lst (made.map hitD)]) := by
          subst hb
          simp -implicitDefEqProofs [tupD, c0, N']
        rw [while_go T BR, ih2]
/-- frames found, the place that is not decided -/
def found (xs : List Int) : List (Nat × List Int) × Nat := fnd (xs.length + 1) 0 xs
theorem fnd_more {xs : List Int} : ∀ (n m at' : Nat), xs.length + 1 ≤ at' + n → n ≤ m → fnd n at' xs = fnd m at' xs
  | 0, m, at', h, _ => by
    have hd : xs.drop at' = [] := List.drop_eq_nil_of_le (by omega)
    cases m with
    | zero => rfl
    | succ m => unfold fnd; rw [hd]
  | n + 1, 0, at', h, h2 => by omega
  | n + 1, m + 1, at', h, h2 => by
    unfold fnd
    cases hd : xs.drop at' with
    | nil => rfl
    | cons x r =>
      have h1 := fnd_more (xs := xs) n m (at' + 1) (by omega) (by omega)
      have h3 := fnd_more (xs := xs) n m (at' + x.toNat + 1) (by omega) (by omega)
      dsimp only
      rw [h1, h3]
theorem found_run {xs : List Int} (hl : xs.length ≤ 1000) (g : Sto) : f_found_in [tupD xs] g = .ok (.tup [.lst ((found xs).1.map hitD), .int (found xs).2]) g := by
  unfold f_found_in b_found_in
  rw [fn_run (by rfl)]
  have L := found_loop (g := g) hl rfl 100000 0 [] (by omega) (by omega) (by simp)
  rw [← fnd_more (xs.length + 1) 100000 0 (by omega) (by omega)] at L
  rw [List.map_nil, List.nil_append, Int.natCast_zero] at L
  simp -implicitDefEqProofs only [mblock_cons, mblock_one, mset_run, box_run, dlst_run, Ly.args_nil, nxt_ok, toS_ok, ret_run, mpre_run, drops_cons, drops_nil, thn_nx, List.length_nil, Nat.zero_le, if_true, List.map_cons, List.map_nil, List.length_cons, List.replicate, List.cons_append, List.nil_append, List.set_cons_zero, List.set_cons_succ]
  refine Eq.trans (congrArg (fun r => gcR g (Ly.finish r)) L) ?_
  exact gcR_fz (by unfold found; simp [fz, fzL, clL_hits])

/-! ### ears -/
@[simp] theorem lkE1 (a b c : D) : lk ["heard", "past", "later"] [a, b, c] "heard" = some a := rfl
@[simp] theorem lkE2 (a b c : D) : lk ["heard", "past", "later"] [a, b, c] "past" = some b := rfl
@[simp] theorem lkE3 (a b c : D) : lk ["heard", "past", "later"] [a, b, c] "later" = some c := rfl
@[simp] theorem pkE1 : putK "heard" (["heard", "past", "later"] : List Str) = (["heard", "past", "later"] : List Str) := rfl
@[simp] theorem pkE3 : putK "later" (["heard", "past", "later"] : List Str) = (["heard", "past", "later"] : List Str) := rfl
@[simp] theorem pkE2 : putK "past" (["heard", "past", "later"] : List Str) = (["heard", "past", "later"] : List Str) := rfl
@[simp] theorem pxE1 (a b c d : D) : putX "heard" d ["heard", "past", "later"] [a, b, c] = [d, b, c] := rfl
@[simp] theorem pxE2 (a b c d : D) : putX "past" d ["heard", "past", "later"] [a, b, c] = [a, d, c] := rfl
@[simp] theorem pxE3 (a b c d : D) : putX "later" d ["heard", "past", "later"] [a, b, c] = [a, b, d] := rfl
def earC (h : List Int) (a b : Nat) : Cell := .ins "Ear" ["heard", "past", "later"] [tupD h, .ref a, .ref b]
structure Ear where
  heard : List Int
  past : List (List Int)
  later : List (List Int)
/-- an ear stands at p -/
structure EarAt (st : Sto) (p a b : Nat) (e : Ear) : Prop where
  obj : st[p]? = some (earC e.heard a b)
  past : st[a]? = some (.lst (e.past.map tupD))
  later : st[b]? = some (.lst (e.later.map tupD))
  ne : a ≠ b
  byt : Byt e.heard
  len : e.heard.length ≤ 400
theorem attr_ref {st : Sto} {p : Nat} {c : Str} {ks : List Str} {xs : List D} (h : st[p]? = some (.ins c ks xs)) (f : Str) : attrD c f (.ref p) st = (lk ks xs f).map fun d => (d, st) := by
  unfold attrD; dsimp only; rw [h]; dsimp only; rw [if_pos rfl]
@[simp] theorem mfld_run (c f : Str) (o v : M D) (e : Ev) (st : Sto) : mfld c f o v e st = (v e st).toS e fun x st1 => (o e st1).toS e fun y st2 => (match y with
  | .ref i => (match st2[i]? with
    | some (.ins c' ks xs) => if c' = c ∧ ks.length < 1000 then .nx e (st2.set i (.ins c (putK f ks) (putX f x ks xs))) else .bad
    | _ => .bad)
  | _ => .bad) := by
  unfold mfld; rw [mk_run]; congr
@[simp] theorem callO_run (c m : Str) (f : List D → Sto → R D) (o : M D) (as : M (List D)) (e : Ev) (st : Sto) : callO c m f o as e st = (o e st).nxt fun x st1 => if isObj c m st1 x = true then (as e st1).nxt fun ds st2 => f (x :: ds) st2 else .bad := by
  unfold callO; rw [bnd_run]; congr
@[simp] theorem mkO_run (c : Str) (f : List D → Sto → R D) (as : M (List D)) (e : Ev) (st : Sto) : mkO c f as e st = (as e st).nxt fun ds st1 => newO c f ds st1 := by
  unfold mkO; rw [bnd_run]
section
variable {st : Sto} {p a b : Nat} {e : Ear}
theorem ear_new (st : Sto) : newO "Ear" f_Ear_init [] st = .ok (.ref st.length) (st ++ [earC [] (st.length + 1) (st.length + 2), .lst [], .lst []]) := by
  have F : f_Ear_init [.ref st.length] (st ++ [.ins "Ear" [] []]) = .ok .non (st ++ [earC [] (st.length + 1) (st.length + 2), .lst [], .lst []]) := by
    unfold f_Ear_init b_Ear_init
    rw [fn_run (by rfl)]
    have k1 : putK "heard" ([] : List Str) = (["heard"] : List Str) := rfl
    have k2 : putK "past" (["heard"] : List Str) = (["heard", "past"] : List Str) := rfl
    have k3 : putK "later" (["heard", "past"] : List Str) = (["heard", "past", "later"] : List Str) := rfl
    have x1 : ∀ d, putX "heard" d [] [] = [d] := fun _ => rfl
    have x2 : ∀ d a, putX "past" d ["heard"] [a] = [a, d] := fun _ _ => rfl
    have x3 : ∀ d a b, putX "later" d ["heard", "past"] [a, b] = [a, b, d] := fun _ _ _ => rfl
    simp -implicitDefEqProofs [k1, k2, k3, x1, x2, x3]
    exact gcR_kept (i := st.length) (c := earC [] (st.length + 1) (st.length + 2)) (by simp) (by simp [earC, tupD]) (by simp [earC]) (by simp [Cell.cl, earC, tupD, D.cl, D.clL])
  unfold newO
  rw [F]
theorem ear_frames (h : EarAt st p a b e) : f_Ear_frames [.ref p] st = .ok (.lst ((found e.heard).1.map fun q => tupD q.2)) st := by
  unfold f_Ear_frames b_Ear_frames
  rw [fn_run (by rfl)]
  have at1 := attr_ref h.obj
  have F := found_run (xs := e.heard) (by have := h.len; omega)
  have A : ∀ (s : Sto), loopC (fun _ => true) (.tp [1, 2]) (ret true) (mvar 2) [some (.ref p), none, none] ((found e.heard).1.map hitD) s = .ok ((found e.heard).1.map fun q => tupD q.2) s := fun s =>
    loopC_all rfl hitD _ (fun q => [some (.ref p), some (.int q.1), some (tupD q.2)]) _ fun q _ => ⟨rfl, rfl⟩
  simp -implicitDefEqProofs [at1, F, wipeE, A]
  exact gcR_same (clL_map _ _ (fun q => by unfold tupD; simp [clL_ints]) _)
theorem ear_spots (h : EarAt st p a b e) : f_Ear_spots [.ref p] st = .ok (.lst (((found e.heard).1.map fun q => (q.1 : Int)).map .int)) st := by
  unfold f_Ear_spots b_Ear_spots
  rw [fn_run (by rfl), List.map_map]
  have at1 := attr_ref h.obj
  have F := found_run (xs := e.heard) (by have := h.len; omega)
  have A : ∀ (s : Sto), loopC (fun _ => true) (.tp [1, 2]) (ret true) (mvar 1) [some (.ref p), none, none] ((found e.heard).1.map hitD) s = .ok ((found e.heard).1.map fun q => D.int (q.1 : Int)) s := fun s =>
    loopC_all rfl hitD _ (fun q => [some (.ref p), some (.int q.1), some (tupD q.2)]) _ fun q _ => ⟨rfl, rfl⟩
  simp -implicitDefEqProofs [at1, F, wipeE, A]
  exact gcR_same (clL_map _ _ (fun q => by simp) _)
theorem ear_undecided (h : EarAt st p a b e) : f_Ear_undecided [.ref p] st = .ok (.int (e.heard.length - (found e.heard).2)) st := by
  unfold f_Ear_undecided b_Ear_undecided
  rw [fn_run (by rfl)]
  have at1 := attr_ref h.obj
  have F := found_run (xs := e.heard) (by have := h.len; omega)
  have l1 : fLen [tupD e.heard] st = some (.int e.heard.length, st) := (Ints.tup (st := st) e.heard).len
  simp -implicitDefEqProofs [at1, F, l1]
  exact gcR_same (by simp)
theorem ear_many (h : EarAt st p a b e) : f_Ear_many [.ref p] st = .ok (.int e.heard.length) st := by
  unfold f_Ear_many b_Ear_many
  rw [fn_run (by rfl)]
  have at1 := attr_ref h.obj
  have l1 : fLen [tupD e.heard] st = some (.int e.heard.length, st) := (Ints.tup (st := st) e.heard).len
  simp -implicitDefEqProofs [at1, l1]
  exact gcR_same (by simp)
/-- what an ear is behind hear -/
def Ear.hear (e : Ear) (xs : List Int) : Ear := ⟨e.heard ++ xs, e.past ++ [e.heard], []⟩
def told (e : Ear) (xs : List Int) : List (List Int) := ((found (e.heard ++ xs)).1.map (·.2)).drop (found e.heard).1.length
def hearS (st : Sto) (p a : Nat) (e : Ear) (xs : List Int) : Sto := (st.set a (.lst ((e.past ++ [e.heard]).map tupD))).set p (earC (e.heard ++ xs) a st.length) ++ [.lst []]
theorem hear_at {xs : List Int} (h : EarAt st p a b e) (hx : Byt xs) (hl : e.heard.length + xs.length ≤ 400) : EarAt (hearS st p a e xs) p a st.length (e.hear xs) := by
  have lp := (List.getElem?_eq_some_iff.mp h.obj).1
  have la := (List.getElem?_eq_some_iff.mp h.past).1
  have nap : a ≠ p := fun z => by
    have h1 := h.past
    rw [z, h.obj] at h1
    cases h1
  unfold hearS Ear.hear
  refine ⟨?_, ?_, ?_, by omega, h.byt.app hx, by simp; omega⟩
  · refine app_low _ _ ?_
    rw [List.getElem?_set_self (by rw [List.length_set]; exact lp)]
  · refine app_low _ _ ?_
    rw [List.getElem?_set_ne (Ne.symm nap), List.getElem?_set_self la]
  · rw [List.getElem?_append_right (by simp)]
    simp
theorem ear_hear {d : D} {xs : List Int} (h : EarAt st p a b e) (hd : Ints st d xs) (hx : Byt xs) (hl : e.heard.length + xs.length ≤ 400) (hda : d ≠ .ref a) (hdp : d ≠ .ref p) (hpl : e.past.length ≤ 100000) :
    f_Ear_hear [.ref p, d] st = .ok (.lst ((told e xs).map tupD)) (hearS st p a e xs) := by
  have lp := (List.getElem?_eq_some_iff.mp h.obj).1
  have la := (List.getElem?_eq_some_iff.mp h.past).1
  have nap : a ≠ p := fun z => by
    have h1 := h.past
    rw [z, h.obj] at h1
    cases h1
  have HA := hear_at h hx hl
  unfold f_Ear_hear b_Ear_hear
  rw [fn_run (by rfl)]
  have B := bytes_run hd 0 xs.length
  rw [byt_all hx, decide_eq_true (Int.natCast_nonneg _), decide_eq_true (Int.le_refl _)] at B
  have at1 := attr_ref h.obj
  have l1 : fLen [tupD e.heard] st = some (.int e.heard.length, st) := (Ints.tup (st := st) e.heard).len
  have big : ¬ ((400 : Int) < e.heard.length + xs.length) := by omega
  have o1 : Ly.isObj "Ear" "frames" st (.ref p) = true := by unfold Ly.isObj; dsimp only; rw [h.obj]; rfl
  have F1 := ear_frames h
  have i1 := isOf_ref h.past
  have a1 := append_ref h.past (by rw [List.length_map]; exact sz_lt _ (by omega)) (tupD e.heard)
  have lp1 : p < (st.set a (.lst (e.past.map tupD ++ [tupD e.heard]))).length := by rw [List.length_set]; exact lp
  have g1 : (st.set a (.lst (e.past.map tupD ++ [tupD e.heard])) ++ [Cell.lst []])[p]? = some (.ins "Ear" ["heard", "past", "later"] [tupD e.heard, .ref a, .ref b]) := by
    refine app_low _ _ ?_
    rw [List.getElem?_set_ne nap]; exact h.obj
  have s2 : ∀ c, (st.set a (.lst (e.past.map tupD ++ [tupD e.heard])) ++ [Cell.lst []]).set p c = (st.set a (.lst (e.past.map tupD ++ [tupD e.heard]))).set p c ++ [Cell.lst []] := fun c => List.set_append_left _ _ lp1
  have g2 : ((st.set a (.lst (e.past.map tupD ++ [tupD e.heard]))).set p (.ins "Ear" ["heard", "past", "later"] [tupD e.heard, .ref a, .ref st.length]) ++ [Cell.lst []])[p]? = some (.ins "Ear" ["heard", "past", "later"] [tupD e.heard, .ref a, .ref st.length]) := by
    refine app_low _ _ ?_
    rw [List.getElem?_set_self lp1]
  have at2 := attr_ref g2
  have hd2 : Ints ((st.set a (.lst (e.past.map tupD ++ [tupD e.heard]))).set p (.ins "Ear" ["heard", "past", "later"] [tupD e.heard, .ref a, .ref st.length]) ++ [Cell.lst []]) d xs := by
    cases hd with
    | tup => exact .tup _
    | lst => exact .lst _
    | @ref q _ hq =>
      refine .ref (app_low _ _ ?_)
      rw [List.getElem?_set_ne (fun z => hdp (by rw [z])), List.getElem?_set_ne (fun z => hda (by rw [z]))]
      exact hq
  have z1 : e.heard.length + xs.length ≤ sizeLine := sz _ (by omega)
  have s3 : ∀ c, ((st.set a (.lst (e.past.map tupD ++ [tupD e.heard]))).set p (.ins "Ear" ["heard", "past", "later"] [tupD e.heard, .ref a, .ref st.length]) ++ [Cell.lst []]).set p c = (st.set a (.lst (e.past.map tupD ++ [tupD e.heard]))).set p c ++ [Cell.lst []] := fun c => by
    rw [List.set_append_left _ _ (by rw [List.length_set]; exact lp1), List.set_set]
  have eS : hearS st p a e xs = (st.set a (.lst (e.past.map tupD ++ [tupD e.heard]))).set p (.ins "Ear" ["heard", "past", "later"] [tupD (e.heard ++ xs), .ref a, .ref st.length]) ++ [Cell.lst []] := by
    unfold hearS earC
    rw [List.map_append]; rfl
  rw [eS] at HA ⊢
  have F2 := ear_frames HA
  have o2 : Ly.isObj "Ear" "frames" ((st.set a (.lst (e.past.map tupD ++ [tupD e.heard]))).set p (.ins "Ear" ["heard", "past", "later"] [tupD (e.heard ++ xs), .ref a, .ref st.length]) ++ [Cell.lst []]) (.ref p) = true := by unfold Ly.isObj; dsimp only; rw [HA.obj]; rfl
  have tt : ∀ s : Sto, opAdd (tupD e.heard) (.tup (xs.map .int)) s = some (tupD (e.heard ++ xs), s) := fun s => by
    unfold tupD
    rw [opAdd_tup, List.length_map, List.length_map, if_pos z1, List.map_append]
  have c3 : cut (List.map (fun q => tupD q.snd) (found (e.heard ++ xs)).fst) (some ((found e.heard).1.length : Int)) none = (told e xs).map tupD := by
    rw [cut_from]
    unfold told
    rw [List.map_drop, List.map_map]; rfl
  generalize told e xs = tl at *
  unfold Ear.hear at F2
  simp -implicitDefEqProofs [hd.isi, hd.len, B, at1, l1, opGt, big, o1, F1, i1, a1, g1, s2, g2, at2, hd2.tuple, tt, s3, o2, F2, c3]
  exact gcR_kept (i := p) (c := .ins "Ear" ["heard", "past", "later"] [tupD (e.heard ++ xs), .ref a, .ref st.length]) lp HA.obj (by
    rw [h.obj]
    unfold earC
    intro z
    have : b = st.length := by simpa using congrArg (fun c => match c with | some (Cell.ins _ _ [_, _, .ref q]) => q | _ => 0) z
    have lb := (List.getElem?_eq_some_iff.mp h.later).1
    omega) (by
    have la' : decide (st.length < st.length) = false := by simp
    simp [Cell.cl, D.clL, D.cl])
end
end Pg
/-! What is found in streams. -/
namespace Pg
open PySem PySem.Spec PyProof.Rows L2 Ly
def fa (xs : List Int) (at' : Nat) : List (Nat × List Int) × Nat := fnd (xs.length + 1) at' xs
theorem fa_nil {xs : List Int} {at' : Nat} (h : xs.drop at' = []) : fa xs at' = ([], at') := by
  unfold fa
  conv => lhs; unfold fnd
  rw [h]
theorem fa_cons {xs : List Int} {at' : Nat} {x : Int} {r : List Int} (h : xs.drop at' = x :: r) : fa xs at' = if 2 ≤ x ∧ x ≤ 20 then
        (if (r.length : Int) < x then ([], at') else if isFr (r.take x.toNat) then
          ((at', r.take x.toNat) :: (fa xs (at' + x.toNat + 1)).1, (fa xs (at' + x.toNat + 1)).2) else fa xs (at' + 1))
      else fa xs (at' + 1) := by
  have h1 := fnd_more (xs := xs) xs.length (xs.length + 1) (at' + 1) (by omega) (by omega)
  have h3 := fnd_more (xs := xs) xs.length (xs.length + 1) (at' + x.toNat + 1) (by omega) (by omega)
  unfold fa
  conv => lhs; unfold fnd
  rw [h]
  dsimp only
  rw [h1, h3]
theorem found_fa (xs : List Int) : found xs = fa xs 0 := rfl
/-- more bytes only add -/
theorem fa_app (xs ys : List Int) : ∀ (k at' : Nat), xs.length - at' ≤ k → at' ≤ xs.length → fa (xs ++ ys) at' = ((fa xs at').1 ++ (fa (xs ++ ys) (fa xs at').2).1, (fa (xs ++ ys) (fa xs at').2).2)
  | k, at', hk, hle => by
    cases hd : xs.drop at' with
    | nil => rw [fa_nil hd]; rfl
    | cons x r =>
      have lr : xs.length = at' + 1 + r.length := by
        have := congrArg List.length hd
        rw [List.length_drop, List.length_cons] at this
        omega
      cases k with
      | zero => omega
      | succ k =>
        have hd2 : (xs ++ ys).drop at' = x :: (r ++ ys) := by
          rw [List.drop_append_of_le_length hle, hd]; rfl
        by_cases w : 2 ≤ x ∧ x ≤ 20
        · by_cases w2 : (r.length : Int) < x
          · rw [fa_cons hd, if_pos w, if_pos w2]; rfl
          · have w2' : ¬ (((r ++ ys).length : Nat) : Int) < x := by rw [List.length_append]; omega
            have tk : (r ++ ys).take x.toNat = r.take x.toNat := List.take_append_of_le_length (by omega)
            rw [fa_cons hd, fa_cons hd2, if_pos w, if_pos w, if_neg w2, if_neg w2', tk]
            cases w3 : isFr (r.take x.toNat) with
            | true =>
              rw [if_pos rfl, if_pos rfl]
              have ih := fa_app xs ys k (at' + x.toNat + 1) (by omega) (by omega)
              dsimp only
              rw [ih]
              rfl
            | false =>
              rw [if_neg Bool.false_ne_true, if_neg Bool.false_ne_true]
              exact fa_app xs ys k (at' + 1) (by omega) (by omega)
        · rw [fa_cons hd, fa_cons hd2, if_neg w, if_neg w]
          exact fa_app xs ys k (at' + 1) (by omega) (by omega)
theorem fa_le (xs : List Int) : ∀ (k at' : Nat), xs.length - at' ≤ k → (fa xs at').1.length ≤ k
  | k, at', hk => by
    cases hd : xs.drop at' with
    | nil => rw [fa_nil hd]; exact Nat.zero_le _
    | cons x r =>
      have lr : xs.length = at' + 1 + r.length := by
        have := congrArg List.length hd
        rw [List.length_drop, List.length_cons] at this
        omega
      cases k with
      | zero => omega
      | succ k =>
        have i1 := fa_le xs k (at' + 1) (by omega)
        have i2 := fa_le xs k (at' + x.toNat + 1) (by omega)
        rw [fa_cons hd]
        split
        · split
          · exact Nat.zero_le _
          · split
            · simpa using i2
            · omega
        · omega
def frs (xs : List Int) : List (List Int) := (found xs).1.map (·.2)
theorem frs_app (e : Ear) (xs : List Int) : frs (e.heard ++ xs) = frs e.heard ++ told e xs := by
  unfold frs told
  rw [found_fa, found_fa, fa_app e.heard xs e.heard.length 0 (by omega) (by omega)]
  dsimp only
  rw [List.map_append, List.drop_append_of_le_length (by simp), List.drop_of_length_le (by simp), List.nil_append]
theorem frs_len (xs : List Int) : (frs xs).length = (found xs).1.length := by unfold frs; simp
theorem frs_le (xs : List Int) : (frs xs).length ≤ xs.length := by rw [frs_len, found_fa]; exact fa_le xs _ 0 (by omega)
/-- a stream of frames with their lengths ahead, and of bytes that are no lengths -/
abbrev Tok := Int ⊕ List Int
def flat1 : Tok → List Int
  | .inl x => [x]
  | .inr f => pack1 f
def flatT (ts : List Tok) : List Int := ts.flatMap flat1
def TokOk : Tok → Prop
  | .inl x => ¬ (2 ≤ x ∧ x ≤ 20)
  | .inr f => Frame f
def hitsT : Nat → List Tok → List (Nat × List Int)
  | _, [] => []
  | at', .inl _ :: ts => hitsT (at' + 1) ts
  | at', .inr f :: ts => (at', f) :: hitsT (at' + f.length + 1) ts
theorem fa_toks (xs : List Int) : ∀ (ts : List Tok) (at' : Nat), xs.drop at' = flatT ts → at' ≤ xs.length → (∀ t ∈ ts, TokOk t) → fa xs at' = (hitsT at' ts, xs.length)
  | [], at', h, hle, _ => by
    have h' : xs.drop at' = [] := h
    rw [fa_nil h']
    have := congrArg List.length h'
    rw [List.length_drop, List.length_nil] at this
    unfold hitsT
    rw [show at' = xs.length by omega]
  | .inl x :: ts, at', h, hle, ok => by
    have h' : xs.drop at' = x :: flatT ts := h
    have w : ¬ (2 ≤ x ∧ x ≤ 20) := ok _ List.mem_cons_self
    have hd : xs.drop (at' + 1) = flatT ts := by
      have : xs.drop (at' + 1) = (xs.drop at').drop 1 := by rw [List.drop_drop]
      rw [this, h']; rfl
    have lx : at' + 1 ≤ xs.length := by
      have := congrArg List.length h'
      rw [List.length_drop, List.length_cons] at this
      omega
    rw [fa_cons h', if_neg w, fa_toks xs ts (at' + 1) hd lx fun t ht => ok t (List.mem_cons_of_mem _ ht)]
    rfl
  | .inr f :: ts, at', h, hle, ok => by
    have h' : xs.drop at' = (f.length : Int) :: (f ++ flatT ts) := h
    have F : Frame f := ok _ List.mem_cons_self
    have w : 2 ≤ (f.length : Int) ∧ (f.length : Int) ≤ 20 := ⟨by have := F.l2; omega, by have := F.l20; omega⟩
    have w2 : ¬ (((f ++ flatT ts).length : Nat) : Int) < (f.length : Int) := by rw [List.length_append]; omega
    have tk : (f ++ flatT ts).take (f.length : Int).toNat = f := by rw [Int.toNat_natCast, List.take_left]
    have hd : xs.drop (at' + f.length + 1) = flatT ts := by
      have : xs.drop (at' + f.length + 1) = (xs.drop at').drop (f.length + 1) := by rw [List.drop_drop]; congr 1
      rw [this, h', List.drop_succ_cons, List.drop_left]
    have lx : at' + f.length + 1 ≤ xs.length := by
      have := congrArg List.length h'
      rw [List.length_drop, List.length_cons, List.length_append] at this
      omega
    rw [fa_cons h', if_pos w, if_neg w2, tk, F.is, if_pos rfl, Int.toNat_natCast, fa_toks xs ts (at' + f.length + 1) hd lx fun t ht => ok t (List.mem_cons_of_mem _ ht)]
    rfl
theorem found_toks {ts : List Tok} (ok : ∀ t ∈ ts, TokOk t) : found (flatT ts) = (hitsT 0 ts, (flatT ts).length) := fa_toks _ ts 0 rfl (Nat.zero_le _) ok
theorem hits_frs (ts : List Tok) : ∀ at', (hitsT at' ts).map (·.2) = ts.filterMap fun t => match t with | .inl _ => none | .inr f => some f := by
  induction ts with
  | nil => intro _; rfl
  | cons t ts ih =>
    intro at'
    cases t with
    | inl x => unfold hitsT; rw [List.filterMap_cons_none (by rfl)]; exact ih _
    | inr f => unfold hitsT; rw [List.filterMap_cons_some (by rfl), List.map_cons, ih]
theorem pack_flat (fs : List (List Int)) : pack fs = flatT (fs.map .inr) := by
  unfold pack flatT
  rw [List.flatMap_map]; rfl
theorem frs_pack {fs : List (List Int)} (h : ∀ f ∈ fs, Frame f) : frs (pack fs) = fs := by
  unfold frs
  rw [pack_flat, found_toks (fun t ht => by obtain ⟨f, hf, rfl⟩ := List.mem_map.mp ht; exact h f hf), hits_frs, List.filterMap_map]
  induction fs with
  | nil => rfl
  | cons f fs ih => rw [List.filterMap_cons_some (by rfl), ih fun g hg => h g (List.mem_cons_of_mem _ hg)]
theorem und_pack {fs : List (List Int)} (h : ∀ f ∈ fs, Frame f) : (found (pack fs)).2 = (pack fs).length := by
  rw [pack_flat, found_toks (fun t ht => by obtain ⟨f, hf, rfl⟩ := List.mem_map.mp ht; exact h f hf)]
theorem hits_at (fs : List (List Int)) : ∀ at' : Nat, (hitsT at' (fs.map .inr)).map (·.1) = (List.range fs.length).map fun k => at' + (pack (fs.take k)).length := by
  induction fs with
  | nil => intro _; rfl
  | cons f fs ih =>
    intro at'
    rw [List.map_cons]
    unfold hitsT
    rw [List.map_cons, ih, List.length_cons, List.range_succ_eq_map, List.map_cons, List.map_map]
    refine congr (congrArg _ ?_) (List.map_congr_left fun k _ => ?_)
    · simp [pack]
    · show at' + f.length + 1 + (pack (fs.take k)).length = at' + (pack ((f :: fs).take (k + 1))).length
      rw [List.take_succ_cons]
      have : (pack (f :: fs.take k)).length = f.length + 1 + (pack (fs.take k)).length := by unfold pack; rw [List.flatMap_cons, List.length_append]; rfl
      omega
theorem spots_pack {fs : List (List Int)} (h : ∀ f ∈ fs, Frame f) : (found (pack fs)).1.map (·.1) = (List.range fs.length).map fun k => (pack (fs.take k)).length := by
  rw [pack_flat, found_toks (fun t ht => by obtain ⟨f, hf, rfl⟩ := List.mem_map.mp ht; exact h f hf), hits_at]
  simp
/-- another ear is not touched -/
theorem EarAt.other {st : Sto} {p a b q c : Nat} {e e' : Ear} {xs : List Int} (h : EarAt st p a b e) (h1 : p ≠ q) (h2 : p ≠ c) (h3 : a ≠ q) (h4 : a ≠ c) (h5 : b ≠ q) (h6 : b ≠ c) : EarAt (hearS st q c e' xs) p a b e := by
  unfold hearS
  have go : ∀ {i : Nat} {d : Cell}, i ≠ q → i ≠ c → st[i]? = some d → ((st.set c (.lst ((e'.past ++ [e'.heard]).map tupD))).set q (earC (e'.heard ++ xs) c st.length) ++ [Cell.lst []])[i]? = some d := fun {i d} n1 n2 hi => by
    refine app_low _ _ ?_
    rw [List.getElem?_set_ne (Ne.symm n1), List.getElem?_set_ne (Ne.symm n2)]
    exact hi
  exact ⟨go h1 h2 h.obj, go h3 h4 h.past, go h5 h6 h.later, h.ne, h.byt, h.len⟩
theorem EarAt.lt {st : Sto} {p a b : Nat} {e : Ear} (h : EarAt st p a b e) : p < st.length ∧ a < st.length ∧ b < st.length := ⟨(List.getElem?_eq_some_iff.mp h.obj).1, (List.getElem?_eq_some_iff.mp h.past).1, (List.getElem?_eq_some_iff.mp h.later).1⟩
theorem EarAt.nap {st : Sto} {p a b : Nat} {e : Ear} (h : EarAt st p a b e) : p ≠ a ∧ p ≠ b := by
  refine ⟨fun z => ?_, fun z => ?_⟩
  · have := h.obj; rw [z, h.past] at this; cases this
  · have := h.obj; rw [z, h.later] at this; cases this
theorem ear_fresh (st l : Sto) : EarAt (st ++ ([earC [] (st.length + 1) (st.length + 2), .lst [], .lst []] ++ l)) st.length (st.length + 1) (st.length + 2) ⟨[], [], []⟩ := by
  exact ⟨by simp, by simp, by simp, by omega, fun _ h => (by cases h), Nat.zero_le _⟩
theorem EarAt.frames {st : Sto} {p a b : Nat} {e : Ear} (h : EarAt st p a b e) : f_Ear_frames [.ref p] st = .ok (.lst ((frs e.heard).map tupD)) st := by
  rw [ear_frames h]; unfold frs; rw [List.map_map]; rfl
theorem isObj_ear {st : Sto} {p a b : Nat} {e : Ear} (h : EarAt st p a b e) (m : Str) (hm : m ∉ (["heard", "past", "later"] : List Str)) : Ly.isObj "Ear" m st (.ref p) = true := by
  unfold Ly.isObj; dsimp only; rw [h.obj]; unfold earC; simp only [decide_true, Bool.true_and]
  rw [decide_eq_false hm]; rfl
theorem law_end {b : MS} {N : Nat} {ns : List Int} (h : ∃ st, b (some (D.scr ns) :: List.replicate N none) [] = .ret (.bl true) st) : ∃ st, fn 1 (N + 1) b [.scr ns] [] = .ok (.bl true) st := by
  obtain ⟨st, e⟩ := h
  refine ⟨[], ?_⟩
  rw [fn_run (by rfl)]
  show gcR [] (Ly.finish (b (some (D.scr ns) :: List.replicate N none) [])) = _
  rw [e]
  have : st = [] ++ st := rfl
  rw [finish_ret, this]
  exact gcR_new (by simp)
end Pg
/-! Shared computations. -/
namespace Pg
open PySem PySem.Spec PyProof.Rows L2 Ly
def b_law_found : MS := (mblock [(mpar 1 2 (args [(box (dlst [])), (ret (.int 0))])),
  (mpre [3] (mwhile 100000 (tst (bin opLt (mvar 2) (calls fLen (args [(mvar 0)])))) (mdrop [3] (mblock [(mset 3 (bin opIx (mvar 0) (mvar 2))),
  (mcond (mnot (tst (chain opLe opLe (ret (.int 2)) (mvar 3) (ret (.int 20))))) (mblock [(mset 2 (bin opAdd (mvar 2) (ret (.int 1))))]) (mblock [(mcond (tst (bin opGe (bin opAdd (mvar 2) (mvar 3)) (calls fLen (args [(mvar 0)])))) (mblock [(mret (dtup [(mvar 1), (mvar 2)]))]) (mblock [(mcond (tst (bin opEq (bin opMod (calls fSumA (args [(slice opSl (mvar 0) (part (bin opAdd (mvar 2) (ret (.int 1)))) (part (bin opAdd (bin opAdd (mvar 2) (mvar 3)) (ret (.int 1)))))])) (ret (.int 256))) (ret (.int 0)))) (mblock [(mdo (meth "list" fAppend (mvar 1) (args [(dtup [(mvar 2), (calls fTuple (args [(slice opSl (mvar 0) (part (bin opAdd (mvar 2) (ret (.int 1)))) (part (bin opAdd (bin opAdd (mvar 2) (mvar 3)) (ret (.int 1)))))]))])]))),
  (mset 2 (bin opAdd (bin opAdd (mvar 2) (mvar 3)) (ret (.int 1))))]) (mblock [(mset 2 (bin opAdd (mvar 2) (ret (.int 1))))]))]))]))])))),
  (mret (dtup [(mvar 1), (mvar 2)]))])
def f_law_found : List D → Sto → R D := fn 1 4 b_law_found
def b_law_stream : MS := (mblock [(mset 2 (box (dlst []))),
  (mpre [3, 4, 5] (mfor (range1 (args [(callF stdPick (args [(mvar 0), (mvar 1), (ret (.int 6))]))])) (.nm 3) (mdrop [3, 4, 5] (mblock [(mset 4 (callF Pg.f_law_frame (args [(mvar 0), (bin opAdd (bin opAdd (mvar 1) (bin opMul (ret (.int 40)) (mvar 3))) (ret (.int 1)))]))),
  (mset 2 (box (bin catN (tree (bin catN (mvar 2) (tree (dlst [(calls fLen (args [(mvar 4)]))])))) (tree (calls fList (args [(mvar 4)])))))),
  (mpre [5] (mfor (range1 (args [(callF stdPick (args [(mvar 0), (bin opAdd (bin opAdd (mvar 1) (bin opMul (ret (.int 40)) (mvar 3))) (ret (.int 32))), (ret (.int 3))]))])) (.nm 5) (mdrop [5] (mblock [(mdo (meth "list" fAppend (mvar 2) (args [(callF stdPick (args [(mvar 0), (bin opAdd (bin opAdd (bin opAdd (mvar 1) (bin opMul (ret (.int 40)) (mvar 3))) (ret (.int 33))) (mvar 5)), (bin opIx (tree (dlst [(ret (.int 256)), (ret (.int 22))])) (callF stdPick (args [(mvar 0), (bin opAdd (bin opAdd (mvar 1) (bin opMul (ret (.int 40)) (mvar 3))) (ret (.int 36))), (ret (.int 2))])))]))])))]))))])))),
  (mcond (mand (tst (bin opNe (mvar 2) (tree (dlst [])))) (tst (bin opEq (callF stdPick (args [(mvar 0), (bin opAdd (mvar 1) (ret (.int 300))), (ret (.int 3))])) (ret (.int 0))))) (mblock [(mset 6 (callF stdPick (args [(mvar 0), (bin opAdd (mvar 1) (ret (.int 301))), (calls fLen (args [(mvar 2)]))]))),
  (msub (mvar 2) (mvar 6) (callF stdPick (args [(mvar 0), (bin opAdd (mvar 1) (ret (.int 302))), (ret (.int 256))])))]) (mblock [])),
  (mret (mif (tst (bin opGt (calls fLen (args [(mvar 2)])) (ret (.int 4)))) (slice opSl (mvar 2) (ret none) (part (bin opSub (calls fLen (args [(mvar 2)])) (callF stdPick (args [(mvar 0), (bin opAdd (mvar 1) (ret (.int 303))), (ret (.int 4))]))))) (mvar 2)))])
def f_law_stream : List D → Sto → R D := fn 2 7 b_law_stream
end Pg
/-! Drawn streams; what the laws find in them. -/
namespace Pg
open PySem PySem.Spec PyProof.Rows L2 Ly
theorem atI_drop {xs : List Int} {k : Nat} {x : Int} {r : List Int} (h : xs.drop k = x :: r) : atI (xs.map D.int) (k : Int) = some (.int x) := by
  refine atI_map' D.int xs k x ?_
  have := List.getElem?_drop (xs := xs) (i := k) (j := 0)
  rw [h] at this
  simpa using this.symm
theorem isFr_byt {xs : List Int} (h : Byt xs) (h2 : 2 ≤ xs.length) (h20 : xs.length ≤ 20) : isFr xs = decide (xs.sum % 256 = 0) := by
  unfold isFr
  rw [byt_all h, decide_eq_true (show (2 : Int) ≤ xs.length by omega), decide_eq_true (show (xs.length : Int) ≤ 20 by omega)]
  rfl
theorem lfound_loop {g : Sto} {xs : List Int} (hl : xs.length ≤ 1000) (hx : Byt xs) {body : MS} (hb : mdrop [3] (mblock [(mset 3 (bin opIx (mvar 0) (mvar 2))),
  (mcond (mnot (tst (chain opLe opLe (ret (.int 2)) (mvar 3) (ret (.int 20))))) (mblock [(mset 2 (bin opAdd (mvar 2) (ret (.int 1))))]) (mblock [(mcond (tst (bin opGe (bin opAdd (mvar 2) (mvar 3)) (calls fLen (args [(mvar 0)])))) (mblock [(mret (dtup [(mvar 1), (mvar 2)]))]) (mblock [(mcond (tst (bin opEq (bin opMod (calls fSumA (args [(slice opSl (mvar 0) (part (bin opAdd (mvar 2) (ret (.int 1)))) (part (bin opAdd (bin opAdd (mvar 2) (mvar 3)) (ret (.int 1)))))])) (ret (.int 256))) (ret (.int 0)))) (mblock [(mdo (meth "list" fAppend (mvar 1) (args [(dtup [(mvar 2), (calls fTuple (args [(slice opSl (mvar 0) (part (bin opAdd (mvar 2) (ret (.int 1)))) (part (bin opAdd (bin opAdd (mvar 2) (mvar 3)) (ret (.int 1)))))]))])]))),
  (mset 2 (bin opAdd (bin opAdd (mvar 2) (mvar 3)) (ret (.int 1))))]) (mblock [(mset 2 (bin opAdd (mvar 2) (ret (.int 1))))]))]))]))]) = body) : ∀ (n : Nat) (at' : Nat) (made : List (Nat × List Int)), xs.length + 1 ≤ at' + n → at' ≤ xs.length → made.length ≤ at' →
    (mwhile n (tst (bin opLt (mvar 2) (calls fLen (args [(mvar 0)])))) body [some (.lst (xs.map .int)), some (.ref g.length), some (.int at'), none] (g ++ [.lst (made.map hitD)])).thn (mret (dtup [(mvar 1), (mvar 2)])) =
      .ret (.tup [.ref g.length, .int (fa xs at').2]) (g ++ [.lst ((made ++ (fa xs at').1).map hitD)])
  | 0, at', made, h, h2, h3 => by omega
  | n + 1, at', made, h, h2, h3 => by
    have ih := lfound_loop (g := g) hl hx hb n
    have T : (tst (bin opLt (mvar 2) (calls fLen (args [(mvar 0)])))) [some (.lst (xs.map .int)), some (.ref g.length), some (.int at'), none] (g ++ [.lst (made.map hitD)]) = .ok (decide ((at' : Int) < xs.length)) (g ++ [.lst (made.map hitD)]) := by simp -implicitDefEqProofs [opLt]
    cases hd : xs.drop at' with
    | nil =>
      have hlen : ¬ (at' : Int) < xs.length := by
        have := congrArg List.length hd
        rw [List.length_drop] at this
        simp at this
        omega
      rw [decide_eq_false hlen] at T
      rw [while_stop T, fa_nil hd]
      simp -implicitDefEqProofs
    | cons x r =>
      have lr : xs.length = at' + 1 + r.length := by
        have := congrArg List.length hd
        rw [List.length_drop, List.length_cons] at this
        omega
      rw [decide_eq_true (show (at' : Int) < xs.length by omega)] at T
      have A0 := atI_drop hd
      have g0 : (g ++ [Cell.lst (made.map hitD)])[g.length]? = some (.lst (made.map hitD)) := by simp
      have i0 := isOf_ref g0
      rw [fa_cons hd]
      by_cases w : 2 ≤ x ∧ x ≤ 20
      · rw [if_pos w]
        obtain ⟨k, hk⟩ : ∃ k : Nat, x = (k : Int) := ⟨x.toNat, by omega⟩
        subst hk
        rw [Int.toNat_natCast]
        by_cases w2 : (r.length : Int) < (k : Int)
        · rw [if_pos w2]
          have w2' : (xs.length : Int) ≤ at' + k := by omega
          have BR : body [some (.lst (xs.map .int)), some (.ref g.length), some (.int at'), none] (g ++ [.lst (made.map hitD)]) = .ret (.tup [.ref g.length, .int at']) (g ++ [.lst (made.map hitD)]) := by
            subst hb
            simp -implicitDefEqProofs [A0, opLe, w.1, w.2, opGe, w2']
          rw [while_ret T BR, thn_ret, List.append_nil]
        · rw [if_neg w2]
          have w2' : ¬ (xs.length : Int) ≤ at' + k := by omega
          have tl : (r.take k).length = k := by rw [List.length_take]; omega
          have rb : Byt (r.take k) := by
            refine Byt.take (fun y hy => ?_) k
            have : y ∈ xs.drop at' := by rw [hd]; exact List.mem_cons_of_mem _ hy
            exact hx y (List.mem_of_mem_drop this)
          have c1 : cut (xs.map D.int) (some ((at' : Int) + 1)) (some ((at' : Int) + k + 1)) = (r.take k).map .int := by
            rw [cut_map]
            have := cut_both xs (at' + 1) (at' + k + 1)
            rw [show ((at' + 1 : Nat) : Int) = (at' : Int) + 1 by omega, show ((at' + k + 1 : Nat) : Int) = (at' : Int) + k + 1 by omega] at this
            rw [this, show xs.drop (at' + 1) = r by
              have : xs.drop (at' + 1) = (xs.drop at').drop 1 := by rw [List.drop_drop]
              rw [this, hd]; rfl, show at' + k + 1 - (at' + 1) = k by omega]
          have sm : ∀ s, fSumA [.lst ((r.take k).map .int)] s = some (.int (r.take k).sum, s) := fun s => (Ints.lst (st := s) (r.take k)).sum
          have tp : ∀ s, fTuple [.lst ((r.take k).map .int)] s = some (.tup ((r.take k).map .int), s) := fun s => rfl
          rw [isFr_byt rb (by omega) (by omega)]
          cases w3 : decide ((r.take k).sum % 256 = 0) with
          | true =>
            rw [if_pos rfl]
            have a0 := append_ref g0 (by rw [List.length_map]; exact sz_lt _ (by omega)) (hitD (at', r.take k))
            rw [app_set0] at a0
            simp -implicitDefEqProofs only [List.set_cons_zero] at a0
            have ih2 := ih (at' + k + 1) (made ++ [(at', r.take k)]) (by omega) (by omega) (by simp; omega)
            have e1 : (at' : Int) + (k : Int) + 1 = ((at' + k + 1 : Nat) : Int) := by omega
            have w4 : (r.take k).sum % 256 = 0 := by simpa using w3
            have BR : body [some (.lst (xs.map .int)), some (.ref g.length), some (.int at'), none] (g ++ [.lst (made.map hitD)]) = .nx [some (.lst (xs.map .int)), some (.ref g.length), some (.int ((at' + k + 1 : Nat) : Int)), none] (g ++ [.lst ((made ++ [(at', r.take k)]).map hitD)]) := by
              rw [← e1, List.map_append, List.map_cons, List.map_nil]
              subst hb
              generalize r.take k = fr at *
              unfold hitD tupD at *
              simp -implicitDefEqProofs [A0, opLe, w.1, w.2, opGe, w2', c1, sm, w4, tp, i0, a0]
            rw [while_go T BR, ih2, List.append_assoc, List.singleton_append]
          | false =>
            have ih2 := ih (at' + 1) made (by omega) (by omega) (by omega)
            have w4 : ¬ (r.take k).sum % 256 = 0 := by simpa using w3
            have BR : body [some (.lst (xs.map .int)), some (.ref g.length), some (.int at'), none] (g ++ [.lst (made.map hitD)]) = .nx [some (.lst (xs.map .int)), some (.ref g.length), some (.int ((at' + 1 : Nat) : Int)), none] (g ++ [.lst (made.map hitD)]) := by
              subst hb
              generalize r.take k = fr at *
              simp -implicitDefEqProofs [A0, opLe, w.1, w.2, opGe, w2', c1, sm, w4]
            rw [while_go T BR, ih2]
            rfl
      · rw [if_neg w]
        have ih2 := ih (at' + 1) made (by omega) (by omega) (by omega)
        have BR : body [some (.lst (xs.map .int)), some (.ref g.length), some (.int at'), none] (g ++ [.lst (made.map hitD)]) = .nx [some (.lst (xs.map .int)), some (.ref g.length), some (.int ((at' + 1 : Nat) : Int)), none] (g ++ [.lst (made.map hitD)]) := by
          subst hb
          by_cases w1 : 2 ≤ x
          · have w2 : ¬ x ≤ 20 := fun z => w ⟨w1, z⟩
            simp -implicitDefEqProofs [A0, opLe, w1, w2]
          · simp -implicitDefEqProofs [A0, opLe, w1]
        rw [while_go T BR, ih2]
theorem lfound_run {xs : List Int} (hl : xs.length ≤ 1000) (hx : Byt xs) (g : Sto) : f_law_found [.lst (xs.map .int)] g = .ok (.tup [.lst ((found xs).1.map hitD), .int (found xs).2]) g := by
  unfold f_law_found b_law_found
  rw [fn_run (by rfl)]
  have L := lfound_loop (g := g) hl hx rfl 100000 0 [] (by omega) (by omega) (by simp)
  rw [List.map_nil, List.nil_append, Int.natCast_zero] at L
  simp -implicitDefEqProofs only [mblock_cons, mblock_one, mpar_run, args_cons, box_run, dlst_run, Ly.args_nil, nxt_ok, toS_ok, ret_run, mpre_run, drops_cons, drops_nil, thn_nx, List.length_nil, Nat.zero_le, if_true, List.map_cons, List.map_nil, List.length_cons, List.replicate, List.cons_append, List.nil_append, List.set_cons_zero, List.set_cons_succ]
  refine Eq.trans (congrArg (fun r => gcR g (Ly.finish r)) L) ?_
  exact gcR_fz (by rw [found_fa]; simp [fz, fzL, clL_hits])

/-! ### drawn streams -/
theorem pk_byt (ns : List Int) (k : Int) {m : Int} (h0 : 0 < m) (h : m ≤ 256) : 0 ≤ pk ns k m ∧ pk ns k m ≤ 255 := by
  have := pk_range ns k h0; omega
theorem at2 (a b : D) {w : Int} (h : 0 ≤ w ∧ w < 2) : atI [a, b] w = some a ∨ atI [a, b] w = some b := by
  have : w = 0 ∨ w = 1 := by omega
  rcases this with z | z <;> rw [z]
  · exact .inl rfl
  · exact .inr rfl
theorem set_get {l : Sto} {j : Nat} {c d : Cell} (h : l[j]? = some c) : (l.set j d)[j]? = some d := List.getElem?_set_self (List.getElem?_eq_some_iff.mp h).1
theorem app_getj (g l : Sto) (j : Nat) : (g ++ l)[g.length + j]? = l[j]? := app_get g l j
theorem stream_run {ns : List Int} (h : ns.length ≤ 63) {at' : Int} (h0 : 0 ≤ at') (g : Sto) : ∃ xs, Byt xs ∧ xs.length ≤ 120 ∧ f_law_stream [.scr ns, .int at'] g = .ok (.lst (xs.map .int)) g := by
  have hF : ∀ k : Nat, ∃ f, Frame f ∧ ∀ st, f_law_frame [.scr ns, .int (at' + 40 * (k : Int) + 1)] st = .ok (tupD f) st := fun k => lf_run h (by omega)
  obtain ⟨F, hF⟩ := Classical.axiomOfChoice hF
  have p0 : ∀ s, _ := fun s => pick_any h at' 6 s h0 (by decide)
  have r0 := pk_range ns at' (m := 6) (by decide)
  obtain ⟨n, hn⟩ : ∃ n : Nat, (n : Int) = pk ns at' 6 := ⟨(pk ns at' 6).toNat, by omega⟩
  have e1 := range1_nat (n := n) (by omega)
  unfold f_law_stream b_law_stream
  rw [fn_run (by rfl)]
  generalize hb : mdrop [3, 4, 5] _ = bd
  obtain ⟨e2, s2, L, xs, l, j, he, hs, hj, hx, hl⟩ := forX_map (p := .nm 3) (body := bd) (fun (i : Nat) => D.int (0 + (i : Int))) (List.range n) (fun k e s => ∃ xs l j, e = [some (.scr ns), some (.int at'), some (.ref (g.length + j)), none, none, none, none] ∧ s = g ++ l ∧ l[j]? = some (.lst (xs.map .int)) ∧ Byt xs ∧ xs.length ≤ 23 * k)
    (e := [some (.scr ns), some (.int at'), some (.ref g.length), none, none, none, none]) (st := g ++ [.lst []]) ⟨[], [.lst []], 0, rfl, rfl, rfl, fun _ h => (by cases h), by simp⟩ (by
      rintro k hk e s ⟨xs, l, j, rfl, rfl, hj, hx, hl⟩
      have hk5 : k < n := by simpa using hk
      subst hb
      have q3 : ∀ s, _ := fun s => pick_any h (at' + 40 * (k : Int) + 32) 3 s (by omega) (by decide)
      have rq := pk_range ns (at' + 40 * (k : Int) + 32) (m := 3) (by decide)
      obtain ⟨m, hm⟩ : ∃ m : Nat, (m : Int) = pk ns (at' + 40 * (k : Int) + 32) 3 := ⟨(pk ns (at' + 40 * (k : Int) + 32) 3).toNat, by omega⟩
      have e3 := range1_nat (n := m) (by omega)
      have fr := (hF k).1
      have c0 := catN_ref (st := g ++ l) (p := g.length + j) (xs := xs.map .int) (ys := [.int ((F k).length : Int)]) (by rw [app_getj]; exact hj) (sz _ (by simp; omega))
      have z2 : xs.length + 1 + (F k).length ≤ sizeLine := sz _ (by have := fr.l20; omega)
      refine ⟨_, rfl, ?_⟩
      simp -implicitDefEqProofs only [List.getElem_range, Int.zero_add]
      have sm : smallI 40 = true := rfl
      have ts : ∀ s, fList [tupD (F k)] s = some ((F k).map .int, s) := fun _ => rfl
      have ln : ∀ s, fLen [tupD (F k)] s = some (.int (F k).length, s) := fun s => (Ints.tup (st := s) (F k)).len
      generalize hb2 : mdrop [5] _ = bd2
      obtain ⟨e4, s4, L4, ys, l2, he4, hs4, hj4, hy, hl4⟩ := forX_map (p := .nm 5) (body := bd2) (fun (i : Nat) => D.int (0 + (i : Int))) (List.range m) (fun i e s => ∃ ys l2, e = [some (.scr ns), some (.int at'), some (.ref (g.length + l.length)), some (.int (k : Int)), some (tupD (F k)), none, none] ∧ s = g ++ l2 ∧ l2[l.length]? = some (.lst (ys.map .int)) ∧ Byt ys ∧ ys.length ≤ xs.length + 21 + i)
        (e := [some (.scr ns), some (.int at'), some (.ref (g.length + l.length)), some (.int (k : Int)), some (tupD (F k)), none, none]) (st := g ++ (l ++ [.lst ((xs ++ pack1 (F k)).map .int)]))
        ⟨xs ++ pack1 (F k), _, rfl, rfl, by simp, hx.app (fun x hx => by
          rcases List.mem_cons.mp hx with e | hx
          · have := fr.l20; omega
          · exact fr.byt x hx), by have := fr.l20; simp [pack1]; omega⟩ (by
          rintro i hi e s ⟨ys, l2, rfl, rfl, hj2, hy, hl2⟩
          have hi2 : i < m := by simpa using hi
          subst hb2
          have q36 : ∀ s, _ := fun s => pick_any h (at' + 40 * (k : Int) + 36) 2 s (by omega) (by decide)
          have r36 := pk_range ns (at' + 40 * (k : Int) + 36) (m := 2) (by decide)
          obtain ⟨M, hM, m1, m2⟩ : ∃ M : Int, atI [D.int 256, D.int 22] (pk ns (at' + 40 * (k : Int) + 36) 2) = some (.int M) ∧ 0 < M ∧ M ≤ 256 := by
            rcases at2 (.int 256) (.int 22) r36 with z | z <;> rw [z]
            · exact ⟨256, rfl, by decide, by decide⟩
            · exact ⟨22, rfl, by decide, by decide⟩
          have q33 : ∀ s, _ := fun s => pick_any h (at' + 40 * (k : Int) + 33 + (i : Int)) M s (by omega) m1
          have rb := pk_byt ns (at' + 40 * (k : Int) + 33 + (i : Int)) m1 m2
          have g0 : (g ++ l2)[g.length + l.length]? = some (.lst (ys.map .int)) := by rw [app_getj]; exact hj2
          have a0 := append_ref g0 (by rw [List.length_map]; exact sz_lt _ (by omega)) (.int (pk ns (at' + 40 * (k : Int) + 33 + (i : Int)) M))
          rw [app_set] at a0
          have i0 := isOf_ref g0
          refine ⟨_, rfl, [some (.scr ns), some (.int at'), some (.ref (g.length + l.length)), some (.int (k : Int)), some (tupD (F k)), none, none], g ++ l2.set l.length (.lst ((ys ++ [pk ns (at' + 40 * (k : Int) + 33 + (i : Int)) M]).map .int)), .inl ?_, ys ++ [pk ns (at' + 40 * (k : Int) + 33 + (i : Int)) M], _, rfl, rfl, set_get hj2, hy.app (fun x hx => by rw [List.mem_singleton.mp hx]; exact rb), by simp; omega⟩
          simp -implicitDefEqProofs only [List.getElem_range, Int.zero_add]
          rw [List.map_append, List.map_cons, List.map_nil]
          simp -implicitDefEqProofs [sm, q36, hM, q33, i0, a0])
      have L4' := L4
      rw [he4, hs4, ← rng_map] at L4'
      have pk1 : (xs ++ pack1 (F k)).map D.int = xs.map D.int ++ D.int ((F k).length : Int) :: (F k).map D.int := by rw [List.map_append]; rfl
      rw [pk1] at L4'
      refine ⟨[some (.scr ns), some (.int at'), some (.ref (g.length + l.length)), none, none, none, none], g ++ l2, .inl ?_, ys, l2, l.length, rfl, rfl, hj4, hy, by simp at hl4; omega⟩
      simp -implicitDefEqProofs [sm, (hF k).2, c0, ts, ln, z2, q3, ← hm, e3, L4'])
  subst he hs
  rw [← rng_map] at L
  have lx : xs.length ≤ 115 := by
    have : n ≤ 5 := by omega
    simp at hl
    omega
  have g0 : (g ++ l)[g.length + j]? = some (.lst (xs.map .int)) := by rw [app_getj]; exact hj
  have fin : ∀ (ys : List Int) (l : Sto) (x6 : Option D), l[j]? = some (.lst (ys.map .int)) → Byt ys → ys.length ≤ 120 → ∃ xs, Byt xs ∧ xs.length ≤ 120 ∧ gcR g (Ly.finish (mblock [(mret (mif (tst (bin opGt (calls fLen (args [(mvar 2)])) (ret (.int 4)))) (slice opSl (mvar 2) (ret none) (part (bin opSub (calls fLen (args [(mvar 2)])) (callF stdPick (args [(mvar 0), (bin opAdd (mvar 1) (ret (.int 303))), (ret (.int 4))]))))) (mvar 2)))] [some (.scr ns), some (.int at'), some (.ref (g.length + j)), none, none, none, x6] (g ++ l))) = .ok (.lst (xs.map .int)) g := by
    intro ys l x6 hj hy hl
    have g0 : (g ++ l)[g.length + j]? = some (.lst (ys.map .int)) := by rw [app_getj]; exact hj
    have ln := (Ints.ref g0).len
    by_cases big : (4 : Int) < ys.length
    · have q303 : ∀ s, _ := fun s => pick_any h (at' + 303) 4 s (by omega) (by decide)
      have r303 := pk_range ns (at' + 303) (m := 4) (by decide)
      obtain ⟨c, hc⟩ : ∃ c : Nat, (c : Int) = (ys.length : Int) - pk ns (at' + 303) 4 := ⟨((ys.length : Int) - pk ns (at' + 303) 4).toNat, by omega⟩
      have sl : opSl none (some (c : Int)) (.ref (g.length + j)) (g ++ l) = some (.lst ((ys.take c).map .int), g ++ l) := by
        show (rdOf (g ++ l) (.ref (g.length + j))).map _ = _
        rw [rdOf_ref g0, Option.map_some, cut_map]
        exact congrArg (fun z => some (D.lst (z.map .int), g ++ l)) (cut_to ys c)
      refine ⟨ys.take c, hy.take c, by rw [List.length_take]; omega, ?_⟩
      simp -implicitDefEqProofs [opGt, ln, big, q303, ← hc, sl, -List.map_take]
      exact gcR_new (by simp [clL_ints, -List.map_take])
    · refine ⟨ys, hy, hl, ?_⟩
      simp -implicitDefEqProofs [opGt, ln, big]
      exact gcR_made (by omega) g0 (clL_ints _ _)
  have q300 : ∀ s, _ := fun s => pick_any h (at' + 300) 3 s (by omega) (by decide)
  have ne0 : opNe (.ref (g.length + j)) (.lst []) (g ++ l) = some (.bl !decide (xs.map D.int = []), g ++ l) := ne_ref g0 (good_ints xs) good_nilL
  by_cases em : xs = []
  · obtain ⟨zs, f1, f2, f3⟩ := fin xs l none hj hx (by omega)
    refine ⟨zs, f1, f2, ?_⟩
    rw [← f3]
    subst em
    simp -implicitDefEqProofs [p0, ← hn, e1, L, ne0]
  · by_cases w : pk ns (at' + 300) 3 = 0
    · have q301 : ∀ s, _ := fun s => pick_any h (at' + 301) xs.length s (by omega) (by have := List.length_pos_iff.mpr em; omega)
      have r301 := pk_range ns (at' + 301) (m := xs.length) (by have := List.length_pos_iff.mpr em; omega)
      obtain ⟨c, hc⟩ : ∃ c : Nat, (c : Int) = pk ns (at' + 301) xs.length := ⟨(pk ns (at' + 301) xs.length).toNat, by omega⟩
      have q302 : ∀ s, _ := fun s => pick_any h (at' + 302) 256 s (by omega) (by decide)
      have rb := pk_byt ns (at' + 302) (m := 256) (by decide) (by decide)
      have ln := (Ints.ref g0).len
      have hc2 : c < xs.length := by omega
      have ix : ixN xs.length (c : Int) = some c := ixN_at hc2
      obtain ⟨zs, f1, f2, f3⟩ := fin (xs.set c (pk ns (at' + 302) 256)) (l.set j (.lst ((xs.set c (pk ns (at' + 302) 256)).map .int))) (some (.int c)) (set_get hj) (fun x hx' => by
        rcases List.mem_or_eq_of_mem_set hx' with h | h
        · exact hx x h
        · rw [h]; exact rb) (by rw [List.length_set]; omega)
      refine ⟨zs, f1, f2, ?_⟩
      rw [← f3, List.map_set]
      simp -implicitDefEqProofs [p0, ← hn, e1, L, ne0, em, q300, w, ln, q301, ← hc, q302, hj, ix]
    · obtain ⟨zs, f1, f2, f3⟩ := fin xs l none hj hx (by omega)
      refine ⟨zs, f1, f2, ?_⟩
      rw [← f3]
      simp -implicitDefEqProofs [p0, ← hn, e1, L, ne0, em, q300, w]
end Pg
/-! Shared computations. -/
namespace Pg
open PySem PySem.Spec PyProof.Rows L2 Ly
def b_Ear_back : MS := (mblock [(mcond (tst (bin opEq (un (attrD "Ear" "past") (mvar 0)) (tree (dlst [])))) (mblock [(mraise ("NoBack" : Str))]) (mblock [])),
  (mset 1 (meth0 "list" fPop (un (attrD "Ear" "past") (mvar 0)))),
  (mdo (meth "list" fAppend (un (attrD "Ear" "later") (mvar 0)) (args [(un (attrD "Ear" "heard") (mvar 0))]))),
  (mset 2 (bin opSub (calls fLen (args [(un (attrD "Ear" "heard") (mvar 0))])) (calls fLen (args [(mvar 1)])))),
  (mfld "Ear" "heard" (mvar 0) (mvar 1)),
  (mret (mvar 2))])
def f_Ear_back : List D → Sto → R D := fn 1 3 b_Ear_back
def b_Ear_forth : MS := (mblock [(mcond (tst (bin opEq (un (attrD "Ear" "later") (mvar 0)) (tree (dlst [])))) (mblock [(mraise ("NoBack" : Str))]) (mblock [])),
  (mset 1 (meth0 "list" fPop (un (attrD "Ear" "later") (mvar 0)))),
  (mdo (meth "list" fAppend (un (attrD "Ear" "past") (mvar 0)) (args [(un (attrD "Ear" "heard") (mvar 0))]))),
  (mset 2 (bin opSub (calls fLen (args [(mvar 1)])) (calls fLen (args [(un (attrD "Ear" "heard") (mvar 0))])))),
  (mfld "Ear" "heard" (mvar 0) (mvar 1)),
  (mret (mvar 2))])
def f_Ear_forth : List D → Sto → R D := fn 1 3 b_Ear_forth
end Pg
/-! Ears that go back and forth. -/
namespace Pg
open PySem PySem.Spec PyProof.Rows L2 Ly
theorem set_cases {st : Sto} {i j : Nat} {x c : Cell} (h : (st.set i x)[j]? = some c) : c = x ∨ st[j]? = some c := by
  by_cases hj : i = j
  · subst hj
    by_cases hi : i < st.length
    · rw [List.getElem?_set_self hi] at h; exact .inl (Option.some.inj h).symm
    · rw [List.getElem?_eq_none (by rw [List.length_set]; omega)] at h; cases h
  · rw [List.getElem?_set_ne hj] at h; exact .inr h
theorem cl_tups (n : Nat) (l : List (List Int)) : D.clL n (l.map tupD) = true := clL_map n _ (fun q => by unfold tupD; simp [clL_ints]) l
theorem fPop_ref {st : Sto} {p : Nat} {xs : List D} {d : D} (h : st[p]? = some (.lst (xs ++ [d]))) : fPop (.ref p) [] st = some (d, st.set p (.lst xs)) := by
  unfold fPop; dsimp only; rw [h]
  simp
theorem eq_nil_ref {st : Sto} {p : Nat} {l : List (List Int)} (h : st[p]? = some (.lst (l.map tupD))) : opEq (.ref p) (.lst []) st = some (.bl (decide (l = [])), st) := by
  cases l with
  | nil => rw [eq_same (top_ref h) rfl (okN_lst (n := 59) fun _ h => by cases h)]; rfl
  | cons a l =>
    unfold opEq eqOf
    have t : top st (.ref p) = .lst ((a :: l).map tupD) := top_ref h
    have g := okN_lst (n := 59) (okN_map (fun b => okN_tupD 58 b) (a :: l))
    rw [show flat2 (.ref p) (.lst []) = none from rfl]
    dsimp only
    rw [t, show top st (.lst []) = .lst [] from rfl, if_pos (by rw [g.1, g.2]; rfl)]
    rfl
/-- the step back -/
def backS (st : Sto) (p a b : Nat) (e : Ear) (pst : List (List Int)) (was : List Int) : Sto := ((st.set a (.lst (pst.map tupD))).set b (.lst ((e.later ++ [e.heard]).map tupD))).set p (earC was a b)
section
variable {st : Sto} {p a b : Nat} {e : Ear} {pst : List (List Int)} {was : List Int}
theorem back_at (h : EarAt st p a b e) (hw : Byt was) (hl : was.length ≤ 400) : EarAt (backS st p a b e pst was) p a b ⟨was, pst, e.later ++ [e.heard]⟩ := by
  obtain ⟨lp, la, lb⟩ := h.lt
  obtain ⟨na, nb⟩ := h.nap
  unfold backS
  refine ⟨?_, ?_, ?_, h.ne, hw, hl⟩
  · rw [List.getElem?_set_self (by simp; exact lp)]
  · rw [List.getElem?_set_ne na, List.getElem?_set_ne (Ne.symm h.ne), List.getElem?_set_self la]
  · rw [List.getElem?_set_ne nb, List.getElem?_set_self (by simp; exact lb)]
theorem ear_back (h : EarAt st p a b e) (hp : e.past = pst ++ [was]) (hlt : e.later.length ≤ 100000) : f_Ear_back [.ref p] st = .ok (.int (e.heard.length - was.length)) (backS st p a b e pst was) := by
  obtain ⟨lp, la, lb⟩ := h.lt
  obtain ⟨na, nb⟩ := h.nap
  have at1 := attr_ref h.obj
  have q0 := eq_nil_ref h.past
  rw [decide_eq_false (by rw [hp]; simp)] at q0
  have hpast := h.past
  rw [hp, List.map_append, List.map_cons, List.map_nil] at hpast
  have pop := fPop_ref hpast
  have i1 := isOf_ref h.past
  have g1 : (st.set a (.lst (pst.map tupD)))[p]? = some (earC e.heard a b) := by rw [List.getElem?_set_ne (Ne.symm na)]; exact h.obj
  have at2 := attr_ref g1
  have g2 : (st.set a (.lst (pst.map tupD)))[b]? = some (.lst (e.later.map tupD)) := by rw [List.getElem?_set_ne h.ne]; exact h.later
  have i2 := isOf_ref g2
  have a2 := append_ref g2 (by rw [List.length_map]; exact sz_lt _ (by omega)) (tupD e.heard)
  have em : (e.later ++ [e.heard]).map tupD = e.later.map tupD ++ [tupD e.heard] := by rw [List.map_append]; rfl
  rw [← em] at a2
  have g3 : ((st.set a (.lst (pst.map tupD))).set b (.lst ((e.later ++ [e.heard]).map tupD)))[p]? = some (earC e.heard a b) := by rw [List.getElem?_set_ne (Ne.symm nb)]; exact g1
  have at3 := attr_ref g3
  have l1 : ∀ s, fLen [tupD e.heard] s = some (.int e.heard.length, s) := fun s => (Ints.tup (st := s) e.heard).len
  have l2 : ∀ s, fLen [tupD was] s = some (.int was.length, s) := fun s => (Ints.tup (st := s) was).len
  unfold f_Ear_back b_Ear_back
  rw [fn_run (by rfl)]
  unfold earC at g3
  have fin : gcR st (.ok (.int (e.heard.length - was.length)) (backS st p a b e pst was)) = .ok (.int (e.heard.length - was.length)) (backS st p a b e pst was) := by
    refine gcR_low (by unfold backS; simp) (by simp) fun i c hc => ?_
    unfold backS at hc
    rcases set_cases hc with z | hc
    · rw [z]; unfold earC tupD; exact .inr (by simp [Cell.cl, D.cl, clL_ints, la, lb])
    · rcases set_cases hc with z | hc
      · rw [z]; exact .inr (cl_tups _ _)
      · rcases set_cases hc with z | hc
        · rw [z]; exact .inr (cl_tups _ _)
        · exact .inl hc
  unfold backS earC at fin ⊢
  simp -implicitDefEqProofs only [em] at fin ⊢
  simp -implicitDefEqProofs only [em] at a2 g3 at3
  simp -implicitDefEqProofs [at1, q0, i1, pop, at2, i2, a2, at3, l1, l2, g3, fin]
end
section
variable {st : Sto} {p a b : Nat} {e : Ear} {ltr : List (List Int)} {was : List Int}
def forthS (st : Sto) (p a b : Nat) (e : Ear) (ltr : List (List Int)) (was : List Int) : Sto := ((st.set b (.lst (ltr.map tupD))).set a (.lst ((e.past ++ [e.heard]).map tupD))).set p (earC was a b)
theorem forth_at (h : EarAt st p a b e) (hw : Byt was) (hl : was.length ≤ 400) : EarAt (forthS st p a b e ltr was) p a b ⟨was, e.past ++ [e.heard], ltr⟩ := by
  obtain ⟨lp, la, lb⟩ := h.lt
  obtain ⟨na, nb⟩ := h.nap
  unfold forthS
  refine ⟨?_, ?_, ?_, h.ne, hw, hl⟩
  · rw [List.getElem?_set_self (by simp; exact lp)]
  · rw [List.getElem?_set_ne na, List.getElem?_set_self (by simp; exact la)]
  · rw [List.getElem?_set_ne nb, List.getElem?_set_ne h.ne, List.getElem?_set_self lb]
theorem ear_forth (h : EarAt st p a b e) (hp : e.later = ltr ++ [was]) (hlt : e.past.length ≤ 100000) : f_Ear_forth [.ref p] st = .ok (.int (was.length - e.heard.length)) (forthS st p a b e ltr was) := by
  obtain ⟨lp, la, lb⟩ := h.lt
  obtain ⟨na, nb⟩ := h.nap
  have at1 := attr_ref h.obj
  have q0 := eq_nil_ref h.later
  rw [decide_eq_false (by rw [hp]; simp)] at q0
  have hlat := h.later
  rw [hp, List.map_append, List.map_cons, List.map_nil] at hlat
  have pop := fPop_ref hlat
  have i1 := isOf_ref h.later
  have g1 : (st.set b (.lst (ltr.map tupD)))[p]? = some (earC e.heard a b) := by rw [List.getElem?_set_ne (Ne.symm nb)]; exact h.obj
  have at2 := attr_ref g1
  have g2 : (st.set b (.lst (ltr.map tupD)))[a]? = some (.lst (e.past.map tupD)) := by rw [List.getElem?_set_ne (Ne.symm h.ne)]; exact h.past
  have i2 := isOf_ref g2
  have a2 := append_ref g2 (by rw [List.length_map]; exact sz_lt _ (by omega)) (tupD e.heard)
  have em : (e.past ++ [e.heard]).map tupD = e.past.map tupD ++ [tupD e.heard] := by rw [List.map_append]; rfl
  rw [← em] at a2
  have g3 : ((st.set b (.lst (ltr.map tupD))).set a (.lst ((e.past ++ [e.heard]).map tupD)))[p]? = some (earC e.heard a b) := by rw [List.getElem?_set_ne (Ne.symm na)]; exact g1
  have at3 := attr_ref g3
  have l1 : ∀ s, fLen [tupD e.heard] s = some (.int e.heard.length, s) := fun s => (Ints.tup (st := s) e.heard).len
  have l2 : ∀ s, fLen [tupD was] s = some (.int was.length, s) := fun s => (Ints.tup (st := s) was).len
  unfold f_Ear_forth b_Ear_forth
  rw [fn_run (by rfl)]
  unfold earC at g3
  have fin : gcR st (.ok (.int (was.length - e.heard.length)) (forthS st p a b e ltr was)) = .ok (.int (was.length - e.heard.length)) (forthS st p a b e ltr was) := by
    refine gcR_low (by unfold forthS; simp) (by simp) fun i c hc => ?_
    unfold forthS at hc
    rcases set_cases hc with z | hc
    · rw [z]; unfold earC tupD; exact .inr (by simp [Cell.cl, D.cl, clL_ints, la, lb])
    · rcases set_cases hc with z | hc
      · rw [z]; exact .inr (cl_tups _ _)
      · rcases set_cases hc with z | hc
        · rw [z]; exact .inr (cl_tups _ _)
        · exact .inl hc
  unfold forthS earC at fin ⊢
  simp -implicitDefEqProofs only [em] at fin ⊢
  simp -implicitDefEqProofs only [em] at a2 g3 at3
  simp -implicitDefEqProofs [at1, q0, i1, pop, at2, i2, a2, at3, l1, l2, g3, fin]
/-- what is untouched by the steps -/
theorem backS_get {i : Nat} {pst : List (List Int)} (h1 : i ≠ p) (h2 : i ≠ a) (h3 : i ≠ b) : (backS st p a b e pst was)[i]? = st[i]? := by
  unfold backS
  rw [List.getElem?_set_ne (Ne.symm h1), List.getElem?_set_ne (Ne.symm h3), List.getElem?_set_ne (Ne.symm h2)]
theorem forthS_get {i : Nat} (h1 : i ≠ p) (h2 : i ≠ a) (h3 : i ≠ b) : (forthS st p a b e ltr was)[i]? = st[i]? := by
  unfold forthS
  rw [List.getElem?_set_ne (Ne.symm h1), List.getElem?_set_ne (Ne.symm h2), List.getElem?_set_ne (Ne.symm h3)]
theorem hearS_get {i : Nat} {xs : List Int} (h1 : i ≠ p) (h2 : i ≠ a) (h : i < st.length) : (hearS st p a e xs)[i]? = st[i]? := by
  unfold hearS
  rw [List.getElem?_append_left (by simp; exact h), List.getElem?_set_ne (Ne.symm h1), List.getElem?_set_ne (Ne.symm h2)]
theorem hearS_len {xs : List Int} : (hearS st p a e xs).length = st.length + 1 := by unfold hearS; simp
theorem backS_len {pst : List (List Int)} : (backS st p a b e pst was).length = st.length := by unfold backS; simp
theorem forthS_len : (forthS st p a b e ltr was).length = st.length := by unfold forthS; simp
/-- at the ends -/
theorem back_no (h : EarAt st p a b e) (hp : e.past = []) : f_Ear_back [.ref p] st = .exc "NoBack" st := by
  have at1 := attr_ref h.obj
  have q0 := eq_nil_ref h.past
  rw [decide_eq_true hp] at q0
  unfold f_Ear_back b_Ear_back
  rw [fn_run (by rfl)]
  simp -implicitDefEqProofs [at1, q0]
  exact gcR_exc0
theorem forth_no (h : EarAt st p a b e) (hp : e.later = []) : f_Ear_forth [.ref p] st = .exc "NoBack" st := by
  have at1 := attr_ref h.obj
  have q0 := eq_nil_ref h.later
  rw [decide_eq_true hp] at q0
  unfold f_Ear_forth b_Ear_forth
  rw [fn_run (by rfl)]
  simp -implicitDefEqProofs [at1, q0]
  exact gcR_exc0
end
end Pg
/-! Shared computations. -/
namespace Pg
open PySem PySem.Spec PyProof.Rows L2 Ly
def b_framed : MS := (mblock [(mcond (mnot (tst (callF Pg.f_are_bytes (args [(mvar 0), (ret (.int 1)), (bin opSub (ret (.int 20)) (ret (.int 1)))])))) (mblock [(mraise ("NoFrame" : Str))]) (mblock [])),
  (mret (bin opAdd (calls fTuple (args [(mvar 0)])) (dtup [(bin opMod (bin opSub (ret (.int 0)) (calls fSumA (args [(mvar 0)]))) (ret (.int 256)))])))])
def f_framed : List D → Sto → R D := fn 1 1 b_framed
def b_are_values : MS := (mblock [(mret (vand (un (opIsi ["tuple"]) (mvar 0)) (callF Pg.f_are_bytes (args [(mvar 0), (ret (.int 1)), (ret (.int 8))]))))])
def f_are_values : List D → Sto → R D := fn 1 1 b_are_values
def b_look_parts : MS := (mblock [(mcond (mor (mnot (tst (un (opIsi ["list", "tuple"]) (mvar 0)))) (mnot (tst (callF Pg.f_are_bytes (args [(mvar 0), (ret (.int 2)), (ret (.int 20))]))))) (mblock [(mraise ("NoFrame" : Str))]) (mblock []))])
def f_look_parts : List D → Sto → R D := fn 1 1 b_look_parts
def b_look_frame : MS := (mblock [(mcond (mnot (tst (callF Pg.f_is_frame (args [(mvar 0)])))) (mblock [(mraise ("NoFrame" : Str))]) (mblock []))])
def f_look_frame : List D → Sto → R D := fn 1 1 b_look_frame
def b_is_ask : MS := (mblock [(mcond (mor (mnot (tst (un (opIsi ["tuple"]) (mvar 0)))) (mor (tst (bin opNe (calls fLen (args [(mvar 0)])) (ret (.int 5)))) (mnot (tst (callF Pg.f_is_whole (args [(bin opIx (mvar 0) (ret (.int 1))), (ret (.int 0)), (ret (.int 99))])))))) (mblock [(mret (ret (.bl false)))]) (mblock [])),
  (mcond (mor (mnot (tst (callF Pg.f_is_whole (args [(bin opIx (mvar 0) (ret (.int 2))), (ret (.int 0)), (bin opSub (ret (.int 16)) (ret (.int 1)))])))) (mnot (tst (callF Pg.f_is_whole (args [(bin opIx (mvar 0) (ret (.int 3))), (ret (.int 0)), (bin opSub (ret (.int 16)) (ret (.int 1)))]))))) (mblock [(mret (ret (.bl false)))]) (mblock [])),
  (mcond (tst (bin opEq (bin opIx (mvar 0) (ret (.int 0))) (ret (.str ("read" : Str))))) (mblock [(mret (vand (bin opGt (bin opIx (mvar 0) (ret (.int 1))) (ret (.int 0))) (callF Pg.f_is_whole (args [(bin opIx (mvar 0) (ret (.int 4))), (ret (.int 1)), (ret (.int 8))]))))]) (mblock [])),
  (mret (vand (bin opEq (bin opIx (mvar 0) (ret (.int 0))) (ret (.str ("write" : Str)))) (callF Pg.f_are_values (args [(bin opIx (mvar 0) (ret (.int 4)))]))))])
def f_is_ask : List D → Sto → R D := fn 1 1 b_is_ask
def b_near_of : MS := (mblock [(mcond (tst (callF Pg.f_is_frame (args [(calls fTuple (args [(mvar 0)]))]))) (mblock [(mret (tree (dlst [(calls fTuple (args [(mvar 0)]))])))]) (mblock [])),
  (mset 1 (bin opMod (calls fSumA (args [(mvar 0)])) (ret (.int 256)))),
  (mset 2 (box (dlst []))),
  (mpre [3, 4] (mfor (enumM (args [(mvar 0)])) (.tp [3, 4]) (mdrop [3, 4] (mblock [(mdo (meth "list" fAppend (mvar 2) (args [(bin opAdd (bin opAdd (calls fTuple (args [(slice opSl (mvar 0) (ret none) (part (mvar 3)))])) (dtup [(bin opMod (bin opSub (mvar 4) (mvar 1)) (ret (.int 256)))])) (calls fTuple (args [(slice opSl (mvar 0) (part (bin opAdd (mvar 3) (ret (.int 1)))) (ret none))])))])))])))),
  (mret (tree (calls fSortT (args [(mvar 2)]))))])
def f_near_of : List D → Sto → R D := fn 1 5 b_near_of
def b_law_parts : MS := (mblock [(mset 2 (box (calls fList (args [(callF Pg.f_law_frame (args [(mvar 0), (mvar 1)]))])))),
  (mset 3 (callF stdPick (args [(mvar 0), (bin opAdd (mvar 1) (ret (.int 40))), (ret (.int 4))]))),
  (mcond (tst (bin opGt (mvar 3) (ret (.int 0)))) (mblock [(mset 4 (callF stdPick (args [(mvar 0), (bin opAdd (mvar 1) (ret (.int 41))), (calls fLen (args [(mvar 2)]))]))),
  (msub (mvar 2) (mvar 4) (bin opMod (bin opAdd (bin opIx (mvar 2) (mvar 4)) (bin opIx (tree (dlst [(ret (.int 0)), (ret (.int 1)), (callF stdPick (args [(mvar 0), (bin opAdd (mvar 1) (ret (.int 42))), (ret (.int 256))]))])) (bin opSub (mvar 3) (ret (.int 1))))) (ret (.int 256))))]) (mblock [])),
  (mret (mvar 2))])
def f_law_parts : List D → Sto → R D := fn 2 5 b_law_parts
def b_look_ask : MS := (mblock [(mcond (mnot (tst (callF Pg.f_is_ask (args [(mvar 0)])))) (mblock [(mraise ("NoAsk" : Str))]) (mblock []))])
def f_look_ask : List D → Sto → R D := fn 1 1 b_look_ask
def b_ask_in : MS := (mblock [(mset 1 (slice opSl (mvar 0) (ret none) (part (un opNeg (ret (.int 1)))))),
  (mcond (mor (tst (bin opLt (calls fLen (args [(mvar 1)])) (ret (.int 5)))) (tst (bin opNotInA (bin opIx (mvar 1) (ret (.int 1))) (dtup [(ret (.int 1)), (ret (.int 2))])))) (mblock [(mret (ret .non))]) (mblock [])),
  (mset 2 (bin opAdd (bin opAdd (bin opAdd (dtup [(ret (.str ("write" : Str)))]) (dtup [(bin opIx (mvar 1) (ret (.int 0)))])) (slice opSl (mvar 1) (part (ret (.int 2))) (part (ret (.int 4))))) (dtup [(slice opSl (mvar 1) (part (ret (.int 4))) (ret none))]))),
  (mcond (tst (bin opEq (bin opIx (mvar 1) (ret (.int 1))) (ret (.int 1)))) (mblock [(mset 2 (bin opAdd (bin opAdd (dtup [(ret (.str ("read" : Str)))]) (dtup [(bin opIx (mvar 1) (ret (.int 0)))])) (slice opSl (mvar 1) (part (ret (.int 2))) (part (ret (.int 5)))))),
  (mcond (tst (bin opGt (calls fLen (args [(mvar 1)])) (ret (.int 5)))) (mblock [(mret (ret .non))]) (mblock []))]) (mblock [])),
  (mret (mif (tst (callF Pg.f_is_ask (args [(mvar 2)]))) (mvar 2) (ret .non)))])
def f_ask_in : List D → Sto → R D := fn 1 3 b_ask_in
def b_near_frames : MS := (mblock [(mdo (callF Pg.f_look_parts (args [(mvar 0)]))),
  (mret (callF Pg.f_near_of (args [(mvar 0)])))])
def f_near_frames : List D → Sto → R D := fn 1 1 b_near_frames
def b_ask_frame : MS := (mblock [(mdo (callF Pg.f_look_ask (args [(mvar 0)]))),
  (mput (.tp [1, 2, 3, 4, 5]) (mvar 0)),
  (mcond (tst (bin opEq (mvar 1) (ret (.str ("read" : Str))))) (mblock [(mret (callF Pg.f_framed (args [(dtup [(mvar 2), (ret (.int 1)), (mvar 3), (mvar 4), (mvar 5)])])))]) (mblock [])),
  (mret (callF Pg.f_framed (args [(bin opAdd (dtup [(mvar 2), (ret (.int 2)), (mvar 3), (mvar 4)]) (mvar 5))])))])
def f_ask_frame : List D → Sto → R D := fn 1 6 b_ask_frame
def b_frame_ask : MS := (mblock [(mdo (callF Pg.f_look_frame (args [(mvar 0)]))),
  (mret (callF Pg.f_ask_in (args [(mvar 0)])))])
def f_frame_ask : List D → Sto → R D := fn 1 1 b_frame_ask
def b_meant : MS := (mblock [(mdo (callF Pg.f_look_parts (args [(mvar 0)]))),
  (mset 1 (tree (comp (walk (callF Pg.f_near_of (args [(mvar 0)]))) (.nm 2) [2] (ret true) (callF Pg.f_ask_in (args [(mvar 2)]))))),
  (mret (tree (comp (walk (mvar 1)) (.nm 3) [3] (tst (bin opNotN (mvar 3) (ret .non))) (mvar 3))))])
def f_meant : List D → Sto → R D := fn 1 4 b_meant
end Pg
/-! Asks and their frames; frames near. -/
namespace Pg
open PySem PySem.Spec PyProof.Rows L2 Ly
theorem gc0 {d : D} {st : Sto} (h : D.cl st.length d = true := by simp) : gcR st (.ok d st) = .ok d st := gcR_same h
/-! ### framed -/
theorem framed_run {st : Sto} {d : D} {xs : List Int} (h : Ints st d xs) (hx : Byt xs) (h1 : 1 ≤ xs.length) (h2 : xs.length ≤ 19) : f_framed [d] st = .ok (tupD (fr xs)) st := by
  unfold f_framed b_framed
  rw [fn_run (by rfl)]
  have B := bytes_run h 1 19
  rw [decide_eq_true (show (1 : Int) ≤ xs.length by omega), decide_eq_true (show (xs.length : Int) ≤ 19 by omega), byt_all hx] at B
  have z : xs.length + 1 ≤ sizeLine := sz _ (by omega)
  have e : (0 - xs.sum) % 256 = (256 - xs.sum % 256) % 256 := by omega
  simp -implicitDefEqProofs [B, z, h.tuple, h.sum]
  rw [show (-xs.sum) % 256 = (256 - xs.sum % 256) % 256 by omega]
  have : D.tup (xs.map D.int ++ [D.int ((256 - xs.sum % 256) % 256)]) = tupD (fr xs) := by unfold tupD fr; rw [List.map_append]; rfl
  rw [this]
  exact gc0 (by unfold tupD; simp [clL_ints])
theorem look_parts_run {st : Sto} {d : D} {xs : List Int} (h : Ints st d xs) (hx : Byt xs) (h1 : 2 ≤ xs.length) (h2 : xs.length ≤ 20) : f_look_parts [d] st = .ok .non st := by
  unfold f_look_parts b_look_parts
  rw [fn_run (by rfl)]
  have B := bytes_run h 2 20
  rw [decide_eq_true (show (2 : Int) ≤ xs.length by omega), decide_eq_true (show (xs.length : Int) ≤ 20 by omega), byt_all hx] at B
  simp -implicitDefEqProofs [B, h.isi]
  exact gc0
theorem look_frame_run {xs : List Int} (h : Frame xs) (st : Sto) : f_look_frame [tupD xs] st = .ok .non st := by
  unfold f_look_frame b_look_frame
  rw [fn_run (by rfl)]
  have B := frame_run xs st
  rw [h.is] at B
  have B' : f_is_frame [tupD xs] st = .ok (.bl true) st := B
  simp -implicitDefEqProofs [B']
  exact gc0
theorem values_run {st : Sto} (xs : List Int) : f_are_values [tupD xs] st = .ok (.bl ((decide (1 ≤ (xs.length : Int)) && decide ((xs.length : Int) ≤ 8)) && xs.all byt)) st := by
  unfold f_are_values b_are_values
  rw [fn_run (by rfl)]
  have B := bytes_run (Ints.tup (st := st) xs) 1 8
  have t : opIsi ["tuple"] (tupD xs) st = some (.bl true, st) := rfl
  unfold tupD at t ⊢
  simp -implicitDefEqProofs [B, t]
  exact gc0
/-! ### asks -/
inductive Ask where
  | rd (own num at' many : Int)
  | wr (own num at' : Int) (vs : List Int)
namespace Ask
def d : Ask → D
  | .rd o n t m => .tup [.str ("read" : Str), .int o, .int n, .int t, .int m]
  | .wr o n t vs => .tup [.str ("write" : Str), .int o, .int n, .int t, tupD vs]
def ps : Ask → List Int
  | .rd o n t m => [o, 1, n, t, m]
  | .wr o n t vs => [o, 2, n, t] ++ vs
def frame (a : Ask) : List Int := fr a.ps
def w (a l h : Int) : Bool := decide (l ≤ a) && decide (a ≤ h)
def ok : Ask → Bool
  | .rd o n t m => w o 0 99 && (w n 0 15 && (w t 0 15 && (decide (0 < o) && w m 1 8)))
  | .wr o n t vs => w o 0 99 && (w n 0 15 && (w t 0 15 && ((decide (1 ≤ (vs.length : Int)) && decide ((vs.length : Int) ≤ 8)) && vs.all byt)))
end Ask
theorem is_ask_run (a : Ask) (st : Sto) : f_is_ask [a.d] st = .ok (.bl a.ok) st := by
  cases a with
  | rd o n t m =>
    unfold f_is_ask b_is_ask Ask.d
    rw [fn_run (by rfl)]
    have w1 := whole_run o 0 99 st
    have w2 := whole_run n 0 15 st
    have w3 := whole_run t 0 15 st
    have w4 := whole_run m 1 8 st
    have ne : ∀ s : Sto, opEq (.str ("read" : Str)) (.str ("read" : Str)) s = some (.bl true, s) := fun _ => rfl
    have g : ∀ s : Sto, opGt (.int o) (.int 0) s = some (.bl (decide (0 < o)), s) := fun s => rfl
    rw [show (Ask.rd o n t m).ok = ((decide (0 ≤ o) && decide (o ≤ 99)) && ((decide (0 ≤ n) && decide (n ≤ 15)) && ((decide (0 ≤ t) && decide (t ≤ 15)) && (decide (0 < o) && (decide (1 ≤ m) && decide (m ≤ 8)))))) from rfl]
    have i3 : atI [D.str ("read" : Str), D.int o, D.int n, D.int t, D.int m] 3 = some (.int t) := rfl
    have i4 : atI [D.str ("read" : Str), D.int o, D.int n, D.int t, D.int m] 4 = some (.int m) := rfl
    generalize (decide (0 ≤ o) && decide (o ≤ 99)) = b1 at w1 ⊢
    generalize (decide (0 ≤ n) && decide (n ≤ 15)) = b2 at w2 ⊢
    generalize (decide (0 ≤ t) && decide (t ≤ 15)) = b3 at w3 ⊢
    generalize (decide (1 ≤ m) && decide (m ≤ 8)) = b4 at w4 ⊢
    have fin : ∀ b : Bool, gcR st (.ok (.bl b) st) = .ok (.bl b) st := fun b => gc0
    cases b1
    · simp -implicitDefEqProofs [w1, fin]
    · cases b2
      · simp -implicitDefEqProofs [w1, w2, fin]
      · cases b3
        · simp -implicitDefEqProofs [w1, w2, w3, i3, fin]
        · cases hb : decide (0 < o)
          · rw [hb] at g; simp -implicitDefEqProofs [w1, w2, w3, i3, i4, ne, g, fin]
          · rw [hb] at g; simp -implicitDefEqProofs [w1, w2, w3, i3, i4, ne, g, w4, fin]
  | wr o n t vs =>
    unfold f_is_ask b_is_ask Ask.d
    rw [fn_run (by rfl)]
    have w1 := whole_run o 0 99 st
    have w2 := whole_run n 0 15 st
    have w3 := whole_run t 0 15 st
    have w4 := values_run (st := st) vs
    have ne : ∀ s : Sto, opEq (.str ("write" : Str)) (.str ("read" : Str)) s = some (.bl false, s) := fun _ => rfl
    have ne2 : ∀ s : Sto, opEq (.str ("write" : Str)) (.str ("write" : Str)) s = some (.bl true, s) := fun _ => rfl
    rw [show (Ask.wr o n t vs).ok = ((decide (0 ≤ o) && decide (o ≤ 99)) && ((decide (0 ≤ n) && decide (n ≤ 15)) && ((decide (0 ≤ t) && decide (t ≤ 15)) && ((decide (1 ≤ (vs.length : Int)) && decide ((vs.length : Int) ≤ 8)) && vs.all Pg.byt)))) from rfl]
    have i3 : atI [D.str ("write" : Str), D.int o, D.int n, D.int t, tupD vs] 3 = some (.int t) := rfl
    have i4 : atI [D.str ("write" : Str), D.int o, D.int n, D.int t, tupD vs] 4 = some (tupD vs) := rfl
    generalize (decide (0 ≤ o) && decide (o ≤ 99)) = b1 at w1 ⊢
    generalize (decide (0 ≤ n) && decide (n ≤ 15)) = b2 at w2 ⊢
    generalize (decide (0 ≤ t) && decide (t ≤ 15)) = b3 at w3 ⊢
    generalize ((decide (1 ≤ (vs.length : Int)) && decide ((vs.length : Int) ≤ 8)) && vs.all Pg.byt) = b4 at w4 ⊢
    have fin : ∀ b : Bool, gcR st (.ok (.bl b) st) = .ok (.bl b) st := fun b => gc0
    cases b1
    · simp -implicitDefEqProofs [w1, fin]
    · cases b2
      · simp -implicitDefEqProofs [w1, w2, fin]
      · cases b3
        · simp -implicitDefEqProofs [w1, w2, w3, i3, fin]
        · simp -implicitDefEqProofs [w1, w2, w3, i3, i4, ne, ne2, w4, fin]
theorem Ask.byt {a : Ask} (h : a.ok = true) : Byt a.ps ∧ 1 ≤ a.ps.length ∧ a.ps.length ≤ 19 := by
  cases a with
  | rd o n t m =>
    simp [Ask.ok, Ask.w] at h
    refine ⟨fun x hx => ?_, by simp [Ask.ps], by simp [Ask.ps]⟩
    simp [Ask.ps] at hx
    omega
  | wr o n t vs =>
    simp [Ask.ok, Ask.w, Pg.byt] at h
    refine ⟨fun x hx => ?_, by simp [Ask.ps], by simp [Ask.ps]; omega⟩
    simp [Ask.ps] at hx
    rcases hx with rfl | rfl | rfl | rfl | hx
    · omega
    · omega
    · omega
    · omega
    · exact h.2.2.2.2 x hx
theorem Ask.isFrame {a : Ask} (h : a.ok = true) : Frame a.frame := fr_frame (Ask.byt h).1 (Ask.byt h).2.1 (Ask.byt h).2.2
theorem look_ask_run {a : Ask} (h : a.ok = true) (st : Sto) : f_look_ask [a.d] st = .ok .non st := by
  unfold f_look_ask b_look_ask
  rw [fn_run (by rfl)]
  have B := is_ask_run a st
  rw [h] at B
  simp -implicitDefEqProofs [B]
  exact gc0
theorem ask_frame_run {a : Ask} (h : a.ok = true) (st : Sto) : f_ask_frame [a.d] st = .ok (tupD a.frame) st := by
  obtain ⟨B, l1, l2⟩ := Ask.byt h
  have L := look_ask_run h st
  have F := framed_run (Ints.tup (st := st) a.ps) B l1 l2
  unfold f_ask_frame b_ask_frame
  rw [fn_run (by rfl)]
  have fin : gcR st (.ok (tupD a.frame) st) = .ok (tupD a.frame) st := gc0 (by unfold tupD; simp [clL_ints])
  unfold Ask.frame at fin ⊢
  cases a with
  | rd o n t m =>
    have ne : ∀ s : Sto, opEq (.str ("read" : Str)) (.str ("read" : Str)) s = some (.bl true, s) := fun _ => rfl
    have F' : f_framed [.tup [.int o, .int 1, .int n, .int t, .int m]] st = .ok (tupD (fr (Ask.rd o n t m).ps)) st := F
    unfold Ask.d at L ⊢
    simp -implicitDefEqProofs [L, ne, F', fin, asg, setAll]
  | wr o n t vs =>
    have ne : ∀ s : Sto, opEq (.str ("write" : Str)) (.str ("read" : Str)) s = some (.bl false, s) := fun _ => rfl
    have F' : f_framed [.tup (.int o :: .int 2 :: .int n :: .int t :: vs.map .int)] st = .ok (tupD (fr (Ask.wr o n t vs).ps)) st := F
    have z : vs.length + 4 ≤ sizeLine := sz _ (by simp [Ask.ps] at l2; omega)
    have ad : opAdd (.tup [.int o, .int 2, .int n, .int t]) (tupD vs) st = some (.tup (.int o :: .int 2 :: .int n :: .int t :: vs.map .int), st) := by
      show (if 4 + (vs.map D.int).length ≤ sizeLine then some (D.tup ([.int o, .int 2, .int n, .int t] ++ vs.map .int), st) else none) = _
      rw [if_pos (by rw [List.length_map]; omega)]; rfl
    unfold Ask.d at L ⊢
    simp -implicitDefEqProofs only [show tupD vs = .tup (vs.map .int) from rfl] at ad L ⊢
    simp -implicitDefEqProofs [L, ne, ad, F', fin, asg, setAll]
end Pg
/-! Frames read as asks; frames near. -/
namespace Pg
open PySem PySem.Spec PyProof.Rows L2 Ly
/-! ### the ask of a frame -/
theorem in12 (p : Int) (st : Sto) : opNotInA (.int p) (.tup [.int 1, .int 2]) st = some (.bl (!(decide (p = 1) || decide (p = 2))), st) := by
  have : opNotIn (.int p) (.tup [.int 1, .int 2]) st = some (.bl (!(D.eq (.int 1) (.int p) || (D.eq (.int 2) (.int p) || false))), st) := rfl
  unfold opNotInA
  rw [this]
  have e1 : D.eq (.int 1) (.int p) = decide (p = 1) := by simp only [D.eq]; exact decide_eq_decide.mpr eq_comm
  have e2 : D.eq (.int 2) (.int p) = decide (p = 2) := by simp only [D.eq]; exact decide_eq_decide.mpr eq_comm
  rw [e1, e2, Bool.or_false]
theorem cut_last1 {α : Type} (xs : List α) (a : α) : cut (xs ++ [a]) none (some (-1)) = xs := by
  unfold cut
  rw [HT.sIx_none, List.drop_zero, Nat.sub_zero]
  have : HT.sIx (xs ++ [a]).length (xs ++ [a]).length (some (-1)) = xs.length := by
    show (if (-1 : Int) < 0 then ((-1 : Int) + (((xs ++ [a]).length : Nat) : Int)).toNat else min (-1 : Int).toNat (xs ++ [a]).length) = _
    rw [if_pos (by decide), List.length_append]
    simp
    omega
  rw [this, List.take_left]
def askIn (xs : List Int) : Option Ask := match xs.dropLast with
  | [o, p, n, t, m] => if p = 1 then (if (Ask.rd o n t m).ok = true then some (.rd o n t m) else none)
    else if p = 2 then (if (Ask.wr o n t [m]).ok = true then some (.wr o n t [m]) else none) else none
  | o :: p :: n :: t :: m :: v :: vs => if p = 2 then (if (Ask.wr o n t (m :: v :: vs)).ok = true then some (.wr o n t (m :: v :: vs)) else none) else none
  | _ => none
def optD : Option Ask → D
  | none => .non
  | some a => a.d
theorem optD_cl (a : Option Ask) (n : Nat) : D.cl n (optD a) = true := by
  cases a with
  | none => simp [optD]
  | some a => cases a <;> simp [optD, Ask.d, tupD, clL_ints]
theorem ask_in_run (xs : List Int) (c : Int) (hl : xs.length ≤ 100) (st : Sto) : f_ask_in [tupD (xs ++ [c])] st = .ok (optD (askIn (xs ++ [c]))) st := by
  have sl : opSl none (some (-1)) (tupD (xs ++ [c])) st = some (tupD xs, st) := by
    show some (D.tup (cut ((xs ++ [c]).map D.int) none (some (-1))), st) = _
    rw [cut_map, cut_last1]; rfl
  have fin : ∀ a, gcR st (.ok (optD a) st) = .ok (optD a) st := fun a => gc0 (optD_cl a _)
  have fn0 : gcR st (.ok .non st) = .ok .non st := gc0
  unfold f_ask_in b_ask_in askIn
  rw [fn_run (by rfl), List.dropLast_concat]
  generalize tupD (xs ++ [c]) = F at sl ⊢
  match xs, hl with
  | [], _ => unfold tupD at sl; simp only [List.map] at sl; simp -implicitDefEqProofs [sl, opLt, optD, fn0]
  | [_], _ => unfold tupD at sl; simp only [List.map] at sl; simp -implicitDefEqProofs [sl, opLt, optD, fn0]
  | [_, _], _ => unfold tupD at sl; simp only [List.map] at sl; simp -implicitDefEqProofs [sl, opLt, optD, fn0]
  | [_, _, _], _ => unfold tupD at sl; simp only [List.map] at sl; simp -implicitDefEqProofs [sl, opLt, optD, fn0]
  | [_, _, _, _], _ => unfold tupD at sl; simp only [List.map] at sl; simp -implicitDefEqProofs [sl, opLt, optD, fn0]
  | [o, p, n, t, m], _ =>
    unfold tupD at sl
    simp only [List.map] at sl
    have c24 : cut [D.int o, .int p, .int n, .int t, .int m] (some 2) (some 4) = [.int n, .int t] := rfl
    have c4 : cut [D.int o, .int p, .int n, .int t, .int m] (some 4) none = [.int m] := rfl
    have c25 : cut [D.int o, .int p, .int n, .int t, .int m] (some 2) (some 5) = [.int n, .int t, .int m] := rfl
    have a1 := is_ask_run (.rd o n t m) st
    have a2 := is_ask_run (.wr o n t [m]) st
    have z2 : 2 ≤ sizeLine := sz _ (by decide)
    have z4 : 4 ≤ sizeLine := sz _ (by decide)
    have z5 : 5 ≤ sizeLine := sz _ (by decide)
    have E : ∀ s : Sto, opEq (.int p) (.int 1) s = some (.bl (decide (p = 1)), s) := fun s => rfl
    dsimp only
    by_cases h1 : p = 1
    · rw [decide_eq_true h1] at E
      rw [if_pos h1]
      subst h1
      unfold Ask.d at a1
      cases hk : (Ask.rd o n t m).ok
      · rw [hk] at a1
        simp -implicitDefEqProofs [sl, opLt, in12, E, c24, c4, c25, z2, z4, z5, a1, optD, fn0]
      · rw [hk] at a1
        have fin' := fin (some (.rd o n t m))
        unfold optD Ask.d at fin'
        simp -implicitDefEqProofs [sl, opLt, in12, E, c24, c4, c25, z2, z4, z5, a1, optD, Ask.d]
        exact fin'
    · rw [decide_eq_false h1] at E
      rw [if_neg h1]
      by_cases h2 : p = 2
      · rw [if_pos h2]
        subst h2
        unfold Ask.d tupD at a2
        simp only [List.map] at a2
        cases hk : (Ask.wr o n t [m]).ok
        · rw [hk] at a2
          simp -implicitDefEqProofs [sl, opLt, in12, E, c24, c4, c25, z2, z4, z5, a2, optD, fn0]
        · rw [hk] at a2
          have fin' := fin (some (.wr o n t [m]))
          unfold optD Ask.d tupD at fin'
          simp only [List.map] at fin'
          simp -implicitDefEqProofs [sl, opLt, in12, E, c24, c4, c25, z2, z4, z5, a2, optD, Ask.d, tupD]
          exact fin'
      · rw [if_neg h2]
        simp -implicitDefEqProofs [sl, opLt, in12, h1, h2, optD, fn0]
  | o :: p :: n :: t :: m :: v :: vs, hl =>
    unfold tupD at sl
    simp only [List.map] at sl
    have lv : ((vs.length : Int) + 6) < 5 ↔ False := ⟨fun h => by omega, False.elim⟩
    have E : ∀ s : Sto, opEq (.int p) (.int 1) s = some (.bl (decide (p = 1)), s) := fun s => rfl
    have c24 : cut (D.int o :: .int p :: .int n :: .int t :: .int m :: .int v :: vs.map .int) (some 2) (some 4) = [.int n, .int t] := cut_both _ 2 4
    have c4 : cut (D.int o :: .int p :: .int n :: .int t :: .int m :: .int v :: vs.map .int) (some 4) none = .int m :: .int v :: vs.map .int := cut_from _ 4
    have c25 : cut (D.int o :: .int p :: .int n :: .int t :: .int m :: .int v :: vs.map .int) (some 2) (some 5) = [.int n, .int t, .int m] := cut_both _ 2 5
    have a2 := is_ask_run (.wr o n t (m :: v :: vs)) st
    have z2 : 2 ≤ sizeLine := sz _ (by decide)
    have z4 : 4 ≤ sizeLine := sz _ (by decide)
    have z5 : 5 ≤ sizeLine := sz _ (by decide)
    have ln : ∀ s, fLen [D.tup (D.int o :: .int p :: .int n :: .int t :: .int m :: .int v :: vs.map .int)] s = some (.int ((vs.length : Int) + 6), s) := fun s => by
      show some (D.int (((D.int o :: .int p :: .int n :: .int t :: .int m :: .int v :: vs.map .int).length : Nat) : Int), s) = _
      simp
      omega
    have g5 : (5 : Int) < (vs.length : Int) + 6 := by omega
    dsimp only
    by_cases h2 : p = 2
    · rw [if_pos h2]
      subst h2
      unfold Ask.d tupD at a2
      simp only [List.map] at a2
      cases hk : (Ask.wr o n t (m :: v :: vs)).ok
      · rw [hk] at a2
        simp -implicitDefEqProofs [sl, ln, opLt, lv, in12, E, c24, c4, c25, z2, z4, z5, a2, optD, fn0]
      · rw [hk] at a2
        have fin' := fin (some (.wr o n t (m :: v :: vs)))
        unfold optD Ask.d tupD at fin'
        simp only [List.map] at fin'
        simp -implicitDefEqProofs [sl, ln, opLt, lv, in12, E, c24, c4, c25, z2, z4, z5, a2, optD, Ask.d, tupD]
        exact fin'
    · rw [if_neg h2]
      by_cases h1 : p = 1
      · subst h1
        simp -implicitDefEqProofs [sl, ln, opLt, opGt, lv, g5, in12, E, c24, c4, c25, z2, z4, z5, optD, fn0]
      · simp -implicitDefEqProofs [sl, ln, opLt, lv, in12, h1, h2, optD, fn0]
theorem frame_split {f : List Int} (h : Frame f) : ∃ xs c, f = xs ++ [c] ∧ c = (256 - xs.sum % 256) % 256 := by
  have l := h.l2
  have ne : f ≠ [] := fun z => by rw [z] at l; simp at l
  refine ⟨f.dropLast, f.getLast ne, (List.dropLast_concat_getLast ne).symm, ?_⟩
  have e := List.dropLast_concat_getLast ne
  have s := h.sum
  have b := h.byt (f.getLast ne) (List.getLast_mem ne)
  rw [← e, List.sum_append] at s
  simp at s
  omega
theorem askIn_run {f : List Int} (h : Frame f) (st : Sto) : f_ask_in [tupD f] st = .ok (optD (askIn f)) st := by
  obtain ⟨xs, c, rfl, _⟩ := frame_split h
  have := h.l20
  exact ask_in_run xs c (by simp at this; omega) st
theorem frame_ask_run {f : List Int} (h : Frame f) (st : Sto) : f_frame_ask [tupD f] st = .ok (optD (askIn f)) st := by
  unfold f_frame_ask b_frame_ask
  rw [fn_run (by rfl)]
  simp -implicitDefEqProofs [look_frame_run h, askIn_run h]
  exact gc0 (optD_cl _ _)
/-- a frame read as an ask is the ask's frame -/
theorem askIn_frame {a : Ask} (h : a.ok = true) : askIn a.frame = some a := by
  unfold askIn Ask.frame fr
  rw [List.dropLast_concat]
  cases a with
  | rd o n t m => unfold Ask.ps; dsimp only; rw [if_pos rfl, if_pos h]
  | wr o n t vs =>
    unfold Ask.ps
    match vs, h with
    | [], h => simp [Ask.ok] at h
    | [m], h => dsimp only [List.cons_append, List.nil_append]; rw [if_neg (by decide), if_pos rfl, if_pos h]
    | m :: v :: vs, h => dsimp only [List.cons_append, List.nil_append]; rw [if_pos rfl, if_pos h]
theorem askIn_some {f : List Int} {a : Ask} (h : Frame f) (e : askIn f = some a) : a.ok = true ∧ a.frame = f := by
  obtain ⟨xs, c, rfl, hc⟩ := frame_split h
  unfold askIn at e
  rw [List.dropLast_concat] at e
  unfold Ask.frame fr
  suffices a.ok = true ∧ a.ps = xs by rw [this.2, ← hc]; exact ⟨this.1, rfl⟩
  match xs, e with
  | [o, p, n, t, m], e =>
    dsimp only at e
    by_cases h1 : p = 1
    · rw [if_pos h1] at e
      split at e
      · rename_i k
        cases e
        exact ⟨k, by rw [h1]; rfl⟩
      · cases e
    · rw [if_neg h1] at e
      by_cases h2 : p = 2
      · rw [if_pos h2] at e
        split at e
        · rename_i k
          cases e
          exact ⟨k, by rw [h2]; rfl⟩
        · cases e
      · rw [if_neg h2] at e; cases e
  | o :: p :: n :: t :: m :: v :: vs, e =>
    dsimp only at e
    by_cases h2 : p = 2
    · rw [if_pos h2] at e
      split at e
      · rename_i k
        cases e
        exact ⟨k, by rw [h2]; rfl⟩
      · cases e
    · rw [if_neg h2] at e; cases e
/-! ### frames near -/
inductive Fl : D → List Int → Prop where
  | tup (xs : List Int) : Fl (tupD xs) xs
  | lst (xs : List Int) : Fl (.lst (xs.map .int)) xs
theorem Fl.ints {d : D} {xs : List Int} (h : Fl d xs) (st : Sto) : Ints st d xs := by
  cases h
  · exact .tup xs
  · exact .lst xs
def var (zs : List Int) (k : Nat) : List Int := zs.take k ++ [(zs.getD k 0 - zs.sum) % 256] ++ zs.drop (k + 1)
def vars (zs : List Int) (n : Nat) : List (List Int) := (List.range n).map (var zs)
theorem var_len {zs : List Int} {k : Nat} (h : k < zs.length) : (var zs k).length = zs.length := by unfold var; simp; omega
theorem sort_ref {st : Sto} {p : Nat} {L : List (List Int)} (h : st[p]? = some (.lst (L.map tupD))) (c : L.length < 64 ∧ 1 ≤ (L.headD [0]).length ∧ okTups (L.headD [0]).length L = true) : fSortT [.ref p] st = some ((L.mergeSort ordT).map tupD, st) := by
  show (rdOf st (.ref p)).bind _ = _
  rw [rdOf_ref h, Option.bind_some, tupsI_map, Option.bind_some, if_pos c]
theorem var_ok {zs : List Int} (hz : Byt zs) (k : Nat) : Byt (var zs k) := by
  intro x hx
  unfold var at hx
  rcases List.mem_append.mp hx with hx | hx
  · rcases List.mem_append.mp hx with hx | hx
    · exact hz x (List.mem_of_mem_take hx)
    · have := List.mem_singleton.mp hx
      omega
  · exact hz x (List.mem_of_mem_drop hx)
theorem vars_ok {zs : List Int} (hz : Byt zs) (h2 : 2 ≤ zs.length) (h20 : zs.length ≤ 20) : (vars zs zs.length).length < 64 ∧ 1 ≤ ((vars zs zs.length).headD [0]).length ∧ okTups ((vars zs zs.length).headD [0]).length (vars zs zs.length) = true := by
  have hd : (vars zs zs.length).headD [0] = var zs 0 := by
    unfold vars
    obtain ⟨m, hm⟩ : ∃ m, zs.length = m + 1 := ⟨zs.length - 1, by omega⟩
    rw [hm, List.range_succ_eq_map, List.map_cons]
    rfl
  rw [hd, var_len (by omega)]
  refine ⟨by unfold vars; simp; omega, by omega, List.all_eq_true.mpr fun l hl => ?_⟩
  unfold vars at hl
  obtain ⟨k, hk, rfl⟩ := List.mem_map.mp hl
  rw [var_len (List.mem_range.mp hk), decide_eq_true rfl, Bool.true_and]
  refine List.all_eq_true.mpr fun i hi => ?_
  have := var_ok hz k i hi
  rw [Bool.and_eq_true, decide_eq_true_eq, decide_eq_true_eq]
  exact ⟨this.1, by show i < 4294967296; omega⟩
theorem var_sum {zs : List Int} {k : Nat} (h : k < zs.length) : (var zs k).sum % 256 = 0 := by
  have e : zs.sum = (zs.take k).sum + (zs.getD k 0 + (zs.drop (k + 1)).sum) := by
    conv => lhs; rw [← List.take_append_drop k zs, List.sum_append, List.drop_eq_getElem_cons h, List.sum_cons]
    rw [List.getD_eq_getElem?_getD, List.getElem?_eq_getElem h]; rfl
  unfold var
  rw [List.sum_append, List.sum_append, List.sum_singleton]
  omega
def nears (zs : List Int) : List (List Int) := if isFr zs then [zs] else (vars zs zs.length).mergeSort ordT
theorem nears_frame {zs : List Int} (hz : Byt zs) (h2 : 2 ≤ zs.length) (h20 : zs.length ≤ 20) : ∀ f ∈ nears zs, Frame f ∧ f.length = zs.length := by
  intro f hf
  unfold nears at hf
  split at hf
  · rename_i k
    rw [List.mem_singleton.mp hf]
    exact ⟨isFr_of k, rfl⟩
  · have := (List.mergeSort_perm (vars zs zs.length) ordT).mem_iff.mp hf
    unfold vars at this
    obtain ⟨k, hk, rfl⟩ := List.mem_map.mp this
    have hk := List.mem_range.mp hk
    have l := var_len hk
    exact ⟨⟨var_ok hz k, by omega, by omega, var_sum hk⟩, l⟩

theorem near_run {zs : List Int} {d : D} (hd : Fl d zs) (hz : Byt zs) (h2 : 2 ≤ zs.length) (h20 : zs.length ≤ 20) (g : Sto) : f_near_of [d] g = .ok (.lst ((nears zs).map tupD)) g := by
  unfold f_near_of b_near_of nears
  rw [fn_run (by rfl)]
  have F := frame_run zs g
  have tp : ∀ s, fTuple [d] s = some (.tup (zs.map .int), s) := fun s => (hd.ints s).tuple
  have sm : ∀ s, fSumA [d] s = some (.int zs.sum, s) := fun s => (hd.ints s).sum
  cases hf : isFr zs with
  | true =>
    rw [hf] at F
    simp -implicitDefEqProofs [tp, F]
    exact gc0 (by simp [tupD, clL_ints])
  | false =>
  rw [hf] at F
  have sl1 : ∀ (j : Nat) s, ∃ u, opSl none (some (j : Int)) d s = some (u, s) ∧ fTuple [u] s = some (.tup ((zs.take j).map .int), s) := fun j s => by
    have c1 : cut (zs.map D.int) none (some (j : Int)) = (zs.take j).map D.int := by rw [cut_map, cut_to]
    cases hd with
    | tup => exact ⟨.tup ((zs.take j).map .int), by show some (D.tup (cut _ _ _), s) = _; rw [c1], rfl⟩
    | lst => exact ⟨.lst ((zs.take j).map .int), by show some (D.lst (cut _ _ _), s) = _; rw [c1], rfl⟩
  have sl2 : ∀ (j : Nat) s, ∃ u, opSl (some ((j : Int) + 1)) none d s = some (u, s) ∧ fTuple [u] s = some (.tup ((zs.drop (j + 1)).map .int), s) := fun j s => by
    have c2 : cut (zs.map D.int) (some ((j : Int) + 1)) none = (zs.drop (j + 1)).map D.int := by rw [cut_map]; exact congrArg _ (cut_from zs (j + 1))
    cases hd with
    | tup => exact ⟨.tup ((zs.drop (j + 1)).map .int), by show some (D.tup (cut _ _ _), s) = _; rw [c2], rfl⟩
    | lst => exact ⟨.lst ((zs.drop (j + 1)).map .int), by show some (D.lst (cut _ _ _), s) = _; rw [c2], rfl⟩
  have en : ∀ s, (match srcOf s d with | some x => x.xs = zs.map .int ∧ x.ok = fun _ => true | none => False) := fun s => by
    cases hd with
    | tup => exact ⟨rfl, rfl⟩
    | lst => exact ⟨rfl, rfl⟩
  have en2 : ∀ s, srcOf s d = some ⟨zs.map .int, fun _ => true⟩ := fun s => by
    cases hd with
    | tup => rfl
    | lst => rfl
  have P := pairs_map (fun (i : Nat) => D.int (0 + (i : Int))) D.int (List.range zs.length) zs
  have EN : ∀ (m : M (List D)) e s, m e s = .ok [d] s → enumM m e s = .ok ⟨pairs (rng 0 zs.length) (zs.map .int), fun _ => true⟩ s := fun m e s hm => by
    unfold enumM
    rw [bnd_run, hm, nxt_ok]
    show optR ((srcOf s d).map _) = _
    rw [en2]
    simp
  have EN2 : ∀ e s, enumM (args [(mvar 0)]) (some d :: e) s = .ok ⟨pairs (rng 0 zs.length) (zs.map .int), fun _ => true⟩ s := fun e s => EN _ _ _ (by simp -implicitDefEqProofs)
  generalize hb : mdrop [3, 4] (mblock [mdo _]) = bd
  have hlz : ((List.range zs.length).zip zs).length = zs.length := by simp
  obtain ⟨e2, st2, hfx, he2, e2s⟩ := forX_map (p := .tp [3, 4]) (body := bd) (fun p : Nat × Int => D.tup [D.int (0 + (p.1 : Int)), D.int p.2]) ((List.range zs.length).zip zs) (fun k e s => e = [some d, some (.int (zs.sum % 256)), some (.ref g.length), none, none] ∧ s = g ++ [.lst ((vars zs k).map tupD)])
    (e := [some d, some (.int (zs.sum % 256)), some (.ref g.length), none, none]) (st := g ++ [.lst []]) ⟨rfl, rfl⟩ (by
      rintro j hj e s ⟨rfl, rfl⟩
      subst hb
      have hj2 : j < zs.length := by rw [hlz] at hj; exact hj
      have ej : ((List.range zs.length).zip zs)[j] = (j, zs[j]) := by simp
      rw [ej]
      refine ⟨_, rfl, [some d, some (.int (zs.sum % 256)), some (.ref g.length), none, none], g ++ [.lst ((vars zs (j + 1)).map tupD)], .inl ?_, rfl, rfl⟩
      have hv : vars zs (j + 1) = vars zs j ++ [var zs j] := by unfold vars; rw [List.range_succ, List.map_append]; rfl
      have h0 : (g ++ [Cell.lst ((vars zs j).map tupD)])[g.length]? = some (.lst ((vars zs j).map tupD)) := by simp
      have ap := append_ref h0 (by rw [List.length_map]; unfold vars; rw [List.length_map, List.length_range]; exact sz_lt _ (by omega)) (tupD (var zs j))
      rw [set1] at ap
      have i0 := isOf_ref h0
      obtain ⟨u1, s1, t1⟩ := sl1 j (g ++ [Cell.lst ((vars zs j).map tupD)])
      obtain ⟨u2, s2, t2⟩ := sl2 j (g ++ [Cell.lst ((vars zs j).map tupD)])
      have z1 : (zs.take j).length + 1 ≤ sizeLine := sz _ (by rw [List.length_take]; omega)
      have z2 : (zs.take j).length + 1 + (zs.drop (j + 1)).length ≤ sizeLine := sz _ (by rw [List.length_take, List.length_drop]; omega)
      have gj : zs.getD j 0 = zs[j] := by rw [List.getD_eq_getElem?_getD, List.getElem?_eq_getElem hj2]; rfl
      have tv : tupD (var zs j) = .tup ((zs.take j).map D.int ++ [.int ((zs[j] - zs.sum) % 256)] ++ (zs.drop (j + 1)).map D.int) := by
        unfold tupD var
        rw [gj, List.map_append, List.map_append]
        rfl
      rw [tv] at ap
      rw [hv, List.map_append, List.map_cons, List.map_nil, tv]
      simp -implicitDefEqProofs [setAll, i0, s1, t1, s2, t2, z1, z2, -List.map_take, -List.map_drop, -List.length_take, -List.length_drop, -List.append_assoc, ap])
  subst he2 e2s
  rw [hlz] at hfx
  rw [← P, ← rng_map] at hfx
  have so := sort_ref (st := g ++ [.lst ((vars zs zs.length).map tupD)]) (p := g.length) (L := vars zs zs.length) (by simp) (vars_ok hz h2 h20)
  simp -implicitDefEqProofs [tp, F, sm, en2, hfx, so]
  exact gcR_new (clL_map _ _ (fun l => by unfold tupD; simp [clL_ints]) _)
theorem nearf_run {zs : List Int} {d : D} (hd : Fl d zs) (hz : Byt zs) (h2 : 2 ≤ zs.length) (h20 : zs.length ≤ 20) (g : Sto) : f_near_frames [d] g = .ok (.lst ((nears zs).map tupD)) g := by
  unfold f_near_frames b_near_frames
  rw [fn_run (by rfl)]
  simp -implicitDefEqProofs [look_parts_run (hd.ints g) hz h2 h20, near_run hd hz h2 h20]
  exact gcR_same (clL_map _ _ (fun l => by unfold tupD; simp [clL_ints]) _)
theorem meant_run {zs : List Int} {d : D} (hd : Fl d zs) (hz : Byt zs) (h2 : 2 ≤ zs.length) (h20 : zs.length ≤ 20) (g : Sto) : f_meant [d] g = .ok (.lst (((nears zs).filterMap askIn).map Ask.d)) g := by
  unfold f_meant b_meant
  rw [fn_run (by rfl)]
  have A : ∀ s, loopC (fun _ => true) (.nm 2) (ret true) (callF f_ask_in (args [(mvar 2)])) [some d, none, none, none] ((nears zs).map tupD) s = .ok ((nears zs).map fun f => optD (askIn f)) s := fun s =>
    loopC_all rfl tupD _ (fun f => [some d, none, some (tupD f), none]) _ fun f hf => ⟨rfl, by
      simp -implicitDefEqProofs [askIn_run (nears_frame hz h2 h20 f hf).1]⟩
  have nn : ∀ a : Option Ask, decide (optD a = .non) = a.isNone := fun a => by
    cases a with
    | none => rfl
    | some a => cases a <;> rfl
  have Bq : ∀ (l : List (Option Ask)) x s, loopC (fun _ => true) (.nm 3) (tst (bin opNotN (mvar 3) (ret .non))) (mvar 3) [some d, x, none, none] (l.map optD) s = .ok ((l.filter fun a => a.isSome).map optD) s := fun l x s =>
    loopC_mapK rfl optD optD (fun a => a.isSome) (fun a => [some d, x, none, some (optD a)]) l fun a _ => ⟨rfl, by
      simp -implicitDefEqProofs [nn], fun _ => by simp -implicitDefEqProofs⟩
  have B := Bq ((nears zs).map askIn) (some (.lst ((nears zs).map fun f => optD (askIn f)))) g
  rw [List.map_map] at B
  have e : (((nears zs).map askIn).filter fun a => a.isSome).map optD = ((nears zs).filterMap askIn).map Ask.d := by
    induction nears zs with
    | nil => rfl
    | cons f l ih =>
      rw [List.map_cons, List.filter_cons, List.filterMap_cons]
      cases askIn f with
      | none => simpa using ih
      | some a => simp only [Option.isSome_some, if_true, List.map_cons, ih]; rfl
  rw [e] at B
  simp -implicitDefEqProofs [look_parts_run (hd.ints g) hz h2 h20, near_run hd hz h2 h20, wipeE, A]
  have B' : loopC (fun _ => true) (.nm 3) (tst (bin opNotN (mvar 3) (ret .non))) (mvar 3) [some d, some (.lst ((nears zs).map fun f => optD (askIn f))), none, none] ((nears zs).map fun f => optD (askIn f)) g = .ok (((nears zs).filterMap askIn).map Ask.d) g := B
  simp -implicitDefEqProofs [B']
  exact gcR_same (clL_map _ _ (fun a => optD_cl (some a) _) _)
theorem at3 (a b c : D) {w : Int} (h : 0 ≤ w ∧ w < 3) : ∃ x ∈ [a, b, c], atI [a, b, c] w = some x := by
  have : w = 0 ∨ w = 1 ∨ w = 2 := by omega
  rcases this with z | z | z <;> rw [z]
  · exact ⟨a, by simp, rfl⟩
  · exact ⟨b, by simp, rfl⟩
  · exact ⟨c, by simp, rfl⟩
theorem parts_run {ns : List Int} (h : ns.length ≤ 63) {at' : Int} (h0 : 0 ≤ at') (g : Sto) : ∃ zs, Byt zs ∧ 2 ≤ zs.length ∧ zs.length ≤ 20 ∧ f_law_parts [.scr ns, .int at'] g = .ok (.lst (zs.map .int)) g := by
  obtain ⟨F, hF, rF⟩ := lf_run h h0
  have ts : ∀ s, fList [tupD F] s = some (F.map .int, s) := fun _ => rfl
  have p40 : ∀ s, _ := fun s => pick_any h (at' + 40) 4 s (by omega) (by decide)
  have r40 := pk_range ns (at' + 40) (m := 4) (by decide)
  unfold f_law_parts b_law_parts
  rw [fn_run (by rfl)]
  have g0 : ∀ zs : List Int, (g ++ [Cell.lst (zs.map .int)])[g.length]? = some (.lst (zs.map .int)) := fun zs => by simp
  by_cases w : 0 < pk ns (at' + 40) 4
  · have l2 := hF.l2
    have l20 := hF.l20
    have p41 : ∀ s, _ := fun s => pick_any h (at' + 41) F.length s (by omega) (by omega)
    have r41 := pk_range ns (at' + 41) (m := F.length) (by omega)
    obtain ⟨c, hc⟩ : ∃ c : Nat, (c : Int) = pk ns (at' + 41) F.length := ⟨(pk ns (at' + 41) F.length).toNat, by omega⟩
    have hc2 : c < F.length := by omega
    have p42 : ∀ s, _ := fun s => pick_any h (at' + 42) 256 s (by omega) (by decide)
    have r42 := pk_byt ns (at' + 42) (m := 256) (by decide) (by decide)
    obtain ⟨M, hM⟩ : ∃ M : Int, atI [D.int 0, D.int 1, D.int (pk ns (at' + 42) 256)] (pk ns (at' + 40) 4 - 1) = some (.int M) := by
      obtain ⟨x, hx, e⟩ := at3 (.int 0) (.int 1) (.int (pk ns (at' + 42) 256)) (w := pk ns (at' + 40) 4 - 1) (by omega)
      simp at hx
      rcases hx with rfl | rfl | rfl <;> exact ⟨_, e⟩
    have ix : ixN F.length (c : Int) = some c := ixN_at hc2
    have ln := (Ints.ref (g0 F)).len
    have o1 : opIx (.ref g.length) (.int (c : Int)) (g ++ [Cell.lst (F.map .int)]) = some (.int F[c], g ++ [Cell.lst (F.map .int)]) := by
      rw [opIx_ref (g0 F), atI_map' D.int F c F[c] (List.getElem?_eq_getElem hc2)]; rfl
    refine ⟨F.set c ((F[c] + M) % 256), fun x hx => ?_, by rw [List.length_set]; exact l2, by rw [List.length_set]; exact l20, ?_⟩
    · rcases List.mem_or_eq_of_mem_set hx with h | h
      · exact hF.byt x h
      · rw [h]; omega
    · simp -implicitDefEqProofs [rF, ts, p40, opGt, w, ln, p41, ← hc, o1, p42, hM, ix]
      rw [← List.map_set]
      exact gcR_made (Nat.le_refl _) (g0 _) (clL_ints _ _)
  · refine ⟨F, hF.byt, hF.l2, hF.l20, ?_⟩
    simp -implicitDefEqProofs [rF, ts, p40, opGt, w]
    exact gcR_made (Nat.le_refl _) (g0 F) (clL_ints _ _)
/-! ### asks compared -/
theorem okN_ask (n : Nat) (a : Ask) : okN (n + 2) a.d := by
  cases a with
  | rd o m t k =>
    refine okN_tup fun x hx => ?_
    simp at hx
    rcases hx with rfl | rfl | rfl | rfl | rfl
    · exact okN_str _ (by decide +kernel)
    all_goals exact okN_int _ _
  | wr o m t vs =>
    refine okN_tup fun x hx => ?_
    simp at hx
    rcases hx with rfl | rfl | rfl | rfl | rfl
    · exact okN_str _ (by decide +kernel)
    · exact okN_int _ _
    · exact okN_int _ _
    · exact okN_int _ _
    · exact okN_tupD _ _
theorem okA (l : List Ask) : okN 60 (.lst (l.map Ask.d)) := okN_lst (okN_map (fun a => okN_ask _ _) _)
theorem notIn_mem {x : D} {L : List D} {st : Sto} (hx : x ∈ L) (hf : x.flat = false) (ht : top st x = x) (h : okN 60 (.lst L)) (hk : okN 60 x) : opNotInA x (.lst L) st = some (.bl false, st) := by
  have e : opNotIn x (.lst L) st = none := by
    show inF true x (.lst L) st = none
    show (if (x.flat && L.all D.flat) = true then _ else none) = none
    rw [hf]; rfl
  unfold opNotInA
  rw [e]
  show inD true x (.lst L) st = _
  unfold inD
  rw [show top st (.lst L) = .lst L from rfl]
  dsimp only
  rw [ht, if_pos (by rw [hk.1, hk.2, h.1, h.2]; rfl)]
  have : (L.any fun z => D.eq z x) = true := List.any_eq_true.mpr ⟨x, hx, D.eq_self x hk.2⟩
  rw [this]; rfl
theorem ask_flat (a : Ask) : a.d.flat = false := by cases a <;> rfl
theorem ask_top (a : Ask) (st : Sto) : top st a.d = a.d := by cases a <;> rfl
/-! ### a byte otherwise -/
def spoil (xs : List Int) (i : Nat) (b : Int) : List Int := xs.take i ++ [(xs.getD i 0 + b) % 256] ++ xs.drop (i + 1)
theorem spoil_len {xs : List Int} {i : Nat} {b : Int} (h : i < xs.length) : (spoil xs i b).length = xs.length := by unfold spoil; simp; omega
theorem spoil_byt {xs : List Int} (hx : Byt xs) (i : Nat) (b : Int) : Byt (spoil xs i b) := by
  intro x h
  unfold spoil at h
  rcases List.mem_append.mp h with h | h
  · rcases List.mem_append.mp h with h | h
    · exact hx x (List.mem_of_mem_take h)
    · have := List.mem_singleton.mp h; omega
  · exact hx x (List.mem_of_mem_drop h)
theorem spoil_near {F : List Int} (f : Frame F) {i : Nat} (h : i < F.length) {b : Int} (h1 : 1 ≤ b) (h2 : b ≤ 255) : F ∈ nears (spoil F i b) := by
  have lt : (F.take i).length = i := by rw [List.length_take]; omega
  have e : F.sum = (F.take i).sum + (F.getD i 0 + (F.drop (i + 1)).sum) := by
    conv => lhs; rw [← List.take_append_drop i F, List.sum_append, List.drop_eq_getElem_cons h, List.sum_cons]
    rw [List.getD_eq_getElem?_getD, List.getElem?_eq_getElem h]; rfl
  have s : (spoil F i b).sum = (F.take i).sum + (F.getD i 0 + b) % 256 + (F.drop (i + 1)).sum := by
    unfold spoil
    rw [List.sum_append, List.sum_append, List.sum_singleton]
  have fs := f.sum
  have nf : isFr (spoil F i b) = false := by
    cases q : isFr (spoil F i b) with
    | false => rfl
    | true => have := (isFr_of q).sum; omega
  have fb : 0 ≤ F.getD i 0 ∧ F.getD i 0 ≤ 255 := by
    rw [List.getD_eq_getElem?_getD, List.getElem?_eq_getElem h]
    exact f.byt _ (List.getElem_mem h)
  unfold nears
  rw [nf, if_neg Bool.false_ne_true]
  refine (List.mergeSort_perm _ ordT).mem_iff.mpr (List.mem_map.mpr ⟨i, List.mem_range.mpr (by rw [spoil_len h]; exact h), ?_⟩)
  have gi : (spoil F i b).getD i 0 = (F.getD i 0 + b) % 256 := by
    unfold spoil
    rw [List.getD_eq_getElem?_getD, List.getElem?_append_left (by rw [List.length_append, lt]; simp), List.getElem?_append_right (by omega), lt, Nat.sub_self]; rfl
  have t1 : (spoil F i b).take i = F.take i := by
    unfold spoil
    rw [List.append_assoc, List.take_append_of_le_length (by omega), List.take_of_length_le (by omega)]
  have t2 : (spoil F i b).drop (i + 1) = F.drop (i + 1) := by
    unfold spoil
    exact List.drop_left' (by rw [List.length_append, lt]; rfl)
  unfold var
  rw [gi, t1, t2, s]
  have : ((F.getD i 0 + b) % 256 - ((F.take i).sum + (F.getD i 0 + b) % 256 + (F.drop (i + 1)).sum)) % 256 = F.getD i 0 := by omega
  rw [this]
  conv => rhs; rw [← List.take_append_drop i F, List.drop_eq_getElem_cons h]
  rw [List.getD_eq_getElem?_getD, List.getElem?_eq_getElem h, List.append_assoc]; rfl
theorem nears_one {F : List Int} (f : Frame F) : nears F = [F] := by unfold nears; rw [f.is, if_pos rfl]
end Pg
/-! Shared computations. -/
namespace Pg
open PySem PySem.Spec PyProof.Rows L2 Ly
def b_unlike : MS := (mblock [(mdo (callF Pg.f_look_parts (args [(mvar 0)]))),
  (mdo (callF Pg.f_look_parts (args [(mvar 1)]))),
  (mset 2 (calls fMax (args [(calls fLen (args [(mvar 0)])), (calls fLen (args [(mvar 1)]))]))),
  (mset 3 (tree (bin catN (tree (calls fList (args [(mvar 0)]))) (tree (bin repN2 (tree (dlst [(ret .non)])) (bin opSub (mvar 2) (calls fLen (args [(mvar 0)])))))))),
  (mset 4 (tree (bin catN (tree (calls fList (args [(mvar 1)]))) (tree (bin repN2 (tree (dlst [(ret .non)])) (bin opSub (mvar 2) (calls fLen (args [(mvar 1)])))))))),
  (mret (calls fLen (args [(tree (comp (zipM (args [(mvar 3), (mvar 4)])) (.tp [5, 6]) [5, 6] (tst (bin opNe (mvar 5) (mvar 6))) (ret (.int 1))))])))])
def f_unlike : List D → Sto → R D := fn 2 7 b_unlike
end Pg
/-! At how many places rows of bytes are unlike. -/
namespace Pg
open PySem PySem.Spec PyProof.Rows L2 Ly
def oD : Option Int → D
  | none => .non
  | some i => .int i
theorem oD_ne (a b : Option Int) (st : Sto) : opNe (oD a) (oD b) st = some (.bl (!decide (a = b)), st) := by
  have g : ∀ a : Option Int, okN 60 (oD a) := fun a => by
    cases a with
    | none => exact okN_non _
    | some i => exact okN_int _ _
  cases a with
  | none =>
    cases b with
    | none => rfl
    | some j =>
      unfold opNe eqOf
      rw [show flat2 (oD none) (oD (some j)) = none from rfl]
      dsimp only
      rw [show top st (oD none) = oD none from rfl, show top st (oD (some j)) = oD (some j) from rfl, if_pos (by rw [(g _).1, (g _).2, (g _).1, (g _).2]; rfl)]
      rfl
  | some i =>
    cases b with
    | none =>
      unfold opNe eqOf
      rw [show flat2 (oD (some i)) (oD none) = none from rfl]
      dsimp only
      rw [show top st (oD none) = oD none from rfl, show top st (oD (some i)) = oD (some i) from rfl, if_pos (by rw [(g _).1, (g _).2, (g _).1, (g _).2]; rfl)]
      rfl
    | some j =>
      show some (D.bl (!decide (i = j)), st) = _
      congr 4
      exact decide_eq_decide.mpr ⟨fun h => by rw [h], fun h => Option.some.inj h⟩
def pad (xs : List Int) (n : Nat) : List (Option Int) := xs.map some ++ List.replicate (n - xs.length) none
theorem pad_len {xs : List Int} {n : Nat} (h : xs.length ≤ n) : (pad xs n).length = n := by unfold pad; simp; omega
def unl (xs ys : List Int) : Nat := (((pad xs (max xs.length ys.length)).zip (pad ys (max xs.length ys.length))).filter fun p => !decide (p.1 = p.2)).length
theorem unlike_run {xs ys : List Int} {a b : D} (ha : Fl a xs) (hb : Fl b ys) (hx : Byt xs) (hy : Byt ys) (h1 : 2 ≤ xs.length) (h2 : xs.length ≤ 20) (h3 : 2 ≤ ys.length) (h4 : ys.length ≤ 20) (st : Sto) :
    f_unlike [a, b] st = .ok (.int (unl xs ys)) st := by
  obtain ⟨n, hn⟩ : ∃ n, n = max xs.length ys.length := ⟨_, rfl⟩
  have hm : (if (ys.length : Int) > (xs.length : Int) then (ys.length : Int) else (xs.length : Int)) = (n : Int) := by split <;> omega
  have r0 : ∀ (k : Nat) (s : Sto), k ≤ 20 → repN2 (.lst [.non]) (.int (k : Int)) s = some (List.replicate k .non, s) := fun k s hk => by
    show repD s (.lst [.non]) (k : Int) = _
    unfold repD
    rw [show lstOf s (.lst [.non]) = some [.non] from rfl]
    dsimp only
    rw [if_pos ⟨by omega, by omega, sz _ (by simp; omega)⟩]
    simp
  have s1 : (n : Int) - (xs.length : Int) = ((n - xs.length : Nat) : Int) := by omega
  have s2 : (n : Int) - (ys.length : Int) = ((n - ys.length : Nat) : Int) := by omega
  have ct : ∀ (zs : List Int) (s : Sto), zs.length ≤ 20 → catN (.lst (zs.map .int)) (.lst (List.replicate (n - zs.length) .non)) s = some ((pad zs n).map oD, s) := fun zs s hz => by
    show (if (zs.map D.int).length + (List.replicate (n - zs.length) D.non).length ≤ sizeLine then _ else _) = _
    rw [if_pos (by rw [List.length_map, List.length_replicate]; exact sz _ (by omega))]
    unfold pad
    rw [List.map_append, List.map_map, List.map_replicate]; rfl
  have P := pairs_map oD oD (pad xs n) (pad ys n)
  have A : ∀ (x3 x4 : Option D) s, loopC (fun _ => true) (.tp [5, 6]) (tst (bin opNe (mvar 5) (mvar 6))) (ret (.int 1)) [some a, some b, some (.int n), x3, x4, none, none] (((pad xs n).zip (pad ys n)).map fun p => D.tup [oD p.1, oD p.2]) s = .ok ((((pad xs n).zip (pad ys n)).filter fun p => !decide (p.1 = p.2)).map fun _ => .int 1) s := fun x3 x4 s =>
    loopC_mapK rfl (fun p : Option Int × Option Int => D.tup [oD p.1, oD p.2]) (fun _ => D.int 1) (fun p => !decide (p.1 = p.2)) (fun p => [some a, some b, some (.int n), x3, x4, some (oD p.1), some (oD p.2)]) _ fun p _ => ⟨rfl, by
      simp -implicitDefEqProofs [oD_ne], fun _ => rfl⟩
  have la : ∀ s, fList [a] s = some (xs.map .int, s) := fun s => (ha.ints s).list
  have lb : ∀ s, fList [b] s = some (ys.map .int, s) := fun s => (hb.ints s).list
  have na : ∀ s, fLen [a] s = some (.int xs.length, s) := fun s => (ha.ints s).len
  have nb : ∀ s, fLen [b] s = some (.int ys.length, s) := fun s => (hb.ints s).len
  have z1 : ∀ s, repN2 (.lst [.non]) (.int ((n : Int) - (xs.length : Int))) s = some (List.replicate (n - xs.length) .non, s) := fun s => by rw [s1]; exact r0 _ s (by omega)
  have z2 : ∀ s, repN2 (.lst [.non]) (.int ((n : Int) - (ys.length : Int))) s = some (List.replicate (n - ys.length) .non, s) := fun s => by rw [s2]; exact r0 _ s (by omega)
  have mx : ∀ s, fMax [.int (xs.length : Int), .int (ys.length : Int)] s = some (.int n, s) := fun s => by rw [fMax_int, hm]
  unfold f_unlike b_unlike unl
  rw [fn_run (by rfl), ← hn]
  generalize hX : pad xs n = X at *
  generalize hY : pad ys n = Y at *
  simp -implicitDefEqProofs [look_parts_run (ha.ints st) hx h1 h2, look_parts_run (hb.ints st) hy h3 h4, na, nb, mx, la, lb, z1, z2, hX, hY, ct xs st h2, ct ys st h4, P, wipeE, A, isTup, -List.map_replicate]
  exact gc0
theorem pad_get {xs : List Int} {n k : Nat} (h : k < n) : (pad xs n)[k]? = some xs[k]? := by
  unfold pad
  by_cases hk : k < xs.length
  · rw [List.getElem?_append_left (by rw [List.length_map]; exact hk), List.getElem?_map, List.getElem?_eq_getElem hk]; rfl
  · rw [List.getElem?_append_right (by rw [List.length_map]; omega), List.length_map, List.getElem?_replicate, if_pos (by omega), List.getElem?_eq_none (by omega)]
theorem filter_range {α : Type} (P : α → Bool) (d : α) (l : List α) : (l.filter P).length = ((List.range l.length).filter fun k => P (l.getD k d)).length := by
  induction l with
  | nil => rfl
  | cons a l ih =>
    rw [List.length_cons, List.range_succ_eq_map, List.filter_cons, List.filter_cons, List.filter_map, List.getD_cons_zero]
    have : ((fun k => P ((a :: l).getD k d)) ∘ Nat.succ) = fun k => P (l.getD k d) := rfl
    rw [this]
    cases P a <;> simp [ih, -List.getD_eq_getElem?_getD]
/-- unlike places, one by one -/
theorem unl_range (xs ys : List Int) : unl xs ys = ((List.range (max xs.length ys.length)).filter fun k => !decide (xs[k]? = ys[k]?)).length := by
  obtain ⟨n, hn⟩ : ∃ n, n = max xs.length ys.length := ⟨_, rfl⟩
  have l1 := pad_len (xs := xs) (n := n) (by omega)
  have l2 := pad_len (xs := ys) (n := n) (by omega)
  unfold unl
  rw [← hn, filter_range _ (none, none)]
  have lz : ((pad xs n).zip (pad ys n)).length = n := by rw [List.length_zip]; omega
  rw [lz]
  congr 1
  refine List.filter_congr fun k hk => ?_
  have hk := List.mem_range.mp hk
  have : ((pad xs n).zip (pad ys n)).getD k (none, none) = (xs[k]?, ys[k]?) := by
    rw [List.getD_eq_getElem?_getD, (List.getElem?_zip_eq_some (z := (xs[k]?, ys[k]?))).mpr ⟨pad_get hk, pad_get hk⟩]; rfl
  rw [this]
theorem unl_self (xs : List Int) : unl xs xs = 0 := by
  rw [unl_range]
  rw [List.length_eq_zero_iff, List.filter_eq_nil_iff]
  intro k _
  simp
theorem unl_comm (xs ys : List Int) : unl xs ys = unl ys xs := by
  rw [unl_range, unl_range, Nat.max_comm]
  congr 1
  exact List.filter_congr fun k _ => by rw [decide_eq_decide.mpr eq_comm]
theorem unl_count (xs ys : List Int) : unl xs ys = (max xs.length ys.length - min xs.length ys.length) + ((List.range (min xs.length ys.length)).filter fun k => !decide (xs.getD k 0 = ys.getD k 0)).length := by
  obtain ⟨m, hm⟩ : ∃ m, m = min xs.length ys.length := ⟨_, rfl⟩
  obtain ⟨k, hk⟩ : ∃ k, k = max xs.length ys.length - m := ⟨_, rfl⟩
  rw [unl_range, ← hm, ← hk, show max xs.length ys.length = m + k by omega, List.range_add, List.filter_append, List.length_append, Nat.add_comm]
  congr 1
  · have : (List.map (fun x => m + x) (List.range k)).filter (fun k => !decide (xs[k]? = ys[k]?)) = List.map (fun x => m + x) (List.range k) := by
      refine List.filter_eq_self.mpr fun j hj => ?_
      obtain ⟨i, hi, rfl⟩ := List.mem_map.mp hj
      have hi := List.mem_range.mp hi
      have : xs[m + i]? ≠ ys[m + i]? := by
        by_cases h : xs.length ≤ ys.length
        · rw [List.getElem?_eq_none (by omega), List.getElem?_eq_getElem (by omega)]; simp
        · rw [List.getElem?_eq_getElem (by omega), List.getElem?_eq_none (l := ys) (by omega)]; simp
      rw [decide_eq_false this]; rfl
    rw [this, List.length_map, List.length_range]
  · congr 1
    refine List.filter_congr fun j hj => ?_
    have hj := List.mem_range.mp hj
    rw [List.getD_eq_getElem?_getD, List.getD_eq_getElem?_getD, List.getElem?_eq_getElem (show j < xs.length by omega), List.getElem?_eq_getElem (show j < ys.length by omega)]
    simp
theorem filter_one (n k : Nat) (h : k < n) : ((List.range n).filter fun j => decide (j = k)).length = 1 := by
  induction n with
  | zero => omega
  | succ n ih =>
    rw [List.range_succ, List.filter_append, List.length_append]
    by_cases e : k = n
    · subst e
      have : (List.range k).filter (fun j => decide (j = k)) = [] := List.filter_eq_nil_iff.mpr fun j hj => by
        have := List.mem_range.mp hj
        simp; omega
      rw [this]; simp
    · rw [ih (by omega)]
      simp [Ne.symm e]
theorem var_get {zs : List Int} {k : Nat} (h : k < zs.length) (j : Nat) : (var zs k)[j]? = if j = k then some ((zs.getD k 0 - zs.sum) % 256) else zs[j]? := by
  have lt : (zs.take k).length = k := by rw [List.length_take]; omega
  unfold var
  rw [List.append_assoc]
  by_cases e : j = k
  · rw [if_pos e, List.getElem?_append_right (by omega), lt, e, Nat.sub_self]; rfl
  · rw [if_neg e]
    by_cases l : j < k
    · rw [List.getElem?_append_left (by omega), List.getElem?_take_of_lt l]
    · rw [List.getElem?_append_right (by omega), lt, List.getElem?_append_right (by simp; omega), List.getElem?_drop]
      congr 1
      simp
      omega
theorem var_new {zs : List Int} (hz : Byt zs) {k : Nat} (h : k < zs.length) (hs : zs.sum % 256 ≠ 0) : (zs.getD k 0 - zs.sum) % 256 ≠ zs.getD k 0 := by
  have := hz (zs.getD k 0) (by rw [List.getD_eq_getElem?_getD, List.getElem?_eq_getElem h]; exact List.getElem_mem h)
  omega
theorem getD_some {zs : List Int} {k : Nat} (h : k < zs.length) : zs[k]? = some (zs.getD k 0) := by rw [List.getD_eq_getElem?_getD, List.getElem?_eq_getElem h]; rfl
theorem unl_var {zs : List Int} (hz : Byt zs) {k : Nat} (h : k < zs.length) (hs : zs.sum % 256 ≠ 0) : unl (var zs k) zs = 1 := by
  rw [unl_range, var_len h, Nat.max_self, ← filter_one zs.length k h]
  congr 1
  refine List.filter_congr fun j hj => ?_
  have hj := List.mem_range.mp hj
  rw [var_get h]
  by_cases e : j = k
  · subst e
    rw [if_pos rfl, decide_eq_true rfl, getD_some h]
    have := var_new hz h hs
    simp [-List.getD_eq_getElem?_getD, this]
  · rw [if_neg e, decide_eq_false e]; simp
theorem vars_nodup {zs : List Int} (hz : Byt zs) (hs : zs.sum % 256 ≠ 0) : (vars zs zs.length).Nodup := by
  unfold vars
  rw [List.nodup_iff_pairwise_ne, List.pairwise_map]
  refine List.Pairwise.imp_of_mem (R := fun a b => a ≠ b) (fun {a b} ha hb hab e => ?_) (List.nodup_iff_pairwise_ne.mp List.nodup_range)
  have ha := List.mem_range.mp ha
  have hb := List.mem_range.mp hb
  have g := congrArg (fun l : List Int => l[a]?) e
  rw [var_get ha, var_get hb, if_pos rfl, if_neg hab, getD_some ha] at g
  exact var_new hz ha hs (Option.some.inj g)
end Pg
/-! Exceptions that are caught, and known from then on. -/
namespace Ly
open PySem PySem.Spec PyProof.Rows L2
section
variable {X : Cx} {pins : List (Addr × Obj)} {σ : L2.St} {H : Hp} {s : Shared}
/-- the object at a, out of reach so far, is known as an exception from now on -/
theorem inv_track {cls : Value} {a : Addr} {oe : Obj} {vs : Array Value} (I : Inv X pins σ H s) (na : H a = none) (h0 : X.s_0.heap.get? a = none) (hp : ∀ p ∈ X.pn ++ pins, p.1 ≠ a) (nL : a ≠ X.env.locals)
    (ha : s.heap.get? a = some oe) (hz : Zc cls none oe) (hd : oe.data = .fields vs) : Inv X pins σ (upd H a (ExT cls a)) s := by
  have kept : ∀ {b o}, H b = some o → upd H a (ExT cls a) b = some o := fun {b o} e => by rw [upd_ne (ne_of_none e na)]; exact e
  have U := I.base
  have old : ∀ {b o}, X.s_0.heap.get? b = some o → b ≠ a := fun {b o} e z => by rw [z, h0] at e; cases e
  exact {
    ok := I.ok, os := I.os, bare := I.bare, loc := I.loc, cell := I.cell, len := I.len
    base := { keep := U.keep, slot := U.slot, there := U.there
              free := fun b o e n hx => by rw [upd_ne (old e)]; exact U.free b o e n hx
              tups := fun b xs e => kept (U.tups b xs e)
              frzs := fun b o u e => kept (U.frzs b o u e)
              tbls := fun b ps e => let ⟨more, q⟩ := U.tbls b ps e; ⟨more, kept q⟩ }
    free := by rw [upd_ne (Ne.symm nL)]; exact I.free
    freeC := fun x c e => by
      refine (upd_ne fun z => ?_).trans (I.freeC x c e)
      obtain ⟨v, o, q1, q2⟩ := I.cell x c e
      rw [z, ha] at q1
      cases q1
      rw [hd] at q2
      cases q2
    pin := fun p m => by
      obtain ⟨p1, p2, p3⟩ := I.pin p m
      exact ⟨p1, (upd_ne (hp p m)).trans p2, p3⟩
    hok := fun b u e => by
      by_cases hb : b = a
      · subst hb
        rw [upd_same] at e
        cases e
        exact ⟨⟨oe, vs, ha, hz, hd⟩, ⟨oe, ha⟩, fun g1 g2 ⟨o, w, q1, q2, q3⟩ st => ⟨o, w, st o q1, q2, q3⟩⟩
      · rw [upd_ne hb] at e
        exact (I.hok b u e).stay (fun _ _ _ q => q) (fun _ q => kept q) fun _ _ q => kept q }
/-- into an except suite, nothing new pinned; and back -/
theorem inv_in (I : Inv X pins σ H s) (a : Addr) : Inv (X.suite a (X.pn ++ pins)) [] σ H s :=
  { ok := I.ok.suite _ _, os := I.os, bare := I.bare, base := I.base, loc := I.loc, cell := I.cell, free := I.free, freeC := I.freeC, hok := I.hok, len := I.len
    pin := fun p m => I.pin p (by rwa [List.append_nil] at m) }
theorem inv_out {a : Addr} {more : List (Addr × Obj)} (ok : X.Ok) (I : Inv (X.suite a (X.pn ++ pins)) more σ H s) : Inv X pins σ H s :=
  { ok := ok, os := I.os, bare := I.bare, base := I.base, loc := I.loc, cell := I.cell, free := I.free, freeC := I.freeC, hok := I.hok, len := I.len
    pin := fun p m => I.pin p (List.mem_append_left _ m) }
end
/-- where a suite ends: slot i is forgotten -/
def Ends.unset (D : Ends) (i : Nat) : Ends := { nx := fun e H => D.nx (e.set i none) H, rt := D.rt, bk := fun e H => D.bk (e.set i none) H, ct := fun e H => D.ct (e.set i none) H }
/-- the wish of a try that keeps -/
def wKeep (K : PySem.W.Frag) (c : Value) (i : Nat) (ts : Addr → Value → TS) (Wout : WX) (D : Ends) : WX := fun cls d σ H =>
  ∃ b, PySem.W.exmOne K cls c = some b ∧ (b = true → d = none ∧ ∀ a, H a = none → ts a cls (Ends.unset D i) (σ.set i (some (.ref a))) (upd H a (ExT cls a))) ∧ (b = false → Wout cls d σ H)
section
variable {X : Cx} {x n : Str} {c : Value} {i : Nat} {body suite : List Stmt} {b₀ : Stmt} {np pos pos' : Pos} {tb : WX → TS} {ts : Addr → Value → TS} {Wout : WX}
/-- try: body / except x as n: suite; what is caught stays known -/
theorem ps_try_keep (hex : X.ex = []) (hstk : X.stack = X.env :: X.outer) (hfra : X.env.frame = some X.env.locals) (nd : X.N.Nodup) (hi : X.N[i]? = some n) (hln : X.env.kindOf n = some .local) (hc : Names X x c) (tk : Takes X Wout)
    (hb : ∀ (W : WX) (pn : List (Addr × Obj)) (xe : Value → Shared → Prop), Takes (X.tr pn xe) W → PSs (X.tr pn xe) body (tb W))
    (hsu : ∀ (a : Addr) (cls : Value) (pn : List (Addr × Obj)), PSs (X.suite a pn) (b₀ :: suite) (ts a cls)) :
    PS X (.Try body [.ExceptHandler (some (.Name x np)) (some n) (b₀ :: suite) pos'] [] [] pos) (fun D σ H => tb (wKeep X.K c i ts Wout D) D σ H) := by
  constructor
  intro pins s σ H D I h
  have ok := I.ok
  have Afr : X.A.frames = some (X.env :: X.outer) := by rw [← hstk]; exact ok.frames
  refine wpAny_Try_except (wpAny_mono ((hb (wKeep X.K c i ts Wout D) (X.pn ++ pins) (fun u s1 => wpAny (model X.prog X.w) X.A (noteFrame u X.env)
    (fun _ s2 => wpAny (model X.prog X.w) X.A (setFlight u none) (fun _ s3 => wpAny (model X.prog X.w) X.A (handleBy u X.env [.ExceptHandler (some (.Name x np)) (some n) (b₀ :: suite) pos']) (SP X pins D) X.xe s3) X.xe s2) X.xe s1) ?_).run [] s σ H D (I.toTry _) h) ?_ fun _ _ z => z)
  · intro u s' air
    obtain ⟨a, G, sI, more, e, H1, cls, d, rfl, I1, below, up, sky, fresh, os, bare, b, isb, yes, no⟩ := air
    have J := I1.ofTry ok
    rw [show (X.tr (X.pn ++ pins) _).stack = X.env :: X.outer from hstk] at sky
    refine Sky.land Zc.steady Afr hfra sky fun hp1 fl1 up1 => ?_
    have J1 : Inv X pins e H1 { s' with heap := hp1 } := J.landed below fl1.1 (up.trans up1) os bare
    obtain ⟨o1, w1, at1, z1, d1⟩ := fl1.there
    -- where it stands
    have out : a ∉ frs (X.env :: X.outer) := fun hm => by
      obtain ⟨_, o, q1, q2⟩ := fl1.2.2.1.mem hm
      rw [at1] at q1
      cases q1
      exact q2 _ d1
    have offL : a ≠ X.env.locals := fun z => out (List.mem_filterMap.mpr ⟨X.env, List.mem_cons_self, by rw [z]; exact hfra⟩)
    have newI : sI.heap.get? a = none := by
      cases q : sI.heap.get? a with
      | none => rfl
      | some o =>
        have := below a o q (by show a ∉ frs X.stack; rw [hstk]; exact out)
        rw [fl1.2.1] at this
        cases this
    have new0 : X.s_0.heap.get? a = none := by
      cases q : X.s_0.heap.get? a with
      | none => rfl
      | some o =>
        obtain ⟨o', q'⟩ := J.base.there a o q (by rw [hex]; exact List.not_mem_nil)
        rw [newI] at q'
        cases q'
    have offP : ∀ p ∈ X.pn ++ pins, p.1 ≠ a := fun p hp z => by
      have q := (J.pin p hp).1
      rw [z, newI] at q
      cases q
    have sub := PySem.W.exm_one (M := model X.prog X.w) J1.kIn (fun A Q E s k q => wpAny_typeOf_ref (k _ _ at1) (by rw [z1.1]; exact q)) isb
    refine wpAny_handleBy_cons (codeAny_handlers_test ?_) (fun q => by cases q)
    have name : ∀ {Q E : Value → Shared → Prop}, Q c { s' with heap := hp1 } → wpAny (model X.prog X.w) (X.A.mark (some (.ref a))) (eval (.Name x np) X.env) Q E { s' with heap := hp1 } := fun {Q E} q => by
      have S := inv_in J1 a
      obtain ⟨gl, nd, m | ⟨m, v, nn⟩⟩ := hc
      · exact ld_glob (X := X.suite a (X.pn ++ pins)) S gl m q nd
      · exact ld_blt (X := X.suite a (X.pn ++ pins)) S gl m v q nn nd
    refine name (sub.here ?_)
    cases b with
    | false =>
      refine wpAny_handleBy_nil ?_
      obtain ⟨_, _, _, o, w, T, _, _, q1, _, q2, q3, _⟩ := id fl1
      unfold PySem.passOn
      refine wpAny_bind (wpAny_field q1 q2 q3 ?_)
      have go : wpAny (model X.prog X.w) X.A (setFlight (.ref a) X.env.frame) (fun _ s4 => wpAny (model X.prog X.w) X.A (throw (.ref a) : Sem Flow) (SP X pins D) X.xe s4) X.xe { s' with heap := hp1 } := by
        rw [hfra]
        refine HandSPX.setFlight_upZ fl1 fun hp2 held up2 => wpAny_throw (tk _ _ ⟨a, G, sI, pins, e, H1, cls, d, rfl, J, below, (up.trans up1).trans up2, .inr (.inr ?_), fresh, os, bare, no rfl⟩)
        rw [hstk]
        exact held
      rw [if_neg (by simp)]
      first
        | exact wpAny_bind (wpAny_pure (wpAny_bind go))
        | exact wpAny_bind go
    | true =>
      obtain ⟨rfl, wish⟩ := yes rfl
      refine codeAny_handlers_suite_as (HandSPX.lands_againZ fl1 fun hp2 fl2 up2 => ?_)
      obtain ⟨o2, w2, at2, z2, d2⟩ := fl2.there
      have J2 : Inv X pins e H1 { s' with heap := hp2 } := J.landed below fl2.1 ((up.trans up1).trans up2) os bare
      have T2 := inv_in (inv_track (s := { s' with heap := hp2 }) J2 fresh new0 offP offL at2 z2 d2) a
      refine store_ok (X := X.suite a (X.pn ++ pins)) (v := .ref a) T2 nd hi (.inl hln) rfl (fun s5 S5 => wpAny_mono ((hsu a cls (X.pn ++ pins)).run [] s5 _ _ _ S5 (wish a fresh)) (fun f s6 r6 => ?_) fun _ _ z => z.elim) (.inr hln)
      have leave : ∀ {e6 : L2.St} {H6 : Hp} {R : Shared → Prop}, Inv (X.suite a (X.pn ++ pins)) [] e6 H6 s6 → (∀ s7, Inv X pins (e6.set i none) H6 s7 → R s7) →
          wpAny (model X.prog X.w) X.A (do bindName X.env n .none; unbindBehindTheSuite X.env n pos') (fun _ s7 => R s7) X.xe s6 := fun S6 k => gone_ok (inv_out ok S6) nd hi hln k
      cases f with
      | next => obtain ⟨e6, H6, S6, q⟩ := r6; exact leave S6 fun s7 J7 => ⟨_, H6, J7, q⟩
      | brk => obtain ⟨e6, H6, S6, q⟩ := r6; exact leave S6 fun s7 J7 => ⟨_, H6, J7, q⟩
      | cont => obtain ⟨e6, H6, S6, q⟩ := r6; exact leave S6 fun s7 J7 => ⟨_, H6, J7, q⟩
      | ret u => obtain ⟨v6, e6, H6, S6, rv, q⟩ := r6; exact leave S6 fun s7 J7 => ⟨v6, _, H6, J7, rv, q⟩
  · intro f s1 r
    cases f with
    | next => obtain ⟨e1, H1, I1, q⟩ := r; exact wpAny_execs_nil ⟨e1, H1, I1.ofTry ok, q⟩
    | brk => obtain ⟨e1, H1, I1, q⟩ := r; exact ⟨e1, H1, I1.ofTry ok, q⟩
    | cont => obtain ⟨e1, H1, I1, q⟩ := r; exact ⟨e1, H1, I1.ofTry ok, q⟩
    | ret u => obtain ⟨v, e1, H1, I1, rv, q⟩ := r; exact ⟨v, e1, H1, I1.ofTry ok, rv, q⟩
end
/-! ### the statement -/
/-- which exceptions an except clause x catches: all of L -/
structure CatF (K : PySem.W.Frag) (mg : Str → Option Value) (x : Str) (L : List Str) : Prop where
  ex : ∃ Cc, mg x = some (.ref Cc) ∧ ∀ y ∈ L, ∃ Ca, mg y = some (.ref Ca) ∧ PySem.W.exmOne K (.ref Ca) (.ref Cc) = some true
def RS.unset (i : Nat) : RS → RS
  | .nx e st => .nx (e.set i none) st
  | .bk e st => .bk (e.set i none) st
  | .ct e st => .ct (e.set i none) st
  | .ret d st => .ret d st
  | .exc _ _ _ => .bad
  | .bad => .bad
/-- try: b / except .. as i: u -/
def mtry (L : List Str) (i : Nat) (b u : MS) : MS := fun e st => match b e st with
  | .exc x e' st' => if x ∈ L then RS.unset i (u (e'.set i (some (.exc x))) st') else .bad
  | r => r
theorem postS_unset {C : Ctx} {W : WX} {B : Bd} {D : Ends} {i : Nat} {r : RS} (h : postS C W B D (RS.unset i r)) : postS C W0 B (Ends.unset D i) r := by
  cases r with
  | nx e st => exact fun σ' B' x q => h _ B' x ⟨q.h, q.e.unset i⟩
  | bk e st => exact fun σ' B' x q => h _ B' x ⟨q.h, q.e.unset i⟩
  | ct e st => exact fun σ' B' x q => h _ B' x ⟨q.h, q.e.unset i⟩
  | ret d st => exact h
  | exc x e st => exact h.elim
  | bad => exact h
theorem exT_noTb {cls : Value} {a : Addr} : NoTb (ExT cls a) := fun ps z => by
  unfold ExT at z
  cases z
section
variable {X : Cx} {C : Ctx} {Wout : WX} {x n : Str} {i : Nat} {body suite : List Stmt} {b₀ : Stmt} {np pos pos' : Pos} {b u : MS} {L : List Str}
theorem s_try (nd : X.N.Nodup) (tk : Takes X Wout) (F : CatF X.K X.mg x L)
    (hb : ∀ (W : WX) (pn : List (Addr × Obj)) (xe : Value → Shared → Prop), Takes (X.tr pn xe) W → PSs (X.tr pn xe) body (ts C W b))
    (hu : ∀ (a : Addr) (pn : List (Addr × Obj)), PSs (X.suite a pn) (b₀ :: suite) (ts C W0 u)) (hM : C.mg = X.mg := by rfl) (hex : X.ex = [] := by rfl) (hstk : X.stack = X.env :: X.outer := by rfl) (hfra : X.env.frame = some X.env.locals := by rfl)
    (hi : X.N[i]? = some n := by rfl) (hln : X.env.kindOf n = some .local := by rfl) (hg : Gl X x := by rfl) (hdb : (x == ("__debug__" : Str)) = false := by decide) :
    PS X (.Try body [.ExceptHandler (some (.Name x np)) (some n) (b₀ :: suite) pos'] [] [] pos) (ts C Wout (mtry L i b u)) := by
  obtain ⟨Cc, hm, all⟩ := F.ex
  refine (ps_try_keep (c := .ref Cc) (tb := fun W => ts C W b) (ts := fun _ _ => ts C W0 u) (Wout := Wout) hex hstk hfra nd hi hln ⟨hg, hdb, .inl hm⟩ tk hb fun a _ pn => hu a pn).imp fun D σ H ⟨env, st, B, e, r, p⟩ => ⟨env, st, B, e, r, ?_⟩
  unfold mtry at p
  cases q : b env st with
  | nx e' st' => rw [q] at p; exact p
  | bk e' st' => rw [q] at p; exact p
  | ct e' st' => rw [q] at p; exact p
  | ret d st' => rw [q] at p; exact p
  | bad => rw [q] at p; exact p
  | exc y e' st' =>
    rw [q] at p
    dsimp only at p
    by_cases hy : y ∈ L
    · rw [if_pos hy] at p
      intro cls σ' B' hcls ext R
      obtain ⟨Ca, h1, h2⟩ := all y hy
      rw [hM, h1] at hcls
      cases hcls
      refine ⟨true, h2, fun _ => ⟨rfl, fun a na => ?_⟩, fun z => by cases z⟩
      obtain ⟨x2, r2⟩ := R.h.newF (o := ExT (.ref Ca) a) na exT_noTb
      have rp : Rep C ⟨upd B'.H a (ExT (.ref Ca) a), B'.m, fun z => B'.F z ∨ z = a, B'.Z⟩ (.exc y) (.ref a) := by
        unfold Rep
        exact ⟨a, Ca, rfl, .inr rfl, by rw [hM]; exact h1, upd_same⟩
      exact ⟨_, st', ⟨upd B'.H a (ExT (.ref Ca) a), B'.m, fun z => B'.F z ∨ z = a, B'.Z⟩, rfl, ⟨r2, (R.e.mono x2).set i rp⟩, postS_unset (p.later (ext.trans x2))⟩
    · rw [if_neg hy] at p
      exact p.elim
end
/-! ### isinstance of what was caught -/
def opIsx (x : Str) (L : List Str) (d : D) (st : Sto) : Option (D × Sto) := match d with
  | .exc c => if c ∈ L then some (.bl (decide (c = x)), st) else none
  | _ => none
/-- of a class above them all -/
def opIsa (L : List Str) (d : D) (st : Sto) : Option (D × Sto) := match d with
  | .exc c => if c ∈ L then some (.bl true, st) else none
  | _ => none
structure IsxF (K : PySem.W.Frag) (mg : Str → Option Value) (x : Str) (L : List Str) : Prop where
  ex : ∃ Cx, mg x = some (.ref Cx) ∧ PySem.W.keepIn K (.ref Cx) = true ∧ ∀ y ∈ L, ∃ Ca, mg y = some (.ref Ca) ∧ ExcC K Ca ∧ PySem.W.kitOne K (.ref Ca) (.ref Cx) = some (decide (y = x))
structure IsaF (K : PySem.W.Frag) (mg : Str → Option Value) (t : String) (L : List Str) : Prop where
  ex : ∀ y ∈ L, ∃ Ca, mg y = some (.ref Ca) ∧ ExcC K Ca ∧ PySem.W.kitOne K (.ref Ca) (.type t) = some true
def rIsX (K : PySem.W.Frag) : List V → Hp → VK → Prop := fun xs H Q => ∃ (a Ca : Addr) (c : V) (cv : Value) (b : Bool), xs = [.ref a, c] ∧ (∀ u, RelV c u → u = cv) ∧ H a = some (ExT (.ref Ca) a) ∧ ExcC K Ca ∧ PySem.W.kitOne K (.ref Ca) cv = some b ∧ Q (.bl b) H
theorem call_isX {X : Cx} : CallR X (.builtin "isinstance") (rIsX X.K) := by
  intro pins s σ H xs us Q I r h
  obtain ⟨a, Ca, c, cv, b, rfl, hcv, hH, E, k, q⟩ := h
  match us, r with
  | [_, u2], .cons rx (.cons rt .nil) =>
    cases rx
    obtain rfl := hcv _ rt
    obtain ⟨⟨oe, vs, get, z, d⟩, _⟩ := I.hok a _ hH
    have J : PySem.W.InstAt s.heap a oe Ca none := by
      cases oe with
      | mk oc od oda osl =>
        obtain ⟨z1, z2⟩ := z
        cases z1
        cases z2
        cases d
        exact ⟨get, rfl, rfl, trivial⟩
    exact PySem.W.kia_one (PySem.W.handS_kitx_exc E.hg E.hk E.hs E.hd E.ha E.hn E.ht E.hm) I.kIn J k (fun z => nomatch z) fun tk => ⟨.bl b, H, I.kept (t' := tk) fun _ _ z => z, rfl, q⟩
section
variable {X : Cx} {C : Ctx} {W : WX} {a : Expr} {ca : M D} {pos p p2 : Pos} {L : List Str}
theorem e_isx {x : Str} (hg : Gl X "isinstance") (hm : X.mg "isinstance" = none) (F : IsxF X.K X.mg x L) (ha : PE X a (te C W ca)) (hM : C.mg = X.mg := by rfl) (hgx : Gl X x := by rfl) (hd : (x == ("__debug__" : Str)) = false := by decide)
    (hs : starEach [a, .Name x p2] X.env = (false, eval a X.env) :: starEach [.Name x p2] X.env := by rfl) (hpl : (backTo pos (starEach [.Name x p2] X.env)).any (·.1) = false := by rfl) :
    PE X (.Call (.Name "isinstance" p) [a, .Name x p2] [] pos) (te C W (un (opIsx x L) ca)) := by
  obtain ⟨Cx, g, kp, all⟩ := F.ex
  refine (pe_callB (call_isX (X := X)) hg hm (by decide +kernel) (pa_cons ha (pa_cons (pe_glob (v := .ref Cx) hgx g rfl hd) pa_nil) hs) (by decide) (by decide) hs hpl).imp fun σ H Q ⟨env, st, B, e, r, p⟩ => ?_
  subst e
  refine (seq r p).mono fun v H1 ⟨d, st1, B1, e1, x1, r1, p1, k1⟩ => ?_
  subst e1
  obtain ⟨d', st', e, k⟩ := post_lift k1
  unfold opIsx at e
  split at e
  · rename_i c
    split at e
    · rename_i hc
      cases e
      unfold Rep at p1
      obtain ⟨a, Ca, rfl, hF, h1, h2⟩ := p1
      obtain ⟨Ca', h3, h4, h5⟩ := all c hc
      rw [hM, h3] at h1
      cases h1
      refine ⟨a, Ca, .ref Cx, .ref Cx, _, rfl, fun u q => q, h2, h4, h5, ?_⟩
      exact k _ B1 (Ext.refl _ _) r1 rep_bl
    · cases e
  · cases e
theorem e_isa {T : Str} {t : String} (hg : Gl X "isinstance") (hm : X.mg "isinstance" = none) (hgT : Gl X T) (hmT : X.mg T = none) (hv : bootBuiltins T = some (.type t)) (hn : T ≠ "__name__") (hd : (T == ("__debug__" : Str)) = false) (F : IsaF X.K X.mg t L) (ha : PE X a (te C W ca)) (hM : C.mg = X.mg := by rfl)
    (hs : starEach [a, .Name T p2] X.env = (false, eval a X.env) :: starEach [.Name T p2] X.env := by rfl) (hpl : (backTo pos (starEach [.Name T p2] X.env)).any (·.1) = false := by rfl) :
    PE X (.Call (.Name "isinstance" p) [a, .Name T p2] [] pos) (te C W (un (opIsa L) ca)) := by
  refine (pe_callB (call_isX (X := X)) hg hm (by decide +kernel) (pa_cons ha (pa_cons (pe_bltn (v := .ty t) hgT hmT hv rfl hn hd) pa_nil) hs) (by decide) (by decide) hs hpl).imp fun σ H Q ⟨env, st, B, e, r, p⟩ => ?_
  subst e
  refine (seq r p).mono fun v H1 ⟨d, st1, B1, e1, x1, r1, p1, k1⟩ => ?_
  subst e1
  obtain ⟨d', st', e, k⟩ := post_lift k1
  unfold opIsa at e
  split at e
  · rename_i c
    split at e
    · rename_i hc
      cases e
      unfold Rep at p1
      obtain ⟨a, Ca, rfl, hF, h1, h2⟩ := p1
      obtain ⟨Ca', h3, h4, h5⟩ := F.ex c hc
      rw [hM, h3] at h1
      cases h1
      refine ⟨a, Ca, .ty t, .type t, _, rfl, fun u q => q, h2, h4, h5, ?_⟩
      exact k _ B1 (Ext.refl _ _) r1 rep_bl
    · cases e
  · cases e
end
end Ly
/-! Defs that are called within an except suite, where what was caught is known. -/
namespace Ly
open PySem PySem.Spec PyProof.Rows L2
/-- the context of a def's body there -/
abbrev warm (X : Cx) : Cx := { X with calm := false }
/-- a context where nothing is handled gives one where something is -/
theorem inv_warm {X : Cx} {A : Around} {pins : List (Addr × Obj)} {σ : L2.St} {H : Hp} {s : Shared} (I : Inv X pins σ H s) (hf : A.frames = X.A.frames) (xe : Value → Shared → Prop) : Inv { X with A := A, calm := false, xe := xe } pins σ H s :=
  { ok := { mod := I.ok.mod, kind := I.ok.kind, glob := I.ok.glob, blt := I.ok.blt, above := I.ok.above, inj := I.ok.inj, has := I.ok.has, cab := I.ok.cab, hd := fun z => Bool.noConfusion z, frames := hf.trans I.ok.frames
            stk := I.ok.stk, exf := I.ok.exf, bs := I.ok.bs, bsz := I.ok.bsz, noex := I.ok.noex, exfs := I.ok.exfs, funs := I.ok.funs, frf := I.ok.frf }
    os := I.os, bare := I.bare, base := I.base, loc := I.loc, cell := I.cell, free := I.free, freeC := I.freeC, hok := I.hok, len := I.len, pin := I.pin }
/-- what such a def promises -/
structure FnW (P : Program) (w : World) (K : PySem.W.Frag) (mg : Str → Option Value) (base : Heap) (k : Nat) (f : Addr) (fd : FuncData) (ps : List Str) (sp : Sp) : Prop where
  len : ∀ vs H Q E, sp vs H Q E → vs.length = ps.length
  run : ∀ (A : Around) (outer : List Env) (s : Shared) (H : Hp) (args : Args) (us : List Value) (vs : List V) (Q : VK) (E : XK), L2H.RoomH k A → Env0 P w K mg base A outer s H → BindsTo s fd args (ps.zip us) → Vals vs us → sp vs H Q E →
    codeAny (model P w) A (.call (.ref f) args) (CR (L2.CX P w) outer P w H s Q E) s
section
variable {P : Program} {w : World} {K : PySem.W.Frag} {mg : Str → Option Value} {base : Heap}
theorem fnW_of {x qual : Str} {st : Stmt} {f : Addr} {fd : FuncData} {N ps : List Str} {k : Nat} {sp : Sp} (F : Fun K x qual st f fd) (S : FnScope N ps (defScope st)) (len : ∀ vs H Q E, sp vs H Q E → vs.length = ps.length)
    (hb : ∀ (cdv : Value) (A : Around) (outer : List Env) (s : Shared) (H : Hp) (vs : List V) (Q : VK) (E : XK), L2H.RoomH k (A.deeper (envOfC qual (defScope st) s.heap.objs.size f cdv)) → sp vs H Q E →
      ∃ t, PSs (warm (cxOf (L2.CX P w) P w K mg base N qual (defScope st) f cdv A outer s H E)) (defBody st) t ∧ t { nx := fun _ H' => Q .non H', rt := Q } (L2.start N vs) H) :
    FnW P w K mg base (k + 1) f fd ps sp := by
  obtain ⟨oc, od, kV, doc, pm, an, cdv, ct, osl, e, lk, cd⟩ := F.ex
  subst e
  constructor
  · exact len
  · intro A outer s H args us vs Q E room e0 bind vals wish
    have Kin : K.In s.heap := e0.mod.kin.keeps fun b o q => (e0.bs b o q).1
    have own : ∀ y ∈ ps.zip us, (defScope st).names.lookup y.1 = some .local ∨ ((defScope st).names.lookup y.1 = some .cell ∧ ((cellsFrom (s.heap.objs.size + 1) (defScope st).names []).lookup y.1).isSome = true) := by
      rintro ⟨y, v⟩ hy
      refine (S.par y (List.of_mem_zip hy).1).imp id fun q => ⟨q, ?_⟩
      exact PySem.W.cellsFrom_some _ _ _ (.inl q)
    refine codeAny_call_function room.depth (Kin _ _ lk) rfl S.co S.gen rfl (PySem.W.codeRec_of Kin cd) (bind _ _ _ _ (wpAny_newFunctionEnv_cells S.kind own fun env he s1 inC => ?_))
    cases he
    refine ⟨(e0.mod.nolimit.keeps fun b o q => (e0.bs b o q).1).keeps inC.toInCall.keep, codeAny_func ?_⟩
    obtain ⟨t, run, q⟩ := hb cdv A outer s H vs Q E (room.deeper _) wish
    have calm0 : Env0 P w K mg base { A with handled := none } outer s H := { frames := e0.frames, mod := e0.mod, bs := e0.bs, bsz := e0.bsz, funs := e0.funs, frf := e0.frf, hok := e0.hok, bare := e0.bare }
    have I0 : Inv (cxOf (L2.CX P w) P w K mg base N qual (defScope st) f cdv { A with handled := none } outer s H E) [] (L2.start N vs) H s1 := inv_start S rfl calm0 (len _ _ _ _ wish) vals inC
    have I : Inv (warm (cxOf (L2.CX P w) P w K mg base N qual (defScope st) f cdv A outer s H E)) [] (L2.start N vs) H s1 := inv_warm (A := A.deeper (envOfC qual (defScope st) s.heap.objs.size f cdv)) I0 rfl (cxOf (L2.CX P w) P w K mg base N qual (defScope st) f cdv A outer s H E).xe
    refine wpAny_mono (run.run [] s1 _ H _ I q) (fun fl s2 r => ?_) fun _ _ z => z
    cases fl with
    | ret u => obtain ⟨v, e2, H2, J, rv, q2⟩ := r; exact ⟨v, H2, J.os, J.bare, J.base, J.hok, rv, q2⟩
    | next => obtain ⟨e2, H2, J, q2⟩ := r; exact ⟨.non, H2, J.os, J.bare, J.base, J.hok, rfl, q2⟩
    | brk => exact (let ⟨_, _, _, z⟩ := r; z).elim
    | cont => exact (let ⟨_, _, _, z⟩ := r; z).elim
/-- the same, for my computations -/
structure Dw (P : Program) (w : World) (K : PySem.W.Frag) (mg : Str → Option Value) (base : Heap) (C : Ctx) (k : Nat) (x : Str) (n : Nat) (f : List D → Sto → R D) : Prop where
  ex : ∃ fa fd ps, FnW P w K mg base k fa fd ps (spOf C n f) ∧ mg x = some (.ref fa) ∧ PySem.W.keepIn K (.ref fa) = true ∧ Binds K fd ps []
  ar : ∀ ds st, ds.length ≠ n → f ds st = .bad
theorem dw_ok {x qual : Str} {st : Stmt} {N ps : List Str} {k : Nat} {C : Ctx} {body : MS} (F : StF K mg x qual st ps) (S : FnScope N ps (defScope st))
    (hb : ∀ (f : Addr) (cdv : Value) (A : Around) (outer : List Env) (s : Shared) (H : Hp) (E : XK), L2H.RoomH k (A.deeper (envOfC qual (defScope st) s.heap.objs.size f cdv)) →
      PSs (warm (cxOf (L2.CX P w) P w K mg base N qual (defScope st) f cdv A outer s H E)) (defBody st) (ts C (fun cls d _ H => E cls d H) body)) :
    Dw P w K mg base C (k + 1) x ps.length (fn ps.length N.length body) := by
  obtain ⟨f, fd, F, g, bi⟩ := F.ex
  refine ⟨⟨f, fd, ps, fnW_of F S (fun vs H Q E h => h.1) fun cdv A outer s H vs Q E hr wish => ⟨_, hb f cdv A outer s H E hr, ?_⟩, g, F.kp, bi⟩, fn_ar⟩
  obtain ⟨hl, ds, st, B, e, R, rl, p⟩ := wish
  subst e
  unfold fn at p
  rw [if_pos (by rw [← rl.length]; exact hl)] at p
  have p := gc_post R p
  refine ⟨_, st, B, rfl, ⟨R, relE_start rl⟩, ?_⟩
  generalize body (ds.map some ++ List.replicate (N.length - ds.length) none) st = r at p ⊢
  cases r with
  | nx e s2 => exact fun σ2 B2 x2 r2 => p .non B2 x2 r2.h rep_non
  | ret d s2 => exact fun v B2 x2 r2 q => p v B2 x2 r2 q
  | exc y e s2 => exact fun cls σ2 B2 g x2 r2 => p cls B2 g x2 r2.h
  | bk e s2 => exact p.elim
  | ct e s2 => exact p.elim
  | bad => exact p.elim
end
section
variable {X : Cx} {C : Ctx} {W : WX} {e : Expr} {es : List Expr} {as : M (List D)} {x : Str} {p pos : Pos} {k n : Nat} {f : List D → Sto → R D}
theorem e_callW (F : Dw X.prog X.w X.K X.mg X.base C k x n f) (hr : L2H.RoomH k X.A) (hx : Pass X W) (ha : PA X (e :: es) (ta C W as)) (hg : Gl X x := by rfl) (hdb : (x == ("__debug__" : Str)) = false := by decide)
    (he : starEach (e :: es) X.env = (false, eval e X.env) :: starEach es X.env := by rfl) (hpl : (backTo pos (starEach es X.env)).any (·.1) = false := by rfl) :
    PE X (.Call (.Name x p) (e :: es) [] pos) (te C W (callF f as)) := by
  obtain ⟨fa, fd, ps, G, hm, kp, bi⟩ := F.ex
  have step : PE X (.Call (.Name x p) (e :: es) [] pos) (tCallS (spOf C n f) (WE W) (ta C W as)) := by
    constructor
    intro pins s σ H Q I h
    refine wpAny_Call_Name_kw (ld_glob I hg hm (PySem.W.callWith_K (h₀ := X.base) I.ok.mod.kin kp (wpAny_mono (ha.run pos pins s σ H _ I h) (fun us s1 got => ?_) fun _ _ z => z) he hpl) hdb)
    obtain ⟨vs, H1, I1, vals, wish⟩ := got
    refine ⟨I1.kIn, ?_⟩
    have b := bi s1 us I1.kIn (by rw [List.append_nil, ← vals.length]; exact G.len _ _ _ _ wish)
    rw [List.append_nil] at b
    refine wpAny_call (codeAny_mono (G.run X.A X.stack s1 H1 ⟨us, []⟩ us vs Q (WE W σ) hr I1.env0 b vals wish) fun r s2 q => ?_)
    match r, q with
    | .error _, q => exact hx σ pins H1 s1 _ s2 I1 q
    | .ok (.ret _), q => exact I1.after q
    | .ok .next, q => exact q.elim
    | .ok .brk, q => exact q.elim
    | .ok .cont, q => exact q.elim
  refine step.imp fun σ H Q ⟨env, st, B, e, r, q⟩ => ?_
  subst e
  refine (seq r q).mono fun vs H1 ⟨ds, st1, B1, e1, x1, r1, p1, k1⟩ => ?_
  subst e1
  exact sp_of F.ar r1 p1 k1
end
theorem roomH_mark {k : Nat} {A : Around} {v : Option Value} (r : Room k A) : L2H.RoomH k (A.mark v) := ⟨r.dp, r.un⟩
theorem roomH_mark' {k : Nat} {A : Around} {v : Option Value} (r : L2H.RoomH k A) : L2H.RoomH k (A.mark v) := ⟨r.dp, r.un⟩
theorem _root_.L2H.RoomH.units {k : Nat} {A : Around} (r : L2H.RoomH k A) : A.units + 64 < cLine := by have := r.un; omega
theorem Dw.mono {P : Program} {w : World} {K : PySem.W.Frag} {mg : Str → Option Value} {base : Heap} {C : Ctx} {j k : Nat} {x : Str} {n : Nat} {f : List D → Sto → R D} (h : Dw P w K mg base C j x n f) (hj : j ≤ k) : Dw P w K mg base C k x n f := by
  obtain ⟨fa, fd, ps, F, r⟩ := h.ex
  exact ⟨⟨fa, fd, ps, ⟨F.len, fun A outer s H args us vs Q E hr => F.run A outer s H args us vs Q E (hr.mono hj)⟩, r⟩, h.ar⟩
end Ly
/-! told(lambda: ..): what a deed tells, or how it is refused. -/
namespace Ly
open PySem PySem.Spec PyProof.Rows L2
/-- tables grow: nothing of ours is touched -/
theorem RelH.tables {C : Ctx} {B : Bd} {st : Sto} (R : RelH C B st) {H1 : Hp} (e : LamX.ExtN B.H H1) (t : LamX.Tabs C.T H1) : Ext C B ⟨H1, B.m, B.F, B.Z⟩ ∧ RelH C ⟨H1, B.m, B.F, B.Z⟩ st := by
  have x : Ext C B ⟨H1, B.m, B.F, B.Z⟩ := ⟨fun a vs h => by
      rcases h with (h | ⟨ob, h⟩) | h
      · exact .inl (.inl (e a _ h fun ps z => by cases z))
      · exact .inl (.inr ⟨ob, e a _ h fun ps z => by cases z⟩)
      · exact .inr h, fun a h => ⟨h, fun o q => by
      obtain ⟨o', q', n⟩ := R.ff a h
      rw [q'] at q
      cases q
      exact e a _ q' n⟩, fun _ _ h => h, rfl⟩
  refine ⟨x, R.len, R.nd, R.sep, fun i c a h1 h2 => ?_, fun a h => ?_, ⟨R.scr.1, ?_⟩, fun q hq => ⟨e _ _ (R.zz q hq).1 (R.zt q hq), (R.zz q hq).2⟩, R.zt, t, R.upx x.kp⟩
  · have q := R.cell i c a h1 h2
    obtain ⟨o, eo, mo⟩ := q.there
    exact q.mono x ((e a o eo (mut_noTb mo)).trans eo.symm)
  · obtain ⟨o, q, n⟩ := R.ff a h
    exact ⟨o, e a o q n, n⟩
  · rcases R.scr.2 with ⟨o, h⟩ | h
    · exact .inl ⟨o, e _ _ h fun ps z => by cases z⟩
    · exact .inr h
/-- told(lambda: m): g is the word for what was refused -/
def mtold (L : List Str) (g : List D → Sto → R D) (m : M D) : M D := fun e st => match m e st with
  | .ok d st' => .ok d st'
  | .exc x st' => if x ∈ L then (match g [.exc x] st' with
    | .ok d st2 => .ok d st2
    | _ => .bad) else .bad
  | .bad => .bad
@[simp] theorem mtold_ok {L : List Str} {g : List D → Sto → R D} {m : M D} {e : Ev} {st st' : Sto} {d : D} (h : m e st = .ok d st') : mtold L g m e st = .ok d st' := by unfold mtold; rw [h]
/-- the wish for what the deed lets out -/
def Etold (C : Ctx) (K : PySem.W.Frag) (Cc : Addr) (g : List D → Sto → R D) (Q : VK) : XK := fun cls d H =>
  ∃ b, PySem.W.exmOne K cls (.ref Cc) = some b ∧ (b = true → d = none ∧ ∀ a, H a = none → ∃ x st B, B.H = upd H a (ExT cls a) ∧ RelH C B st ∧ Rep C B (.exc x) (.ref a) ∧ ∃ d2 st2, g [.exc x] st = .ok d2 st2 ∧ ∀ v B', Ext C B B' → RelH C B' st2 → Rep C B' d2 v → Q v B'.H) ∧ (b = false → False)
/-- what the def makes of the deed's reading -/
def TTold (C : Ctx) (K : PySem.W.Frag) (Cc : Addr) (g : List D → Sto → R D) : (XK → Hp → VK → Prop) → Hp → VK → Prop := fun tl H Q => tl (Etold C K Cc g Q) H Q
theorem takes_len {X : Cx} {W : WX} (tk : Takes X W) : Takes X (fun cls d σ H => σ.length = X.N.length → W cls d σ H) := fun u s' ⟨a, B, sI, pins, σ, H, cls, d, e, I, rest⟩ => by
  obtain ⟨r1, r2, r3, r4, r5, r6, r7⟩ := rest
  exact tk u s' ⟨a, B, sI, pins, σ, H, cls, d, e, I, r1, r2, r3, r4, r5, r6, r7 I.len⟩
section
variable {X : Cx} {C : Ctx} {g : List D → Sto → R D} {L : List Str}
theorem told_gives {k : Nat} {x a c e q y : Str} {sg : Scope} {ga Cc : Addr} {cdg : Value} {p1 p2 p3 p4 p5 p6 p7 p8 p9 p10 : Pos} (hr : Room (k + 1) X.A) (F : Dw X.prog X.w X.K X.mg X.base C k y 1 g)
    (hge : sg.names.lookup c = some .globalImplicit) (hme : X.mg c = some (.ref Cc)) (hde : (c == ("__debug__" : Str)) = false) (hgy : sg.names.lookup y = some .globalImplicit) (hdy : (y == ("__debug__" : Str)) = false)
    (hse : sg.names.lookup e = some .local) (nd : [a, e].Nodup) (hd : (e == ("__debug__" : Str)) = false) (hcd : (e == ("__classdict__" : Str)) = false) :
    LamX.GivesTo X [a, e] x sg ga cdg [.Try [.Return (some (.Call (.Name a p1) [] [] p2)) p3] [.ExceptHandler (some (.Name c p4)) (some e) [.Return (some (.Call (.Name y p5) [.Name e p6] [] p7)) p8] p9] [] [] p10] a q (TTold C X.K Cc g) := by
  intro f c' s H Q tl act hc want
  refine ⟨_, pss_one (ps_try_keep (X := (cxOf C8.CX0 X.prog X.w X.K X.mg X.base [a, e] x sg ga cdg X.A X.stack s H C8.E0).nox) (c := .ref Cc) (i := 1) (n := e) (Wout := fun _ _ _ _ => False)
    (tb := fun W D σ H => ∃ Ech : XK, (∀ cls d σ' H', Ech cls d H' → σ'.length = 2 → W cls d σ' H') ∧ σ[0]? = some (some (.ref f)) ∧ H c' = some (LamX.CodeO c' q) ∧ tl Ech H D.rt)
    (ts := fun _ _ => ts C W0 (mblock [mret (callF g (args [mvar 1]))])) rfl rfl rfl nd rfl hse ⟨hge, hde, .inl hme⟩ LamX.takes0 (fun W pn xe tk => ?_) fun b cls pn => ?_), ?_⟩
  · constructor
    intro pins s' σ H' D I h'
    obtain ⟨Ech, hW, h1, h2, h3⟩ := h'
    exact (pss_one (ps_ret (pos := p3) (act _ pn xe Ech p1 p2 (takes_len tk) hW))).run pins s' σ H' D I ⟨h1, h2, h3⟩
  · refine ss_one (s_ret (e_callW F (roomH_mark (hr.deeper _)) (fun σ pins H s e s' I x => ?_) (a_cons (e_var 1 (hv := .inl hse) (hd := hd) (hcd := hcd)) a_nil) (hg := hgy) (hdb := hdy)))
    obtain ⟨_, _, _, _, _, _, _, _, _, _, _, _, z⟩ := x
    exact z.elim
  · refine ⟨Etold C X.K Cc g Q, fun cls d σ' H' ⟨b, e1, e2, e3⟩ len => ⟨b, e1, fun hb => ?_, fun hb => e3 hb⟩, rfl, hc, want⟩
    obtain ⟨d0, all⟩ := e2 hb
    refine ⟨d0, fun b na => ?_⟩
    obtain ⟨z, st, B, eB, R, rp, d2, st2, eg, fin⟩ := all b na
    match σ', len with
    | [v0, v1], _ =>
    refine ⟨[none, some (.exc z)], st, B, eB, ⟨R, rfl, fun i d h => ?_⟩, ?_⟩
    · match i, h with
      | 1, h => cases h; exact ⟨_, rfl, rp⟩
    · show postS C W0 B _ (mret (callF g (args [mvar 1])) [none, some (.exc z)] st)
      have : mret (callF g (args [mvar 1])) [none, some (.exc z)] st = .ret d2 st2 := by
        simp -implicitDefEqProofs [eg]
      rw [this]
      exact fin
/-- the def that tells: try: return a() / except c as e: return y(e) -/
structure ToldF (K : PySem.W.Frag) (mg : Str → Option Value) (x a e c y : Str) (L : List Str) : Prop where
  ex : ∃ (ga Cc : Addr) (fd : FuncData) (st : Stmt), Fun K x x st ga fd ∧ mg x = some (.ref ga) ∧ Binds K fd [a] [] ∧ FnScope [a, e] [a] (defScope st) ∧
    (∃ p1 p2 p3 p4 p5 p6 p7 p8 p9 p10 : Pos, defBody st = [.Try [.Return (some (.Call (.Name a p1) [] [] p2)) p3] [.ExceptHandler (some (.Name c p4)) (some e) [.Return (some (.Call (.Name y p5) [.Name e p6] [] p7)) p8] p9] [] [] p10]) ∧
    mg c = some (.ref Cc) ∧ (∀ z ∈ L, ∃ Ca, mg z = some (.ref Ca) ∧ PySem.W.exmOne K (.ref Ca) (.ref Cc) = some true) ∧
    (defScope st).names.lookup c = some .globalImplicit ∧ (defScope st).names.lookup y = some .globalImplicit ∧ (defScope st).names.lookup e = some .local ∧ Vis (defScope st) a
/-- what a def that makes lambdas knows of its code object -/
structure MakesL (X : Cx) (T : List (Addr × Str)) : Prop where
  ex : ∃ c P, LamX.TabB X.base X.mg c P ∧ X.env.code = .ref c ∧ (P, X.env.qual ++ "<lambda>") ∈ T ∧ ∀ p ∈ T, p.1 = P → p.2 = X.env.qual ++ "<lambda>"
/-- told(lambda: m) -/
theorem e_told {W : WX} {k : Nat} {x a e c y : Str} {params : Arguments} {lb : Expr} {scope : Scope} {m : M D} {p lpos pos : Pos} (F : ToldF X.K X.mg x a e c y L) (G : Dw X.prog X.w X.K X.mg X.base C k y 1 g) (ML : MakesL X C.T) (hr : Room (k + 2) X.A)
    (hb : ∀ (A : Around) (outer : List Env) (s : Shared) (H : Hp) (E : XK) (f c' : Addr), Room k (A.deeper (LamX.lamEnv X scope s.heap.objs.size f c')) → PE (LamX.lamCx X A outer s H E scope f c') lb (te C (fun cls d _ H => E cls d H) m))
    (hM : C.mg = X.mg := by rfl) (hL : LamX.LamS X.env.scope scope := by exact LamX.lamS_by (by decide +kernel)) (hg : Gl X x := by rfl) (hdef : defaultsOf params X.env = ([], []) := by rfl)
    (hbind : ∀ (q : Str) (cl : List (Str × Addr)) (pm cv ctv : Value), bindArgs (PySem.W.kla_fn "<lambda>" q params lb scope cl pm cv ctv) ⟨[], []⟩ = pure [] := by intros; rfl)
    (hdb : (x == ("__debug__" : Str)) = false := by decide) (hd : (a == ("__debug__" : Str)) = false := by decide) (hcd : (a == ("__classdict__" : Str)) = false := by decide) (hdc : (c == ("__debug__" : Str)) = false := by decide) (hdy : (y == ("__debug__" : Str)) = false := by decide)
    (hde : (e == ("__debug__" : Str)) = false := by decide) (hce : (e == ("__classdict__" : Str)) = false := by decide) :
    PE X (.Call (.Name x p) [.Lambda params lb scope lpos] [] pos) (te C W (mtold L g m)) := by
  obtain ⟨ga, Cc, fd, st, FF, hm, bi, S, ⟨p1, p2, p3, p4, p5, p6, p7, p8, p9, p10, hbody⟩, hcc, all, g1, g2, g3, g4⟩ := F.ex
  obtain ⟨oc, od, kV, doc, pm, an, cdv, ct, osl, rfl, lk, cd⟩ := FF.ex
  obtain ⟨co, P, TB, hcode, memT, uniT⟩ := ML.ex
  have gives : LamX.GivesTo X [a, e] x (defScope st) ga cdv (defBody st) a (X.env.qual ++ "<lambda>") (TTold C X.K Cc g) := by
    rw [hbody]
    exact told_gives (hr.mono (by omega)) G g1 hcc hdc g2 hdy g3 S.nd hde hce
  refine (LamX.pe_lamcall (t := fun E => te C (fun cls d _ H => E cls d H) m) hg hm FF.kp lk cd bi S rfl g4 gives TB hcode memT uniT hr hL hdef hbind hb hdb hd hcd).imp fun σ H Q ⟨env, s0, B, eB, R, q⟩ => ?_
  subst eB
  refine ⟨R.h.tb, fun H1 ext tabs => ?_⟩
  obtain ⟨x1, r1⟩ := R.h.tables ext tabs
  refine ⟨env, s0, ⟨H1, B.m, B.F, B.Z⟩, rfl, ⟨r1, R.e.mono x1⟩, ?_⟩
  unfold mtold at q
  cases em : m env s0 with
  | bad => rw [em] at q; exact q
  | ok d s1 =>
    rw [em] at q
    exact fun v B2 x2 R2 rp => q v B2 (x1.trans x2) R2 rp
  | exc z s1 =>
    rw [em] at q
    dsimp only at q
    by_cases hz : z ∈ L
    · rw [if_pos hz] at q
      cases eg : g [.exc z] s1 with
      | bad => rw [eg] at q; exact q.elim
      | exc z2 s2 => rw [eg] at q; exact q.elim
      | ok d2 s2 =>
        rw [eg] at q
        intro cls B2 hcls x2 R2
        obtain ⟨Ca, h1, h2⟩ := all z hz
        rw [hM, h1] at hcls
        cases hcls
        refine ⟨true, h2, fun _ => ⟨rfl, fun b na => ?_⟩, fun w => by cases w⟩
        obtain ⟨x3, r3⟩ := R2.h.newF (o := ExT (.ref Ca) b) na exT_noTb
        refine ⟨z, s1, ⟨upd B2.H b (ExT (.ref Ca) b), B2.m, fun w => B2.F w ∨ w = b, B2.Z⟩, rfl, r3, ?_, d2, s2, eg, fun v B4 x4 R4 rp => q v B4 ((x1.trans x2).trans (x3.trans x4)) ⟨R4, R2.e.mono (x3.trans x4)⟩ rp⟩
        unfold Rep
        exact ⟨b, Ca, rfl, .inr rfl, by rw [hM]; exact h1, upd_same⟩
    · rw [if_neg hz] at q
      exact q.elim
end
/-! ### defs that make lambdas -/
/-- a def, its code object c known -/
structure FunC (K : PySem.W.Frag) (x qual : Str) (st : Stmt) (f : Addr) (fd : FuncData) (c : Addr) : Prop where
  ex : ∃ (oc : Value) (od : Option Addr) (kV doc pm : Value) (an : Option Addr) (ct : Value) (osl : Array (Option Value)),
    fd = PySem.W.fnOf x qual (defArgs st) (defBody st) (defScope st) .none kV doc pm an (.ref c) ct ∧ K.lookup f = some ⟨oc, od, .func fd, osl⟩ ∧ PySem.W.codeIn K (.ref c) qual = true
  kp : PySem.W.keepIn K (.ref f) = true
/-- the name of the lambdas of the def qual -/
abbrev lamQ (qual : Str) : Str := (qual ++ ".<locals>.") ++ "<lambda>"
section
variable {P : Program} {w : World} {K : PySem.W.Frag} {mg : Str → Option Value} {base : Heap}
theorem fn_okL {x qual : Str} {st : Stmt} {f c : Addr} {fd : FuncData} {N ps : List Str} {k : Nat} {C : Ctx} {body : MS} (F : FunC K x qual st f fd c) (S : FnScope N ps (defScope st))
    (hb : ∀ (A : Around) (outer : List Env) (s : Shared) (H : Hp) (E : XK), Room k (A.deeper (envOfC qual (defScope st) s.heap.objs.size f (.ref c))) →
      PSs (cxOf (L2.CX P w) P w K mg base N qual (defScope st) f (.ref c) A outer s H E) (defBody st) (ts C (fun cls d _ H => E cls d H) body)) :
    FnOk P w K mg base (L2.CX P w) (k + 1) f fd ps (spOf C ps.length (fn ps.length N.length body)) := by
  obtain ⟨oc, od, kV, doc, pm, an, ct, osl, e, lk, cd⟩ := F.ex
  subst e
  refine fn_of lk cd S (fun vs H Q E h => h.1) fun A outer s H vs Q E hr wish => ⟨_, hb A outer s H E hr, ?_⟩
  obtain ⟨hl, ds, st0, B, e, R, rl, p⟩ := wish
  subst e
  unfold fn at p
  rw [if_pos (by rw [← rl.length]; exact hl)] at p
  have p := gc_post R p
  refine ⟨_, st0, B, rfl, ⟨R, relE_start rl⟩, ?_⟩
  generalize body (ds.map some ++ List.replicate (N.length - ds.length) none) st0 = r at p ⊢
  cases r with
  | nx e s2 => exact fun σ2 B2 x2 r2 => p .non B2 x2 r2.h rep_non
  | ret d s2 => exact fun v B2 x2 r2 q => p v B2 x2 r2 q
  | exc y e s2 => exact fun cls σ2 B2 g x2 r2 => p cls B2 g x2 r2.h
  | bk e s2 => exact p.elim
  | ct e s2 => exact p.elim
  | bad => exact p.elim
/-- what is known of a def that makes lambdas -/
structure LamF (K : PySem.W.Frag) (mg : Str → Option Value) (base : Heap) (T : List (Addr × Str)) (x qual : Str) (st : Stmt) (ps : List Str) : Prop where
  ex : ∃ f fd c Pt, FunC K x qual st f fd c ∧ mg x = some (.ref f) ∧ Binds K fd ps [] ∧ LamX.TabB base mg c Pt ∧ (Pt, lamQ qual) ∈ T ∧ ∀ p ∈ T, p.1 = Pt → p.2 = lamQ qual
theorem df_okL {x qual : Str} {st : Stmt} {N ps : List Str} {k : Nat} {C : Ctx} {body : MS} (F : LamF K mg base C.T x qual st ps) (S : FnScope N ps (defScope st))
    (hb : ∀ (f c : Addr) (A : Around) (outer : List Env) (s : Shared) (H : Hp) (E : XK), MakesL (cxOf (L2.CX P w) P w K mg base N qual (defScope st) f (.ref c) A outer s H E) C.T → Room k (A.deeper (envOfC qual (defScope st) s.heap.objs.size f (.ref c))) →
      PSs (cxOf (L2.CX P w) P w K mg base N qual (defScope st) f (.ref c) A outer s H E) (defBody st) (ts C (fun cls d _ H => E cls d H) body)) :
    Df P w K mg base C (k + 1) x ps.length (fn ps.length N.length body) := by
  obtain ⟨f, fd, c, Pt, h, g, b, TB, m, u⟩ := F.ex
  exact ⟨⟨f, fd, ps, fn_okL h S fun A outer s H E hr => hb f c A outer s H E ⟨⟨c, Pt, TB, rfl, m, u⟩⟩ hr, g, h.kp, b⟩, fn_ar⟩
/-- the law itself -/
theorem law_okL {x qual : Str} {st : Stmt} {f c Pt : Addr} {fd : FuncData} {N ps : List Str} {k : Nat} {C : Ctx} {body : MS} (F : FunC K x qual st f fd c) (TB : LamX.TabB base mg c Pt) (m : (Pt, lamQ qual) ∈ C.T) (u : ∀ p ∈ C.T, p.1 = Pt → p.2 = lamQ qual) (S : FnScope N ps (defScope st))
    (hb : ∀ (A : Around) (outer : List Env) (s : Shared) (H : Hp) (E : XK), MakesL (cxOf (L2.CX P w) P w K mg base N qual (defScope st) f (.ref c) A outer s H E) C.T → Room k (A.deeper (envOfC qual (defScope st) s.heap.objs.size f (.ref c))) →
      PSs (cxOf (L2.CX P w) P w K mg base N qual (defScope st) f (.ref c) A outer s H E) (defBody st) (ts C (fun cls d _ H => E cls d H) body)) :
    FnOk P w K mg base (L2.CX P w) (k + 1) f fd ps (spOf C ps.length (fn ps.length N.length body)) :=
  fn_okL F S fun A outer s H E hr => hb A outer s H E ⟨⟨c, Pt, TB, rfl, m, u⟩⟩ hr
end
/-! ### at the end -/
section
variable {K : PySem.W.Frag} {h : Heap} {mg : Str → Option Value}
theorem funC_mk {x qual : Str} {st : Stmt} {f c : Addr} {oc : Value} {od an : Option Addr} {osl : Array (Option Value)} {kV doc pm ct : Value} (l : K.lookup f = some ⟨oc, od, .func (PySem.W.fnOf x qual (defArgs st) (defBody st) (defScope st) .none kV doc pm an (.ref c) ct), osl⟩)
    (cd : PySem.W.codeIn K (.ref c) qual = true) (k : PySem.W.keepIn K (.ref f) = true) : FunC K x qual st f (PySem.W.fnOf x qual (defArgs st) (defBody st) (defScope st) .none kV doc pm an (.ref c) ct) c :=
  ⟨⟨oc, od, kV, doc, pm, an, ct, osl, rfl, l, cd⟩, k⟩
theorem FunC.fun_ {x qual : Str} {st : Stmt} {f c : Addr} {fd : FuncData} (F : FunC K x qual st f fd c) : Fun K x qual st f fd := by
  obtain ⟨oc, od, kV, doc, pm, an, ct, osl, e, l, cd⟩ := F.ex
  exact ⟨⟨oc, od, kV, doc, pm, an, .ref c, ct, osl, e, l, cd⟩, F.kp⟩
theorem law_spT {T : List (Addr × Str)} {f : List D → Sto → R D} {H : Hp} {a : Addr} {ns : List Int} (hf : ∃ st, f [.scr ns] [] = .ok (.bl true) st) (hn : ns.length ≤ 63) (hT : ∀ p ∈ T, H p.1 = some (.tbl #[])) (hS : SqL K H a (ns.map V.int)) (hA : ∀ xs, H a ≠ some (.lst xs)) :
    spLaw K T f [.ref a] H (fun v _ => v = .bl true) fun _ _ _ => False := by
  refine law_start hf hn (fun mg => ⟨Nat.le_trans hn (by decide), ?_⟩) fun p hp => LamX.TabS.nil (hT p hp)
  rcases hS with (z | z) | z
  · exact absurd z (hA _)
  · exact .inl z
  · exact .inr z
/-- the law's promise where the script may be a list like others -/
def spLaw2 (K : PySem.W.Frag) (T : List (Addr × Str)) (f : List D → Sto → R D) : Sp := fun vs H Q E =>
  spLaw K T f vs H Q E ∨ (vs.length = 1 ∧ E = (fun _ _ _ => False) ∧ ∃ a xs, H a = some (.lst xs) ∧ ∀ o, spLaw K T f vs (upd H a (.frz o (.lst xs))) Q E)
theorem law_fn2 {P : Program} {w : World} {base : Heap} {k : Nat} {fa : Addr} {fd : FuncData} {ps : List Str} {T : List (Addr × Str)} {f : List D → Sto → R D} (hl : ps.length = 1)
    (F : FnOk P w K mg base (L2.CX P w) k fa fd ps (spLaw K T f)) : FnOk P w K mg base (L2.CX P w) k fa fd ps (spLaw2 K T f) := by
  refine ⟨fun vs H Q E h => h.elim (F.len vs H Q E) fun h => by rw [hl]; exact h.1, fun A outer s H args us vs Q E hr e0 hb hv h => ?_⟩
  rcases h with h | ⟨_, hE, a, xs, ha, h⟩
  · exact F.run A outer s H args us vs Q E hr e0 hb hv h
  · subst hE
    obtain ⟨z, its, n, rv, get⟩ := e0.hok a _ ha
    have ne : ∀ {b}, H b = none → upd H a (.frz { cls := .type "list", data := .seq its.toArray n } (.lst xs)) b = none := fun {b} e => by rw [upd_ne (fun q => by rw [q, ha] at e; cases e)]; exact e
    have st : ∀ {b o}, H b = some o → (∀ ys, o ≠ .lst ys) → upd H a (.frz { cls := .type "list", data := .seq its.toArray n } (.lst xs)) b = some o := fun {b o} e k => by
      rw [upd_ne (fun q => by rw [q, ha] at e; exact k xs (Option.some.inj e).symm)]; exact e
    have e1 : Env0 P w K mg base A outer s (upd H a (.frz { cls := .type "list", data := .seq its.toArray n } (.lst xs))) :=
      { frames := e0.frames, mod := e0.mod, bsz := e0.bsz, funs := e0.funs, bare := e0.bare
        bs := fun b o e => ⟨(e0.bs b o e).1, ne (e0.bs b o e).2⟩, frf := fun b m => ne (e0.frf b m)
        hok := fun b u e => by
          by_cases hba : b = a
          · subst hba
            rw [upd_same] at e
            cases e
            exact ⟨get, z, its, n, rv, get⟩
          · rw [upd_ne hba] at e
            exact (e0.hok b u e).stay (fun _ _ _ q => q) (fun d q => st q fun ys w => by cases w) fun d ys q => st q fun ys w => by cases w }
    refine codeAny_mono (F.run A outer s _ args us vs Q _ hr e1 hb hv (h _)) fun r s' q => ?_
    match r, q with
    | .error _, q =>
      obtain ⟨_, _, _, _, _, _, _, _, _, _, _, _, w⟩ := q
      exact w.elim
    | .ok (.ret _), q =>
      obtain ⟨v, H', q1, q2, U, q3, q4, q5⟩ := q
      exact ⟨v, H', q1, q2, { keep := fun b o e n => U.keep b o e (ne n), slot := fun b o e n => U.slot b o e (ne n), free := fun b o e n => U.free b o e (ne n), there := U.there
                              tups := fun b ys e => U.tups b ys (st e fun _ w => by cases w), frzs := fun b o u e => U.frzs b o u (st e fun _ w => by cases w), tbls := fun b qs e => U.tbls b qs (st e fun _ w => by cases w) }, q3, q4, q5⟩
    | .ok .next, q => exact q.elim
    | .ok .brk, q => exact q.elim
    | .ok .cont, q => exact q.elim
theorem law_sp2 {T : List (Addr × Str)} {f : List D → Sto → R D} {H : Hp} {a : Addr} {ns : List Int} (hf : ∃ st, f [.scr ns] [] = .ok (.bl true) st) (hn : ns.length ≤ 63) (hT : ∀ p ∈ T, H p.1 = some (.tbl #[])) (hS : SqL K H a (ns.map V.int)) :
    spLaw2 K T f [.ref a] H (fun v _ => v = .bl true) fun _ _ _ => False := by
  have len := Nat.le_trans hn (by decide : 63 ≤ sizeLine)
  rcases hS with (z | z) | z
  · refine .inr ⟨rfl, rfl, a, _, z, fun o => law_start hf hn (fun mg => ⟨len, .inl ⟨o, upd_same⟩⟩) fun p hp => LamX.TabS.nil ?_⟩
    rw [upd_ne (fun q => by have := hT p hp; rw [q, z] at this; cases this)]
    exact hT p hp
  · exact .inl (law_start hf hn (fun mg => ⟨len, .inl z⟩) fun p hp => LamX.TabS.nil (hT p hp))
  · exact .inl (law_start hf hn (fun mg => ⟨len, .inr z⟩) fun p hp => LamX.TabS.nil (hT p hp))
end
section
variable {K : PySem.W.Frag} {h : Heap} {mg : Str → Option Value} {L : List Str}
/-- asked of each class of L -/
def xB (K : PySem.W.Frag) (L : List Str) (p : Addr → Str → Bool) : Bool := L.all fun y => match PySem.W.nsIn K mainGlobals y with
  | some (some (.ref Ca)) => p Ca y
  | _ => false
theorem xB_of {p : Addr → Str → Bool} (X : K.In h) (G : h.Ns mainGlobals mg) (e : xB K L p = true) : ∀ y ∈ L, ∃ Ca, mg y = some (.ref Ca) ∧ p Ca y = true := fun y hy => by
  have q := List.all_eq_true.mp e y hy
  split at q
  · rename_i Ca a
    exact ⟨Ca, PySem.W.mg_of X G a, q⟩
  · cases q
def excB (K : PySem.W.Frag) (D : Addr) : Bool :=
  PySem.W.findIn K (.ref D) "__getattribute__" == some (some (.builtin "BaseException.__getattribute__")) && (PySem.W.findIn K (.ref D) "__getattr__" == some none && (PySem.W.subIn K (.ref D) (.type "BaseException") == some true && (PySem.W.hasDictIn K D &&
    (PySem.W.findIn K (.ref D) "__class__" == some (some (.builtin "object.__class__")) && (PySem.W.specialIn K (.builtin "object.__class__") "__get__" == some (some (.builtin "getset_descriptor.__get__")) && (PySem.W.takesIn K (.builtin "object.__class__") == some true && PySem.W.mroIn K D (.type "object") == some true))))))
theorem excC_of {D : Addr} (e : excB K D = true) : ExcC K D := by
  unfold excB at e
  simp only [Bool.and_eq_true, beq_iff_eq] at e
  obtain ⟨a, b, c, d, f, g, i, j⟩ := e
  exact ⟨a, b, c, d, f, g, i, j⟩
theorem isxF_mk {x : Str} {Cx : Addr} (X : K.In h) (G : h.Ns mainGlobals mg) (a : PySem.W.nsIn K mainGlobals x = some (some (.ref Cx))) (k : PySem.W.keepIn K (.ref Cx) = true) (e : xB K L (fun Ca _ => excB K Ca) = true) (f : xB K L (fun Ca y => PySem.W.kitOne K (.ref Ca) (.ref Cx) == some (decide (y = x))) = true) : IsxF K mg x L :=
  ⟨⟨Cx, PySem.W.mg_of X G a, k, fun y hy => by
    obtain ⟨Ca, q1, q2⟩ := xB_of X G e y hy
    obtain ⟨Cb, q3, q4⟩ := xB_of X G f y hy
    rw [q1] at q3
    cases q3
    exact ⟨Ca, q1, excC_of q2, beq_iff_eq.mp q4⟩⟩⟩
theorem isaF_mk {t : String} (X : K.In h) (G : h.Ns mainGlobals mg) (e : xB K L (fun Ca _ => excB K Ca) = true) (f : xB K L (fun Ca _ => PySem.W.kitOne K (.ref Ca) (.type t) == some true) = true) : IsaF K mg t L :=
  ⟨fun y hy => by
    obtain ⟨Ca, q1, q2⟩ := xB_of X G e y hy
    obtain ⟨Cb, q3, q4⟩ := xB_of X G f y hy
    rw [q1] at q3
    cases q3
    exact ⟨Ca, q1, excC_of q2, beq_iff_eq.mp q4⟩⟩
theorem catF_mk {x : Str} {Cc : Addr} (X : K.In h) (G : h.Ns mainGlobals mg) (a : PySem.W.nsIn K mainGlobals x = some (some (.ref Cc))) (f : xB K L (fun Ca _ => PySem.W.exmOne K (.ref Ca) (.ref Cc) == some true) = true) : CatF K mg x L :=
  ⟨⟨Cc, PySem.W.mg_of X G a, fun y hy => let ⟨Ca, q1, q2⟩ := xB_of X G f y hy; ⟨Ca, q1, beq_iff_eq.mp q2⟩⟩⟩
theorem toldF_mk {x a e c y : Str} {st : Stmt} {p1 p2 p3 p4 p5 p6 p7 p8 p9 p10 : Pos} (F : StF K mg x x st [a]) (C : CatF K mg c L) (S : FnScope [a, e] [a] (defScope st))
    (hb : defBody st = [.Try [.Return (some (.Call (.Name a p1) [] [] p2)) p3] [.ExceptHandler (some (.Name c p4)) (some e) [.Return (some (.Call (.Name y p5) [.Name e p6] [] p7)) p8] p9] [] [] p10])
    (g1 : (defScope st).names.lookup c = some .globalImplicit) (g2 : (defScope st).names.lookup y = some .globalImplicit) (g3 : (defScope st).names.lookup e = some .local) (g4 : Vis (defScope st) a) : ToldF K mg x a e c y L := by
  obtain ⟨f, fd, F, m, b⟩ := F.ex
  obtain ⟨Cc, hc, all⟩ := C.ex
  exact ⟨⟨f, Cc, fd, st, F, m, b, S, ⟨p1, p2, p3, p4, p5, p6, p7, p8, p9, p10, hb⟩, hc, all, g1, g2, g3, g4⟩⟩
/-- the law, where it makes lambdas -/
theorem lawL_mk {x qual p : Str} {st : Stmt} {f c Pt : Addr} {oc : Value} {od an : Option Addr} {osl : Array (Option Value)} {kV doc pm ct : Value} (X : K.In h) (G : h.Ns mainGlobals mg) (hT : ∀ P ∈ [Pt], h.get? P = some (PySem.W.tabObj #[]))
    (a : PySem.W.nsIn K mainGlobals x = some (some (.ref f))) (l : K.lookup f = some ⟨oc, od, .func (PySem.W.fnOf x qual (defArgs st) (defBody st) (defScope st) .none kV doc pm an (.ref c) ct), osl⟩)
    (cd : PySem.W.codeIn K (.ref c) qual = true) (k : PySem.W.keepIn K (.ref f) = true) (hd : PySem.W.codeHdIn K c Pt = true) (nP : (K.lookup Pt).isNone = true)
    (hb : ∀ (kV doc pm : Value) (an : Option Addr) (cdv ct : Value) (us : List Value), us.length = [p].length → bindArgs (PySem.W.fnOf x qual (defArgs st) (defBody st) (defScope st) .none kV doc pm an cdv ct) ⟨us, []⟩ = pure ([p].zip us)) :
    ∃ f fd c Pt, FunC K x qual st f fd c ∧ mg x = some (.ref f) ∧ Binds K fd [p] [] ∧ (∀ (s : Shared) (u : Value), BindsTo s fd ⟨[u], []⟩ [(p, u)]) ∧ PySem.W.CodeHd h c Pt ∧ K.lookup Pt = none ∧ h.get? Pt = some { cls := .none, data := .fields #[] } := by
  have F := funC_mk (st := st) l cd k
  exact ⟨f, _, c, Pt, F, PySem.W.mg_of X G a, F.fun_.binds hb, fun s v => .of_eq (hb kV doc pm an (.ref c) ct [v] rfl), PySem.W.codeHd_of_K X hd, Option.isNone_iff_eq_none.mp nP, hT Pt List.mem_cons_self⟩
end
end Ly
/-! Shared computations. -/
namespace Pg
open PySem PySem.Spec PyProof.Rows L2 Ly
def b_least_rows : MS := (mblock [(mset 2 (box (dlst [(dtup [(ret (.int 0)), (tree (dlst []))])]))),
  (mpre [3, 4, 5, 6, 7, 8] (mfor (range1 (args [(calls fLen (args [(mvar 0)]))])) (.nm 3) (mdrop [3, 4, 5, 6, 7, 8] (mblock [(mset 4 (box (dlst []))),
  (mpre [5, 6, 7, 8] (mfor (range1 (args [(bin opAdd (mvar 3) (ret (.int 1)))])) (.nm 5) (mdrop [5, 6, 7, 8] (mblock [(mset 6 (bin opAdd (bin opSub (bin opIx (mvar 0) (mvar 3)) (bin opIx (mvar 0) (mvar 5))) (ret (.int 1)))),
  (mcond (tst (bin opLe (mvar 6) (ret (.int 8)))) (mblock [(mput (.tp [7, 8]) (bin opIx (mvar 2) (mvar 5))),
  (mdo (meth "list" fAppend (mvar 4) (args [(dtup [(bin opAdd (bin opAdd (mvar 7) (mvar 1)) (mvar 6)), (tree (bin catN (mvar 8) (tree (dlst [(dtup [(bin opIx (mvar 0) (mvar 5)), (mvar 6)])]))))])])))]) (mblock []))])))),
  (mdo (meth "list" fAppend (mvar 2) (args [(calls fMin (args [(mvar 4)]))])))])))),
  (mret (bin opIx (mvar 2) (un opNeg (ret (.int 1)))))])
def f_least_rows : List D → Sto → R D := fn 2 9 b_least_rows
def b_look_wanted : MS := (mblock [(mcond (mor (mnot (tst (un (opIsi ["tuple"]) (mvar 0)))) (mnot (tst (calls fAll (args [(tree (comp (walk (mvar 0)) (.nm 1) [1] (ret true) (callF Pg.f_is_whole (args [(mvar 1), (ret (.int 0)), (bin opSub (ret (.int 16)) (ret (.int 1)))]))))]))))) (mblock [(mraise ("NoNumber" : Str))]) (mblock [])),
  (mcond (mnot (tst (calls fAll (args [(tree (comp (zipM (args [(mvar 0), (slice opSl (mvar 0) (part (ret (.int 1))) (ret none))])) (.tp [1, 2]) [1, 2] (ret true) (bin opLt (mvar 1) (mvar 2))))])))) (mblock [(mraise ("NoNumber" : Str))]) (mblock []))])
def f_look_wanted : List D → Sto → R D := fn 1 3 b_look_wanted
def b_read_bytes : MS := (mblock [(mcond (mor (mnot (tst (un (opIsi ["list"]) (mvar 0)))) (mnot (tst (calls fAll (args [(tree (comp (walk (mvar 0)) (.nm 3) [3] (ret true) (vand (un (opIsi ["tuple"]) (mvar 3)) (bin opEq (calls fLen (args [(mvar 3)])) (ret (.int 2))))))]))))) (mblock [(mraise ("NoNumber" : Str))]) (mblock [])),
  (mpre [1, 2] (mfor (walk (mvar 0)) (.tp [1, 2]) (mdrop [1, 2] (mblock [(mcond (mor (mnot (tst (callF Pg.f_is_whole (args [(mvar 1), (ret (.int 0)), (bin opSub (ret (.int 16)) (ret (.int 1)))])))) (mor (mnot (tst (callF Pg.f_is_whole (args [(mvar 2), (ret (.int 1)), (ret (.int 8))])))) (tst (bin opGt (bin opAdd (mvar 1) (mvar 2)) (ret (.int 16)))))) (mblock [(mraise ("NoNumber" : Str))]) (mblock []))])))),
  (mret (calls fSumA (args [(tree (comp (walk (mvar 0)) (.tp [1, 2]) [1, 2] (ret true) (bin opAdd (ret (.int 10)) (mvar 2))))])))])
def f_read_bytes : List D → Sto → R D := fn 1 4 b_read_bytes
def b_reads_for : MS := (mblock [(mdo (callF Pg.f_look_wanted (args [(mvar 0)]))),
  (mcond (mnot (tst (callF Pg.f_is_whole (args [(mvar 1), (ret (.int 1)), (ret (.int 8))])))) (mblock [(mraise ("NoNumber" : Str))]) (mblock [])),
  (mset 2 (box (dlst []))),
  (mpre [3] (mfor (walk (mvar 0)) (.nm 3) (mdrop [3] (mblock [(mcond (mand (tst (bin opNe (mvar 2) (tree (dlst [])))) (tst (bin opLt (mvar 3) (bin opAdd (bin opIx (bin opIx (mvar 2) (un opNeg (ret (.int 1)))) (ret (.int 0))) (mvar 1))))) (mblock [(msub (mvar 2) (un opNeg (ret (.int 1))) (dtup [(bin opIx (bin opIx (mvar 2) (un opNeg (ret (.int 1)))) (ret (.int 0))), (bin opAdd (bin opSub (mvar 3) (bin opIx (bin opIx (mvar 2) (un opNeg (ret (.int 1)))) (ret (.int 0)))) (ret (.int 1)))]))]) (mblock [(mdo (meth "list" fAppend (mvar 2) (args [(dtup [(mvar 3), (ret (.int 1))])])))]))])))),
  (mret (mvar 2))])
def f_reads_for : List D → Sto → R D := fn 2 4 b_reads_for
def b_cheapest_reads : MS := (mblock [(mdo (callF Pg.f_look_wanted (args [(mvar 0)]))),
  (mret (bin opIx (callF Pg.f_least_rows (args [(mvar 0), (ret (.int 10))])) (ret (.int 1))))])
def f_cheapest_reads : List D → Sto → R D := fn 1 1 b_cheapest_reads
def b_cheapest_writes : MS := (mblock [(mpre [2] (mfor (walk (dtup [(mvar 0), (mvar 1)])) (.nm 2) (mdrop [2] (mblock [(mcond (mor (mnot (tst (un (opIsi ["tuple"]) (mvar 2)))) (mnot (tst (callF Pg.f_are_bytes (args [(mvar 2), (ret (.int 1)), (ret (.int 16))]))))) (mblock [(mraise ("NoNumber" : Str))]) (mblock []))])))),
  (mcond (tst (bin opNe (calls fLen (args [(mvar 0)])) (calls fLen (args [(mvar 1)])))) (mblock [(mraise ("NoNumber" : Str))]) (mblock [])),
  (mset 3 (tree (comp (range1 (args [(calls fLen (args [(mvar 0)]))])) (.nm 4) [4] (tst (bin opNe (bin opIx (mvar 0) (mvar 4)) (bin opIx (mvar 1) (mvar 4)))) (mvar 4)))),
  (mret (tree (comp (walk (bin opIx (callF Pg.f_least_rows (args [(mvar 3), (ret (.int 9))])) (ret (.int 1)))) (.tp [5, 6]) [5, 6] (ret true) (dtup [(mvar 5), (slice opSl (mvar 1) (part (mvar 5)) (part (bin opAdd (mvar 5) (mvar 6))))]))))])
def f_cheapest_writes : List D → Sto → R D := fn 2 7 b_cheapest_writes
end Pg
/-! Shared computations. -/
namespace Pg
open PySem PySem.Spec PyProof.Rows L2 Ly
def b_Ear_twin : MS := (mblock [(mset 1 (mkO "Ear" Pg.f_Ear_init (args []))),
  (mfld "Ear" "heard" (mvar 1) (un (attrD "Ear" "heard") (mvar 0))),
  (mfld "Ear" "past" (mvar 1) (box (calls fList (args [(un (attrD "Ear" "past") (mvar 0))])))),
  (mfld "Ear" "later" (mvar 1) (box (calls fList (args [(un (attrD "Ear" "later") (mvar 0))])))),
  (mret (mvar 1))])
def f_Ear_twin : List D → Sto → R D := fn 1 2 b_Ear_twin
def b_law_seen : MS := (mblock [(mret (tree (dlst [(callO "Ear" "frames" Pg.f_Ear_frames (mvar 0) (args [])), (callO "Ear" "spots" Pg.f_Ear_spots (mvar 0) (args [])), (callO "Ear" "undecided" Pg.f_Ear_undecided (mvar 0) (args [])), (callO "Ear" "many" Pg.f_Ear_many (mvar 0) (args []))])))])
def f_law_seen : List D → Sto → R D := fn 1 1 b_law_seen
end Pg
/-! An ear's twin; all that an ear has. -/
namespace Pg
open PySem PySem.Spec PyProof.Rows L2 Ly
def seenD (xs : List Int) : D := .lst [.lst ((frs xs).map tupD), .lst (((found xs).1.map fun q => (q.1 : Int)).map .int), .int (xs.length - (found xs).2), .int xs.length]
theorem seen_run {st : Sto} {p a b : Nat} {e : Ear} (h : EarAt st p a b e) : f_law_seen [.ref p] st = .ok (seenD e.heard) st := by
  have O1 := isObj_ear h "frames" (by decide)
  have O2 := isObj_ear h "spots" (by decide)
  have O3 := isObj_ear h "undecided" (by decide)
  have O4 := isObj_ear h "many" (by decide)
  have F := h.frames
  have S := ear_spots h
  have U := ear_undecided h
  have M := ear_many h
  have cl1 : D.clL st.length ((frs e.heard).map tupD) = true := cl_tups _ _
  have cl2 : D.clL st.length (((found e.heard).1.map fun q => (q.1 : Int)).map .int) = true := clL_ints _ _
  unfold f_law_seen b_law_seen
  rw [fn_run (by rfl)]
  have fin : gcR st (.ok (seenD e.heard) st) = .ok (seenD e.heard) st := gcR_same (by
    unfold seenD
    simp [D.cl, D.clL, cl1, cl2, -List.map_map])
  unfold seenD at fin ⊢
  simp -implicitDefEqProofs [O1, F, O2, S, O3, U, O4, M, fin, -List.map_map]
theorem gcR_stay {st st' : Sto} {d : D} (h : fz st.length st' d = none) : gcR st (.ok d st') = .ok d st' := by
  unfold gcR
  dsimp only
  rw [h]
  split <;> rfl
def twinS (st : Sto) (e : Ear) : Sto := st ++ [earC e.heard (st.length + 3) (st.length + 4), .lst [], .lst [], .lst (e.past.map tupD), .lst (e.later.map tupD)]
theorem twin_run {st : Sto} {p a b : Nat} {e : Ear} (h : EarAt st p a b e) : f_Ear_twin [.ref p] st = .ok (.ref st.length) (twinS st e) := by
  have En := ear_new st
  have low : ∀ (l : Sto) (i : Nat) (c : Cell), st[i]? = some c → (st ++ l)[i]? = some c := fun l i c hi => app_low _ _ hi
  have at1 := attr_ref (low [earC [] (st.length + 1) (st.length + 2), .lst [], .lst []] p _ h.obj)
  have x1 : putX "heard" (tupD e.heard) ["heard", "past", "later"] [tupD [], .ref (st.length + 1), .ref (st.length + 2)] = [tupD e.heard, .ref (st.length + 1), .ref (st.length + 2)] := rfl
  have x2 : putX "past" (.ref (st.length + 3)) ["heard", "past", "later"] [tupD e.heard, .ref (st.length + 1), .ref (st.length + 2)] = [tupD e.heard, .ref (st.length + 3), .ref (st.length + 2)] := rfl
  have x3 : putX "later" (.ref (st.length + 4)) ["heard", "past", "later"] [tupD e.heard, .ref (st.length + 3), .ref (st.length + 2)] = [tupD e.heard, .ref (st.length + 3), .ref (st.length + 4)] := rfl
  have at2 := attr_ref (low [earC e.heard (st.length + 1) (st.length + 2), .lst [], .lst []] p _ h.obj)
  have p2 : fList [.ref a] (st ++ [earC e.heard (st.length + 1) (st.length + 2), .lst [], .lst []]) = some (e.past.map tupD, st ++ [earC e.heard (st.length + 1) (st.length + 2), .lst [], .lst []]) := by
    show (rdOf _ (.ref a)).map _ = _
    rw [rdOf_ref (low _ a _ h.past)]; rfl
  have at3 := attr_ref (low [earC e.heard (st.length + 3) (st.length + 2), .lst [], .lst [], .lst (e.past.map tupD)] p _ h.obj)
  have p3 : fList [.ref b] (st ++ [earC e.heard (st.length + 3) (st.length + 2), .lst [], .lst [], .lst (e.past.map tupD)]) = some (e.later.map tupD, st ++ [earC e.heard (st.length + 3) (st.length + 2), .lst [], .lst [], .lst (e.past.map tupD)]) := by
    show (rdOf _ (.ref b)).map _ = _
    rw [rdOf_ref (low _ b _ h.later)]; rfl
  unfold f_Ear_twin b_Ear_twin twinS
  rw [fn_run (by rfl)]
  unfold earC at En at1 at2 at3 p2 p3 ⊢
  simp -implicitDefEqProofs [En, at1, x1, at2, p2, x2, at3, p3, x3]
  exact gcR_stay (by simp [fz])
/-- the twin, and the one that was there -/
theorem twin_at {st : Sto} {p a b : Nat} {e : Ear} (h : EarAt st p a b e) : EarAt (twinS st e) st.length (st.length + 3) (st.length + 4) e ∧ EarAt (twinS st e) p a b e := by
  unfold twinS
  exact ⟨⟨by simp, by simp, by simp, by omega, h.byt, h.len⟩, ⟨app_low _ _ h.obj, app_low _ _ h.past, app_low _ _ h.later, h.ne, h.byt, h.len⟩⟩
theorem EarAt.keep {st st' : Sto} {p a b : Nat} {e : Ear} (h : EarAt st p a b e) (k : ∀ i, i = p ∨ i = a ∨ i = b → st'[i]? = st[i]?) : EarAt st' p a b e :=
  ⟨by rw [k p (.inl rfl)]; exact h.obj, by rw [k a (.inr (.inl rfl))]; exact h.past, by rw [k b (.inr (.inr rfl))]; exact h.later, h.ne, h.byt, h.len⟩
/-- two ears that share nothing -/
structure Two (st : Sto) (p a b q c d : Nat) (e f : Ear) : Prop where
  one : EarAt st p a b e
  two : EarAt st q c d f
  ap : ∀ i, i = p ∨ i = a ∨ i = b → i ≠ q ∧ i ≠ c ∧ i ≠ d
theorem Two.swap {st : Sto} {p a b q c d : Nat} {e f : Ear} (T : Two st p a b q c d e f) : Two st q c d p a b f e :=
  ⟨T.two, T.one, fun i hi => by
    have h1 := T.ap p (.inl rfl)
    have h2 := T.ap a (.inr (.inl rfl))
    have h3 := T.ap b (.inr (.inr rfl))
    omega⟩
theorem Two.lt {st : Sto} {p a b q c d : Nat} {e f : Ear} (T : Two st p a b q c d e f) (i : Nat) (h : i = q ∨ i = c ∨ i = d) : i < st.length := by
  have := T.two.lt
  omega
theorem Two.back {st : Sto} {p a b q c d : Nat} {e f : Ear} {pst : List (List Int)} {was : List Int} (T : Two st p a b q c d e f) (hp : e.past = pst ++ [was]) (hlt : e.later.length ≤ 100000) (hw : Byt was) (hl : was.length ≤ 400) :
    ∃ s', Two s' p a b q c d ⟨was, pst, e.later ++ [e.heard]⟩ f ∧ f_Ear_back [.ref p] st = .ok (.int (e.heard.length - was.length)) s' :=
  ⟨_, ⟨back_at T.one hw hl, T.two.keep fun i hi => by have := T.swap.ap i hi; exact backS_get this.1 this.2.1 this.2.2, T.ap⟩, ear_back T.one hp hlt⟩
theorem Two.forth {st : Sto} {p a b q c d : Nat} {e f : Ear} {ltr : List (List Int)} {was : List Int} (T : Two st p a b q c d e f) (hp : e.later = ltr ++ [was]) (hlt : e.past.length ≤ 100000) (hw : Byt was) (hl : was.length ≤ 400) :
    ∃ s', Two s' p a b q c d ⟨was, e.past ++ [e.heard], ltr⟩ f ∧ f_Ear_forth [.ref p] st = .ok (.int (was.length - e.heard.length)) s' :=
  ⟨_, ⟨forth_at T.one hw hl, T.two.keep fun i hi => by have := T.swap.ap i hi; exact forthS_get this.1 this.2.1 this.2.2, T.ap⟩, ear_forth T.one hp hlt⟩
theorem Two.hear {st : Sto} {p a b q c d : Nat} {e f : Ear} {x : D} {xs : List Int} (T : Two st p a b q c d e f) (hd : Ints st x xs) (hx : Byt xs) (hl : e.heard.length + xs.length ≤ 400) (hda : x ≠ .ref a) (hdp : x ≠ .ref p) (hpl : e.past.length ≤ 100000) :
    ∃ s' b', Two s' p a b' q c d (e.hear xs) f ∧ f_Ear_hear [.ref p, x] st = .ok (.lst ((told e xs).map tupD)) s' :=
  ⟨_, _, ⟨hear_at T.one hx hl, T.two.keep fun i hi => by have := T.swap.ap i hi; exact hearS_get this.1 this.2.1 (T.lt i hi), fun i hi => by
    rcases hi with hi | hi | hi
    · exact T.ap i (.inl hi)
    · exact T.ap i (.inr (.inl hi))
    · have := T.two.lt; omega⟩, ear_hear T.one hd hx hl hda hdp hpl⟩
/-- behind the making of the twin -/
theorem twin_two {st : Sto} {p a b : Nat} {e : Ear} (h : EarAt st p a b e) : Two (twinS st e) p a b st.length (st.length + 3) (st.length + 4) e e :=
  ⟨(twin_at h).2, (twin_at h).1, fun i hi => by have := h.lt; omega⟩
end Pg
/-! Shared computations. -/
namespace Pg
open PySem PySem.Spec PyProof.Rows L2 Ly
def b_Station_number : MS := (mblock [(mret (un (attrD "Station" "own") (mvar 0)))])
def f_Station_number : List D → Sto → R D := fn 1 1 b_Station_number
def b_Station_places : MS := (mblock [(mret (calls fTuple (args [(un (attrD "Station" "held") (mvar 0))])))])
def f_Station_places : List D → Sto → R D := fn 1 1 b_Station_places
def b_Station_written : MS := (mblock [(mcond (tst (bin opGt (bin opAdd (mvar 2) (calls fLen (args [(mvar 3)]))) (calls fLen (args [(un (attrD "Station" "held") (mvar 0))])))) (mblock [(mret (dtup [(ret (.str ("unwritten" : Str))), (un (attrD "Station" "own") (mvar 0)), (mvar 1), (ret (.int 1))]))]) (mblock [])),
  (mcond (tst (calls fAny (args [(tree (comp (walk (un (attrD "Station" "fixed") (mvar 0))) (.nm 4) [4] (ret true) (chain opLe opLt (mvar 2) (mvar 4) (bin opAdd (mvar 2) (calls fLen (args [(mvar 3)]))))))]))) (mblock [(mret (dtup [(ret (.str ("unwritten" : Str))), (un (attrD "Station" "own") (mvar 0)), (mvar 1), (ret (.int 2))]))]) (mblock [])),
  (mfld "Station" "held" (mvar 0) (box (bin catN (tree (bin catN (slice opSl (un (attrD "Station" "held") (mvar 0)) (ret none) (part (mvar 2))) (tree (calls fList (args [(mvar 3)]))))) (slice opSl (un (attrD "Station" "held") (mvar 0)) (part (bin opAdd (mvar 2) (calls fLen (args [(mvar 3)])))) (ret none))))),
  (mret (dtup [(ret (.str ("done" : Str))), (un (attrD "Station" "own") (mvar 0)), (mvar 1)]))])
def f_Station_written : List D → Sto → R D := fn 4 5 b_Station_written
def b_Station_read : MS := (mblock [(mcond (tst (bin opGt (bin opAdd (mvar 2) (mvar 3)) (calls fLen (args [(un (attrD "Station" "held") (mvar 0))])))) (mblock [(mret (dtup [(ret (.str ("unread" : Str))), (un (attrD "Station" "own") (mvar 0)), (mvar 1), (ret (.int 1))]))]) (mblock [])),
  (mret (dtup [(ret (.str ("values" : Str))), (un (attrD "Station" "own") (mvar 0)), (mvar 1), (calls fTuple (args [(slice opSl (un (attrD "Station" "held") (mvar 0)) (part (mvar 2)) (part (bin opAdd (mvar 2) (mvar 3))))]))]))])
def f_Station_read : List D → Sto → R D := fn 4 4 b_Station_read
def b_are_fixed : MS := (mblock [(mcond (mor (mnot (tst (un (opIsi ["tuple"]) (mvar 0)))) (mnot (tst (calls fAll (args [(tree (comp (walk (mvar 0)) (.nm 2) [2] (ret true) (callF Pg.f_is_whole (args [(mvar 2), (ret (.int 0)), (bin opSub (mvar 1) (ret (.int 1)))]))))]))))) (mblock [(mret (ret (.bl false)))]) (mblock [])),
  (mret (calls fAll (args [(tree (comp (zipM (args [(mvar 0), (slice opSl (mvar 0) (part (ret (.int 1))) (ret none))])) (.tp [2, 3]) [2, 3] (ret true) (bin opLt (mvar 2) (mvar 3))))])))])
def f_are_fixed : List D → Sto → R D := fn 2 4 b_are_fixed
def b_Station_change : MS := (mblock [(mcond (mor (mnot (tst (callF Pg.f_is_whole (args [(mvar 1), (ret (.int 0)), (bin opSub (calls fLen (args [(un (attrD "Station" "held") (mvar 0))])) (ret (.int 1)))])))) (mnot (tst (callF Pg.f_is_whole (args [(mvar 2), (ret (.int 0)), (ret (.int 255))]))))) (mblock [(mraise ("NoNumber" : Str))]) (mblock [])),
  (msub (un (attrD "Station" "held") (mvar 0)) (mvar 1) (mvar 2))])
def f_Station_change : List D → Sto → R D := fn 3 3 b_Station_change
def b_Station_init : MS := (mblock [(mcond (mor (mnot (tst (callF Pg.f_is_whole (args [(mvar 1), (ret (.int 1)), (ret (.int 99))])))) (mor (mnot (tst (un (opIsi ["tuple"]) (mvar 2)))) (mnot (tst (callF Pg.f_are_bytes (args [(mvar 2), (ret (.int 1)), (ret (.int 16))])))))) (mblock [(mraise ("NoStation" : Str))]) (mblock [])),
  (mcond (mnot (tst (callF Pg.f_are_fixed (args [(mvar 3), (calls fLen (args [(mvar 2)]))])))) (mblock [(mraise ("NoStation" : Str))]) (mblock [])),
  (mfld "Station" "own" (mvar 0) (mvar 1)),
  (mfld "Station" "held" (mvar 0) (box (calls fList (args [(mvar 2)])))),
  (mfld "Station" "fixed" (mvar 0) (mvar 3)),
  (mfld "Station" "last" (mvar 0) (ret .non)),
  (mfld "Station" "told" (mvar 0) (ret .non))])
def f_Station_init : List D → Sto → R D := fn 4 4 b_Station_init
def b_is_answer : MS := (mblock [(mcond (mor (mnot (tst (un (opIsi ["tuple"]) (mvar 0)))) (mor (tst (bin opLt (calls fLen (args [(mvar 0)])) (ret (.int 3)))) (mnot (tst (callF Pg.f_is_whole (args [(bin opIx (mvar 0) (ret (.int 1))), (ret (.int 1)), (ret (.int 99))])))))) (mblock [(mret (ret (.bl false)))]) (mblock [])),
  (mcond (mnot (tst (callF Pg.f_is_whole (args [(bin opIx (mvar 0) (ret (.int 2))), (ret (.int 0)), (bin opSub (ret (.int 16)) (ret (.int 1)))])))) (mblock [(mret (ret (.bl false)))]) (mblock [])),
  (mcond (tst (bin opEq (bin opIx (mvar 0) (ret (.int 0))) (ret (.str ("done" : Str))))) (mblock [(mret (bin opEq (calls fLen (args [(mvar 0)])) (ret (.int 3))))]) (mblock [])),
  (mcond (tst (bin opNe (calls fLen (args [(mvar 0)])) (ret (.int 4)))) (mblock [(mret (ret (.bl false)))]) (mblock [])),
  (mcond (tst (bin opEq (bin opIx (mvar 0) (ret (.int 0))) (ret (.str ("values" : Str))))) (mblock [(mret (callF Pg.f_are_values (args [(bin opIx (mvar 0) (ret (.int 3)))])))]) (mblock [])),
  (mret (vand (bin opInA (bin opIx (mvar 0) (ret (.int 0))) (dtup [(ret (.str ("unread" : Str))), (ret (.str ("unwritten" : Str)))])) (callF Pg.f_is_whole (args [(bin opIx (mvar 0) (ret (.int 3))), (ret (.int 1)), (ret (.int 2))]))))])
def f_is_answer : List D → Sto → R D := fn 1 1 b_is_answer
def b_answer_frame : MS := (mblock [(mcond (mnot (tst (callF Pg.f_is_answer (args [(mvar 0)])))) (mblock [(mraise ("NoAsk" : Str))]) (mblock [])),
  (mcond (tst (bin opEq (bin opIx (mvar 0) (ret (.int 0))) (ret (.str ("values" : Str))))) (mblock [(mret (callF Pg.f_framed (args [(bin opAdd (dtup [(bin opIx (mvar 0) (ret (.int 1))), (ret (.int 129)), (bin opIx (mvar 0) (ret (.int 2)))]) (bin opIx (mvar 0) (ret (.int 3))))])))]) (mblock [])),
  (mcond (tst (bin opEq (bin opIx (mvar 0) (ret (.int 0))) (ret (.str ("done" : Str))))) (mblock [(mret (callF Pg.f_framed (args [(dtup [(bin opIx (mvar 0) (ret (.int 1))), (ret (.int 130)), (bin opIx (mvar 0) (ret (.int 2)))])])))]) (mblock [])),
  (mret (callF Pg.f_framed (args [(dtup [(bin opIx (mvar 0) (ret (.int 1))), (bin opAdd (ret (.int 131)) (calls fIntOf (args [(bin opEq (bin opIx (mvar 0) (ret (.int 0))) (ret (.str ("unwritten" : Str))))]))), (bin opIx (mvar 0) (ret (.int 2))), (bin opIx (mvar 0) (ret (.int 3)))])])))])
def f_answer_frame : List D → Sto → R D := fn 1 1 b_answer_frame
def b_answer_in : MS := (mblock [(mset 1 (slice opSl (mvar 0) (ret none) (part (un opNeg (ret (.int 1)))))),
  (mcond (mor (tst (bin opLt (calls fLen (args [(mvar 1)])) (ret (.int 3)))) (mnot (tst (chain opLe opLe (ret (.int 129)) (bin opIx (mvar 1) (ret (.int 1))) (ret (.int 132)))))) (mblock [(mret (ret .non))]) (mblock [])),
  (mset 2 (bin opAdd (dtup [(ret (.str ("done" : Str))), (bin opIx (mvar 1) (ret (.int 0))), (bin opIx (mvar 1) (ret (.int 2)))]) (slice opSl (mvar 1) (part (ret (.int 3))) (ret none)))),
  (mcond (tst (bin opEq (bin opIx (mvar 1) (ret (.int 1))) (ret (.int 129)))) (mblock [(mset 2 (dtup [(ret (.str ("values" : Str))), (bin opIx (mvar 1) (ret (.int 0))), (bin opIx (mvar 1) (ret (.int 2))), (slice opSl (mvar 1) (part (ret (.int 3))) (ret none))]))]) (mblock [(mcond (tst (bin opGt (bin opIx (mvar 1) (ret (.int 1))) (ret (.int 130)))) (mblock [(mset 2 (bin opAdd (dtup [(bin opIx (tree (dlst [(ret (.str ("unread" : Str))), (ret (.str ("unwritten" : Str)))])) (bin opSub (bin opIx (mvar 1) (ret (.int 1))) (ret (.int 131)))), (bin opIx (mvar 1) (ret (.int 0))), (bin opIx (mvar 1) (ret (.int 2)))]) (slice opSl (mvar 1) (part (ret (.int 3))) (ret none))))]) (mblock []))])),
  (mret (mif (tst (callF Pg.f_is_answer (args [(mvar 2)]))) (mvar 2) (ret .non)))])
def f_answer_in : List D → Sto → R D := fn 1 3 b_answer_in
def b_frame_answer : MS := (mblock [(mdo (callF Pg.f_look_frame (args [(mvar 0)]))),
  (mret (callF Pg.f_answer_in (args [(mvar 0)])))])
def f_frame_answer : List D → Sto → R D := fn 1 1 b_frame_answer
def b_Station_take : MS := (mblock [(mset 2 (mif (tst (callF Pg.f_is_frame (args [(mvar 1)]))) (callF Pg.f_ask_in (args [(mvar 1)])) (ret .non))),
  (mcond (mor (tst (bin opIsN (mvar 2) (ret .non))) (tst (bin opNotInA (bin opIx (mvar 2) (ret (.int 1))) (dtup [(ret (.int 0)), (un (attrD "Station" "own") (mvar 0))])))) (mblock [(mret (ret .non))]) (mblock [])),
  (mput (.tp [3, 4, 5, 6, 7]) (mvar 2)),
  (mcond (tst (bin opEq (mvar 3) (ret (.str ("read" : Str))))) (mblock [(mret (callF Pg.f_answer_frame (args [(callO "Station" "read" Pg.f_Station_read (mvar 0) (args [(mvar 5), (mvar 6), (mvar 7)]))])))]) (mblock [])),
  (mcond (tst (bin opEq (mvar 4) (ret (.int 0)))) (mblock [(mdo (callO "Station" "written" Pg.f_Station_written (mvar 0) (args [(mvar 5), (mvar 6), (mvar 7)]))),
  (mret (ret .non))]) (mblock [])),
  (mcond (tst (bin opNe (mvar 1) (un (attrD "Station" "last") (mvar 0)))) (mblock [(mfld "Station" "told" (mvar 0) (callF Pg.f_answer_frame (args [(callO "Station" "written" Pg.f_Station_written (mvar 0) (args [(mvar 5), (mvar 6), (mvar 7)]))]))),
  (mfld "Station" "last" (mvar 0) (mvar 1))]) (mblock [])),
  (mret (un (attrD "Station" "told") (mvar 0)))])
def f_Station_take : List D → Sto → R D := fn 2 8 b_Station_take
end Pg
/-! Answers and their frames. -/
namespace Pg
open PySem PySem.Spec PyProof.Rows L2 Ly
inductive Ans where
  | vals (own num : Int) (vs : List Int)
  | done (own num : Int)
  | un (wr : Bool) (own num why : Int)
namespace Ans
def word : Bool → Str
  | true => ("unwritten" : Str)
  | false => ("unread" : Str)
def code : Bool → Int
  | true => 132
  | false => 131
def d : Ans → D
  | .vals o n vs => .tup [.str ("values" : Str), .int o, .int n, tupD vs]
  | .done o n => .tup [.str ("done" : Str), .int o, .int n]
  | .un b o n y => .tup [.str (word b), .int o, .int n, .int y]
def ps : Ans → List Int
  | .vals o n vs => [o, 129, n] ++ vs
  | .done o n => [o, 130, n]
  | .un b o n y => [o, code b, n, y]
def frame (a : Ans) : List Int := fr a.ps
def ok : Ans → Bool
  | .vals o n vs => Ask.w o 1 99 && (Ask.w n 0 15 && ((decide (1 ≤ (vs.length : Int)) && decide ((vs.length : Int) ≤ 8)) && vs.all byt))
  | .done o n => Ask.w o 1 99 && Ask.w n 0 15
  | .un _ o n y => Ask.w o 1 99 && (Ask.w n 0 15 && Ask.w y 1 2)
end Ans
theorem is_answer_run (a : Ans) (st : Sto) : f_is_answer [a.d] st = .ok (.bl a.ok) st := by
  have fin : ∀ b : Bool, gcR st (.ok (.bl b) st) = .ok (.bl b) st := fun b => gc0
  cases a with
  | vals o n vs =>
    unfold f_is_answer b_is_answer Ans.d
    rw [fn_run (by rfl)]
    have w1 := whole_run o 1 99 st
    have w2 := whole_run n 0 15 st
    have w4 := values_run (st := st) vs
    have ne : ∀ s : Sto, opEq (.str ("values" : Str)) (.str ("done" : Str)) s = some (.bl false, s) := fun _ => rfl
    have ne2 : ∀ s : Sto, opEq (.str ("values" : Str)) (.str ("values" : Str)) s = some (.bl true, s) := fun _ => rfl
    rw [show (Ans.vals o n vs).ok = ((decide (1 ≤ o) && decide (o ≤ 99)) && ((decide (0 ≤ n) && decide (n ≤ 15)) && ((decide (1 ≤ (vs.length : Int)) && decide ((vs.length : Int) ≤ 8)) && vs.all Pg.byt))) from rfl]
    have i2 : atI [D.str ("values" : Str), D.int o, D.int n, tupD vs] 2 = some (.int n) := rfl
    have i3 : atI [D.str ("values" : Str), D.int o, D.int n, tupD vs] 3 = some (tupD vs) := rfl
    generalize (decide (1 ≤ o) && decide (o ≤ 99)) = b1 at w1 ⊢
    generalize (decide (0 ≤ n) && decide (n ≤ 15)) = b2 at w2 ⊢
    generalize ((decide (1 ≤ (vs.length : Int)) && decide ((vs.length : Int) ≤ 8)) && vs.all Pg.byt) = b4 at w4 ⊢
    cases b1
    · simp -implicitDefEqProofs [w1, opLt, fin]
    · cases b2
      · simp -implicitDefEqProofs [w1, w2, i2, opLt, fin]
      · simp -implicitDefEqProofs [w1, w2, i2, i3, ne, ne2, w4, opLt, fin]
  | done o n =>
    unfold f_is_answer b_is_answer Ans.d
    rw [fn_run (by rfl)]
    have w1 := whole_run o 1 99 st
    have w2 := whole_run n 0 15 st
    have ne : ∀ s : Sto, opEq (.str ("done" : Str)) (.str ("done" : Str)) s = some (.bl true, s) := fun _ => rfl
    rw [show (Ans.done o n).ok = ((decide (1 ≤ o) && decide (o ≤ 99)) && (decide (0 ≤ n) && decide (n ≤ 15))) from rfl]
    have i2 : atI [D.str ("done" : Str), D.int o, D.int n] 2 = some (.int n) := rfl
    generalize (decide (1 ≤ o) && decide (o ≤ 99)) = b1 at w1 ⊢
    generalize (decide (0 ≤ n) && decide (n ≤ 15)) = b2 at w2 ⊢
    cases b1
    · simp -implicitDefEqProofs [w1, opLt, fin]
    · cases b2
      · simp -implicitDefEqProofs [w1, w2, i2, opLt, fin]
      · simp -implicitDefEqProofs [w1, w2, i2, ne, opLt, fin]
  | un b o n y =>
    unfold f_is_answer b_is_answer Ans.d
    rw [fn_run (by rfl)]
    have w1 := whole_run o 1 99 st
    have w2 := whole_run n 0 15 st
    have w3 := whole_run y 1 2 st
    have ne : ∀ s : Sto, opEq (.str (Ans.word b)) (.str ("done" : Str)) s = some (.bl false, s) := fun _ => by cases b <;> rfl
    have ne2 : ∀ s : Sto, opEq (.str (Ans.word b)) (.str ("values" : Str)) s = some (.bl false, s) := fun _ => by cases b <;> rfl
    have inn : ∀ s : Sto, opInA (.str (Ans.word b)) (.tup [.str ("unread" : Str), .str ("unwritten" : Str)]) s = some (.bl true, s) := fun _ => by cases b <;> rfl
    rw [show (Ans.un b o n y).ok = ((decide (1 ≤ o) && decide (o ≤ 99)) && ((decide (0 ≤ n) && decide (n ≤ 15)) && (decide (1 ≤ y) && decide (y ≤ 2)))) from rfl]
    have i2 : atI [D.str (Ans.word b), D.int o, D.int n, .int y] 2 = some (.int n) := rfl
    have i3 : atI [D.str (Ans.word b), D.int o, D.int n, .int y] 3 = some (.int y) := rfl
    generalize (decide (1 ≤ o) && decide (o ≤ 99)) = b1 at w1 ⊢
    generalize (decide (0 ≤ n) && decide (n ≤ 15)) = b2 at w2 ⊢
    generalize (decide (1 ≤ y) && decide (y ≤ 2)) = b3 at w3 ⊢
    cases b1
    · simp -implicitDefEqProofs [w1, opLt, fin]
    · cases b2
      · simp -implicitDefEqProofs [w1, w2, i2, opLt, fin]
      · simp -implicitDefEqProofs [w1, w2, w3, i2, i3, ne, ne2, inn, opLt, fin]
theorem Ans.byt {a : Ans} (h : a.ok = true) : Byt a.ps ∧ 1 ≤ a.ps.length ∧ a.ps.length ≤ 19 := by
  cases a with
  | vals o n vs =>
    simp [Ans.ok, Ask.w, Pg.byt] at h
    refine ⟨fun x hx => ?_, by simp [Ans.ps], by simp [Ans.ps]; omega⟩
    simp [Ans.ps] at hx
    rcases hx with rfl | rfl | rfl | hx
    · omega
    · omega
    · omega
    · exact h.2.2.2 x hx
  | done o n =>
    simp [Ans.ok, Ask.w] at h
    refine ⟨fun x hx => ?_, by simp [Ans.ps], by simp [Ans.ps]⟩
    simp [Ans.ps] at hx
    omega
  | un b o n y =>
    simp [Ans.ok, Ask.w] at h
    refine ⟨fun x hx => ?_, by simp [Ans.ps], by simp [Ans.ps]⟩
    simp [Ans.ps] at hx
    have : 0 ≤ Ans.code b ∧ Ans.code b ≤ 255 := by cases b <;> decide
    rcases hx with rfl | rfl | rfl | rfl <;> omega
theorem Ans.isFrame {a : Ans} (h : a.ok = true) : Frame a.frame := fr_frame (Ans.byt h).1 (Ans.byt h).2.1 (Ans.byt h).2.2
theorem Ans.cl (a : Ans) (n : Nat) : D.cl n a.d = true := by cases a <;> simp [Ans.d, tupD, clL_ints]
theorem answer_frame_run {a : Ans} (h : a.ok = true) (st : Sto) : f_answer_frame [a.d] st = .ok (tupD a.frame) st := by
  obtain ⟨B, l1, l2⟩ := Ans.byt h
  have L := is_answer_run a st
  rw [h] at L
  have F := framed_run (Ints.tup (st := st) a.ps) B l1 l2
  unfold f_answer_frame b_answer_frame
  rw [fn_run (by rfl)]
  have fin : gcR st (.ok (tupD a.frame) st) = .ok (tupD a.frame) st := gc0 (by unfold tupD; simp [clL_ints])
  unfold Ans.frame at fin ⊢
  cases a with
  | vals o n vs =>
    have ne : ∀ s : Sto, opEq (.str ("values" : Str)) (.str ("values" : Str)) s = some (.bl true, s) := fun _ => rfl
    have F' : f_framed [.tup (.int o :: .int 129 :: .int n :: vs.map .int)] st = .ok (tupD (fr (Ans.vals o n vs).ps)) st := F
    have z : 3 + vs.length ≤ sizeLine := sz _ (by simp [Ans.ps] at l2; omega)
    have ad : opAdd (.tup [.int o, .int 129, .int n]) (tupD vs) st = some (.tup (.int o :: .int 129 :: .int n :: vs.map .int), st) := by
      show (if 3 + (vs.map D.int).length ≤ sizeLine then some (D.tup ([.int o, .int 129, .int n] ++ vs.map .int), st) else none) = _
      rw [if_pos (by rw [List.length_map]; omega)]; rfl
    have i2 : atI [D.str ("values" : Str), D.int o, D.int n, .tup (vs.map .int)] 2 = some (.int n) := rfl
    have i3 : atI [D.str ("values" : Str), D.int o, D.int n, .tup (vs.map .int)] 3 = some (.tup (vs.map .int)) := rfl
    unfold Ans.d at L ⊢
    simp -implicitDefEqProofs only [show tupD vs = .tup (vs.map .int) from rfl] at ad L ⊢
    simp -implicitDefEqProofs [L, ne, i2, i3, z, ad, F', fin]
  | done o n =>
    have ne : ∀ s : Sto, opEq (.str ("done" : Str)) (.str ("values" : Str)) s = some (.bl false, s) := fun _ => rfl
    have ne2 : ∀ s : Sto, opEq (.str ("done" : Str)) (.str ("done" : Str)) s = some (.bl true, s) := fun _ => rfl
    have F' : f_framed [.tup [.int o, .int 130, .int n]] st = .ok (tupD (fr (Ans.done o n).ps)) st := F
    have i2 : atI [D.str ("done" : Str), D.int o, D.int n] 2 = some (.int n) := rfl
    unfold Ans.d at L ⊢
    simp -implicitDefEqProofs [L, ne, ne2, i2, F', fin]
  | un b o n y =>
    have ne : ∀ s : Sto, opEq (.str (Ans.word b)) (.str ("values" : Str)) s = some (.bl false, s) := fun _ => by cases b <;> rfl
    have ne2 : ∀ s : Sto, opEq (.str (Ans.word b)) (.str ("done" : Str)) s = some (.bl false, s) := fun _ => by cases b <;> rfl
    have ne3 : ∀ s : Sto, opEq (.str (Ans.word b)) (.str ("unwritten" : Str)) s = some (.bl b, s) := fun _ => by cases b <;> rfl
    have io : ∀ s : Sto, fIntOf [.bl b] s = some (.int (if b = true then 1 else 0), s) := fun _ => by cases b <;> rfl
    have F' : f_framed [.tup [.int o, .int (Ans.code b), .int n, .int y]] st = .ok (tupD (fr (Ans.un b o n y).ps)) st := F
    have i2 : atI [D.str (Ans.word b), D.int o, D.int n, .int y] 2 = some (.int n) := rfl
    have i3 : atI [D.str (Ans.word b), D.int o, D.int n, .int y] 3 = some (.int y) := rfl
    have cd : (131 : Int) + (if b = true then 1 else 0) = Ans.code b := by cases b <;> rfl
    unfold Ans.d at L ⊢
    simp -implicitDefEqProofs [L, ne, ne2, ne3, io, i2, i3, cd, F', fin]
/-- a frame of an answer is read as it -/
theorem answer_in_run {a : Ans} (h : a.ok = true) (st : Sto) : f_answer_in [tupD a.frame] st = .ok a.d st := by
  have fin : gcR st (.ok a.d st) = .ok a.d st := gc0 (Ans.cl _ _)
  have L := is_answer_run a st
  rw [h] at L
  obtain ⟨B, l1, l2⟩ := Ans.byt h
  have sl : opSl none (some (-1)) (tupD a.frame) st = some (tupD a.ps, st) := by
    show some (D.tup (cut ((a.ps ++ _).map D.int) none (some (-1))), st) = _
    rw [cut_map, cut_last1]; rfl
  unfold f_answer_in b_answer_in
  rw [fn_run (by rfl)]
  generalize tupD a.frame = F at sl ⊢
  cases a with
  | vals o n vs =>
    have sl : opSl none (some (-1)) F st = some (.tup (.int o :: .int 129 :: .int n :: vs.map .int), st) := sl
    have ln : ∀ s, fLen [D.tup (D.int o :: .int 129 :: .int n :: vs.map .int)] s = some (.int ((vs.length : Int) + 3), s) := fun s => by
      show some (D.int (((D.int o :: .int 129 :: .int n :: vs.map .int).length : Nat) : Int), s) = _
      simp
      omega
    have lt : ∀ s, opLt (.int ((vs.length : Int) + 3)) (.int 3) s = some (.bl false, s) := fun s => by
      show some (D.bl (decide ((vs.length : Int) + 3 < 3)), s) = _
      rw [decide_eq_false (by omega)]
    have z : 3 + vs.length ≤ sizeLine := sz _ (by simp [Ans.ps] at l2; omega)
    have c3 : cut (D.int o :: .int 129 :: .int n :: vs.map .int) (some 3) none = vs.map .int := cut_from _ 3
    have ad : opAdd (.tup [.str ("done" : Str), .int o, .int n]) (.tup (vs.map .int)) st = some (.tup (.str ("done" : Str) :: .int o :: .int n :: vs.map .int), st) := by
      show (if 3 + (vs.map D.int).length ≤ sizeLine then some (D.tup ([.str ("done" : Str), .int o, .int n] ++ vs.map .int), st) else none) = _
      rw [if_pos (by rw [List.length_map]; omega)]; rfl
    have i2 : atI (D.int o :: .int 129 :: .int n :: vs.map .int) 2 = some (.int n) := atI_nat (j := 2) rfl
    unfold Ans.d tupD at L fin ⊢
    simp -implicitDefEqProofs [sl, ln, lt, c3, z, ad, i2, L, fin]
  | done o n =>
    have sl : opSl none (some (-1)) F st = some (.tup [.int o, .int 130, .int n], st) := sl
    have c3 : cut [D.int o, .int 130, .int n] (some 3) none = [] := rfl
    have i2 : atI [D.int o, .int 130, .int n] 2 = some (.int n) := rfl
    have z : 3 ≤ sizeLine := sz _ (by decide)
    unfold Ans.d at L fin ⊢
    simp -implicitDefEqProofs [sl, opLt, opGt, c3, z, i2, L, fin]
  | un b o n y =>
    have sl : opSl none (some (-1)) F st = some (.tup [.int o, .int (Ans.code b), .int n, .int y], st) := sl
    have c3 : cut [D.int o, .int (Ans.code b), .int n, .int y] (some 3) none = [.int y] := rfl
    have i2 : atI [D.int o, .int (Ans.code b), .int n, .int y] 2 = some (.int n) := rfl
    have z : 4 ≤ sizeLine := sz _ (by decide)
    have z3 : 3 ≤ sizeLine := sz _ (by decide)
    have ix : ∀ s : Sto, opIx (.lst [.str ("unread" : Str), .str ("unwritten" : Str)]) (.int (Ans.code b - 131)) s = some (.str (Ans.word b), s) := fun _ => by cases b <;> rfl
    have e9 : ∀ s : Sto, opEq (.int (Ans.code b)) (.int 129) s = some (.bl false, s) := fun _ => by cases b <;> rfl
    have g0 : ∀ s : Sto, opGt (.int (Ans.code b)) (.int 130) s = some (.bl true, s) := fun _ => by cases b <;> rfl
    have l1 : ∀ s : Sto, opLe (.int 129) (.int (Ans.code b)) s = some (.bl true, s) := fun _ => by cases b <;> rfl
    have l2 : ∀ s : Sto, opLe (.int (Ans.code b)) (.int 132) s = some (.bl true, s) := fun _ => by cases b <;> rfl
    unfold Ans.d at L fin ⊢
    simp -implicitDefEqProofs [sl, opLt, c3, z, z3, i2, ix, e9, g0, l1, l2, L, fin]
theorem frame_answer_run {a : Ans} (h : a.ok = true) (st : Sto) : f_frame_answer [tupD a.frame] st = .ok a.d st := by
  unfold f_frame_answer b_frame_answer
  rw [fn_run (by rfl)]
  simp -implicitDefEqProofs [look_frame_run (Ans.isFrame h), answer_in_run h]
  exact gc0 (Ans.cl _ _)
end Pg
/-! Stations. -/
namespace Pg
open PySem PySem.Spec PyProof.Rows L2 Ly
@[simp] theorem lkS1 (a b c d e : D) : lk ["own", "held", "fixed", "last", "told"] [a, b, c, d, e] "own" = some a := rfl
@[simp] theorem lkS2 (a b c d e : D) : lk ["own", "held", "fixed", "last", "told"] [a, b, c, d, e] "held" = some b := rfl
@[simp] theorem lkS3 (a b c d e : D) : lk ["own", "held", "fixed", "last", "told"] [a, b, c, d, e] "fixed" = some c := rfl
@[simp] theorem lkS4 (a b c d e : D) : lk ["own", "held", "fixed", "last", "told"] [a, b, c, d, e] "last" = some d := rfl
@[simp] theorem lkS5 (a b c d e : D) : lk ["own", "held", "fixed", "last", "told"] [a, b, c, d, e] "told" = some e := rfl
@[simp] theorem pkS2 : putK "held" (["own", "held", "fixed", "last", "told"] : List Str) = (["own", "held", "fixed", "last", "told"] : List Str) := rfl
@[simp] theorem pkS4 : putK "last" (["own", "held", "fixed", "last", "told"] : List Str) = (["own", "held", "fixed", "last", "told"] : List Str) := rfl
@[simp] theorem pkS5 : putK "told" (["own", "held", "fixed", "last", "told"] : List Str) = (["own", "held", "fixed", "last", "told"] : List Str) := rfl
@[simp] theorem pxS2 (a b c d e x : D) : putX "held" x ["own", "held", "fixed", "last", "told"] [a, b, c, d, e] = [a, x, c, d, e] := rfl
@[simp] theorem pxS4 (a b c d e x : D) : putX "last" x ["own", "held", "fixed", "last", "told"] [a, b, c, d, e] = [a, b, c, x, e] := rfl
@[simp] theorem pxS5 (a b c d e x : D) : putX "told" x ["own", "held", "fixed", "last", "told"] [a, b, c, d, e] = [a, b, c, d, x] := rfl
structure Sta where
  own : Int
  held : List Int
  fixed : List Int
  last : Option (List Int)
  told : Option (List Int)
def frD : Option (List Int) → D
  | none => .non
  | some f => tupD f
theorem frD_cl (f : Option (List Int)) (n : Nat) : D.cl n (frD f) = true := by cases f <;> simp [frD, tupD, clL_ints]
def staC (s : Sta) (j : Nat) : Cell := .ins "Station" ["own", "held", "fixed", "last", "told"] [.int s.own, .ref j, tupD s.fixed, frD s.last, frD s.told]
/-- a station can be so -/
structure Sta.Ok (s : Sta) : Prop where
  own : 1 ≤ s.own ∧ s.own ≤ 99
  byt : Byt s.held
  len : 1 ≤ s.held.length ∧ s.held.length ≤ 16
  fix : s.fixed.length ≤ 100
  told : ∀ f, s.told = some f → Frame f
/-- a station stands at i, its bytes at j -/
structure StaAt (st : Sto) (i j : Nat) (s : Sta) : Prop where
  obj : st[i]? = some (staC s j)
  cell : st[j]? = some (.lst (s.held.map .int))
  ok : s.Ok
theorem StaAt.ne {st : Sto} {i j : Nat} {s : Sta} (h : StaAt st i j s) : i ≠ j := fun z => by
  have h1 := h.cell
  rw [← z, h.obj] at h1
  cases h1
theorem StaAt.li {st : Sto} {i j : Nat} {s : Sta} (h : StaAt st i j s) : i < st.length := (List.getElem?_eq_some_iff.mp h.obj).1
theorem StaAt.lj {st : Sto} {i j : Nat} {s : Sta} (h : StaAt st i j s) : j < st.length := (List.getElem?_eq_some_iff.mp h.cell).1
theorem StaAt.keep {st st' : Sto} {i j : Nat} {s : Sta} (h : StaAt st i j s) (k : ∀ n, n = i ∨ n = j → st'[n]? = st[n]?) : StaAt st' i j s :=
  ⟨by rw [k i (.inl rfl)]; exact h.obj, by rw [k j (.inr rfl)]; exact h.cell, h.ok⟩
theorem isObj_sta {st : Sto} {i j : Nat} {s : Sta} (h : StaAt st i j s) (m : Str) (hm : m ∉ (["own", "held", "fixed", "last", "told"] : List Str)) : Ly.isObj "Station" m st (.ref i) = true := by
  unfold Ly.isObj
  dsimp only
  rw [h.obj]
  unfold staC
  simp [hm]
section
variable {st : Sto} {i j : Nat} {s : Sta}
theorem sta_number (h : StaAt st i j s) : f_Station_number [.ref i] st = .ok (.int s.own) st := by
  unfold f_Station_number b_Station_number
  rw [fn_run (by rfl)]
  have at1 := attr_ref h.obj
  simp -implicitDefEqProofs [at1]
  exact gc0
theorem sta_places (h : StaAt st i j s) : f_Station_places [.ref i] st = .ok (tupD s.held) st := by
  unfold f_Station_places b_Station_places
  rw [fn_run (by rfl)]
  have at1 := attr_ref h.obj
  have T := (Ints.ref h.cell).tuple
  simp -implicitDefEqProofs [at1, T]
  exact gc0 (by simp [clL_ints])
/-! ### the plain station -/
def Sta.read (s : Sta) (n t m : Int) : Ans := if t + m > s.held.length then .un false s.own n 1 else .vals s.own n ((s.held.drop t.toNat).take m.toNat)
def Sta.hit (s : Sta) (t : Int) (k : Nat) : Bool := s.fixed.any fun p => decide (t ≤ p) && decide (p < t + k)
def Sta.put (s : Sta) (t : Int) (vs : List Int) : Sta := { s with held := s.held.take t.toNat ++ vs ++ s.held.drop (t.toNat + vs.length) }
def Sta.wans (s : Sta) (n t : Int) (vs : List Int) : Ans := if t + vs.length > s.held.length then .un true s.own n 1 else if s.hit t vs.length = true then .un true s.own n 2 else .done s.own n
def Sta.wst (s : Sta) (t : Int) (vs : List Int) : Sta := if t + vs.length > s.held.length then s else if s.hit t vs.length = true then s else s.put t vs
theorem put_len {s : Sta} {t : Int} {vs : List Int} (h0 : 0 ≤ t) (h : ¬ t + vs.length > s.held.length) : (s.put t vs).held.length = s.held.length := by
  unfold Sta.put
  simp only [List.length_append, List.length_take, List.length_drop]
  omega
theorem put_ok {s : Sta} {t : Int} {vs : List Int} (k : s.Ok) (h0 : 0 ≤ t) (hv : Byt vs) (h : ¬ t + vs.length > s.held.length) : (s.put t vs).Ok := by
  have l := put_len h0 h
  refine ⟨k.own, ?_, by rw [l]; exact k.len, k.fix, k.told⟩
  unfold Sta.put
  exact ((k.byt.take _).app hv).app (k.byt.drop _)
theorem wst_ok {s : Sta} {t : Int} {vs : List Int} (k : s.Ok) (h0 : 0 ≤ t) (hv : Byt vs) : (s.wst t vs).Ok := by
  unfold Sta.wst
  split
  · exact k
  · split
    · exact k
    · exact put_ok k h0 hv (by assumption)
theorem wst_own (s : Sta) (t : Int) (vs : List Int) : (s.wst t vs).own = s.own ∧ (s.wst t vs).fixed = s.fixed ∧ (s.wst t vs).last = s.last ∧ (s.wst t vs).told = s.told := by
  unfold Sta.wst Sta.put
  split
  · exact ⟨rfl, rfl, rfl, rfl⟩
  · split <;> exact ⟨rfl, rfl, rfl, rfl⟩
theorem wans_ok {s : Sta} (k : s.Ok) {n t : Int} {vs : List Int} (hn : 0 ≤ n ∧ n ≤ 15) : (s.wans n t vs).ok = true := by
  have := k.own
  unfold Sta.wans
  split
  · simp [Ans.ok, Ask.w]; omega
  · split <;> (simp [Ans.ok, Ask.w]; omega)
theorem read_ok {s : Sta} (k : s.Ok) {n t m : Int} (hn : 0 ≤ n ∧ n ≤ 15) (ht : 0 ≤ t) (hm : 1 ≤ m ∧ m ≤ 8) : (s.read n t m).ok = true := by
  have := k.own
  have := k.len
  unfold Sta.read
  split
  · simp [Ans.ok, Ask.w]; omega
  · have b := byt_all ((k.byt.drop t.toNat).take m.toNat)
    simp [Ans.ok, Ask.w]
    refine ⟨by omega, by omega, ⟨by omega, by omega⟩, ?_⟩
    exact fun x hx => List.all_eq_true.mp b x hx
theorem sta_read (h : StaAt st i j s) {n t m : Int} (ht : 0 ≤ t ∧ t ≤ 15) (hm : 1 ≤ m ∧ m ≤ 8) : f_Station_read [.ref i, .int n, .int t, .int m] st = .ok (s.read n t m).d st := by
  obtain ⟨k, rfl⟩ := Int.eq_ofNat_of_zero_le ht.1
  obtain ⟨q, rfl⟩ := Int.eq_ofNat_of_zero_le (show 0 ≤ m by omega)
  have at1 := attr_ref h.obj
  have L := (Ints.ref h.cell).len
  have fin : gcR st (.ok (s.read n (k : Int) (q : Int)).d st) = .ok (s.read n (k : Int) (q : Int)).d st := gc0 (Ans.cl _ _)
  have sl : opSl (some (k : Int)) (some ((k : Int) + (q : Int))) (.ref j) st = some (.lst (((s.held.drop k).take q).map .int), st) := by
    show (rdOf st (.ref j)).map _ = _
    rw [rdOf_ref h.cell]
    show some (D.lst (cut (s.held.map D.int) (some (k : Int)) (some ((k : Int) + (q : Int)))), st) = _
    rw [cut_map, ← Int.natCast_add, cut_both, Nat.add_sub_cancel_left]
  have T := (Ints.lst (st := st) ((s.held.drop k).take q)).tuple
  unfold f_Station_read b_Station_read
  rw [fn_run (by rfl)]
  unfold Sta.read at fin ⊢
  simp only [Int.toNat_natCast] at fin ⊢
  by_cases g : (k : Int) + (q : Int) > s.held.length
  · rw [if_pos g] at fin ⊢
    have g' : (s.held.length : Int) < (k : Int) + (q : Int) := g
    simp -implicitDefEqProofs [at1, L, opGt, g']
    exact fin
  · rw [if_neg g] at fin ⊢
    have g' : ¬ (s.held.length : Int) < (k : Int) + (q : Int) := g
    simp -implicitDefEqProofs [at1, L, opGt, g', sl, T, -List.map_take, -List.map_drop]
    exact fin
/-- behind a write that is done -/
def wrS (st : Sto) (i : Nat) (s : Sta) : Sto := st.set i (staC s st.length) ++ [.lst (s.held.map .int)]
theorem wrS_at (h : StaAt st i j s) {s' : Sta} (k : s'.Ok) : StaAt (wrS st i s') i st.length s' := by
  unfold wrS
  refine ⟨app_low _ _ (by rw [List.getElem?_set_self h.li]), by rw [List.getElem?_append_right (by simp)]; simp, k⟩
theorem wrS_keep (s' : Sta) {n : Nat} (hn : n ≠ i) (hl : n < st.length) : (wrS st i s')[n]? = st[n]? := by
  unfold wrS
  rw [List.getElem?_append_left (by rw [List.length_set]; exact hl), List.getElem?_set_ne (Ne.symm hn)]
def wrT (st : Sto) (i : Nat) (s : Sta) (t : Int) (vs : List Int) : Sto := if t + vs.length > s.held.length then st else if s.hit t vs.length = true then st else wrS st i (s.put t vs)
theorem sta_written (h : StaAt st i j s) {n t : Int} {vs : List Int} (ht : 0 ≤ t ∧ t ≤ 15) (hv : Byt vs) (hl : vs.length ≤ 8) : f_Station_written [.ref i, .int n, .int t, tupD vs] st = .ok (s.wans n t vs).d (wrT st i s t vs) := by
  obtain ⟨k, rfl⟩ := Int.eq_ofNat_of_zero_le ht.1
  have at1 := attr_ref h.obj
  have L := (Ints.ref h.cell).len
  have lv : fLen [tupD vs] st = some (.int vs.length, st) := (Ints.tup (st := st) vs).len
  have fin : ∀ a : Ans, gcR st (.ok a.d st) = .ok a.d st := fun a => gc0 (Ans.cl _ _)
  unfold f_Station_written b_Station_written
  rw [fn_run (by rfl)]
  unfold Sta.wans wrT
  by_cases g : (k : Int) + (vs.length : Int) > s.held.length
  · rw [if_pos g, if_pos g]
    have g' : (s.held.length : Int) < (k : Int) + (vs.length : Int) := g
    have fin' := fin (.un true s.own n 1)
    simp -implicitDefEqProofs [at1, L, lv, opGt, g']
    exact fin'
  · rw [if_neg g, if_neg g]
    have g' : ¬ (s.held.length : Int) < (k : Int) + (vs.length : Int) := g
    have A : loopC (fun _ => true) (.nm 4) (ret true) (chain opLe opLt (mvar 2) (mvar 4) (bin opAdd (mvar 2) (calls fLen (args [(mvar 3)])))) [some (.ref i), some (.int n), some (.int (k : Int)), some (tupD vs), none] (s.fixed.map .int) st
        = .ok (s.fixed.map fun p => .bl (decide ((k : Int) ≤ p) && decide (p < (k : Int) + vs.length))) st :=
      loopC_all rfl D.int _ (fun p => [some (.ref i), some (.int n), some (.int (k : Int)), some (tupD vs), some (.int p)]) s.fixed fun p _ => ⟨rfl, by
        by_cases c : (k : Int) ≤ p <;> simp -implicitDefEqProofs [opLe, opLt, lv, c]⟩
    have lf : s.fixed.length ≤ sizeLine := sz _ (by have := h.ok.fix; omega)
    have B := fAny_f (fun p : Int => decide ((k : Int) ≤ p) && decide (p < (k : Int) + vs.length)) s.fixed st
    rw [show (s.fixed.any fun p : Int => decide ((k : Int) ≤ p) && decide (p < (k : Int) + vs.length)) = s.hit k vs.length from rfl] at B
    have src : ∃ ok, srcOf st (tupD s.fixed) = some ⟨s.fixed.map .int, ok⟩ ∧ ok st = true := (Ints.tup (st := st) s.fixed).src
    by_cases c : s.hit (k : Int) vs.length = true
    · rw [if_pos c, if_pos c]
      rw [c] at B
      have fin' := fin (.un true s.own n 2)
      unfold tupD at at1 lv A ⊢
      simp -implicitDefEqProofs [at1, L, lv, opGt, g', wipeE, A, B]
      exact fin'
    · rw [if_neg c, if_neg c]
      have c' : s.hit (k : Int) vs.length = false := by simpa using c
      rw [c'] at B
      have hl2 := h.ok.len
      have sl1 : opSl none (some (k : Int)) (.ref j) st = some (.lst ((s.held.take k).map .int), st) := by
        show (rdOf st (.ref j)).map _ = _
        rw [rdOf_ref h.cell]
        show some (D.lst (cut (s.held.map D.int) none (some (k : Int))), st) = _
        rw [cut_map, cut_to]
      have sl2 : opSl (some ((k : Int) + (vs.length : Int))) none (.ref j) st = some (.lst ((s.held.drop (k + vs.length)).map .int), st) := by
        show (rdOf st (.ref j)).map _ = _
        rw [rdOf_ref h.cell]
        show some (D.lst (cut (s.held.map D.int) (some ((k : Int) + (vs.length : Int))) none), st) = _
        rw [cut_map, ← Int.natCast_add, cut_from]
      have lv2 : fList [tupD vs] st = some (vs.map .int, st) := (Ints.tup (st := st) vs).list
      have ct : ∀ a b : List Int, a.length + b.length ≤ 100 → catN (.lst (a.map .int)) (.lst (b.map .int)) st = some ((a ++ b).map .int, st) := fun a b hz => by
        show (if (a.map D.int).length + (b.map D.int).length ≤ sizeLine then some (a.map D.int ++ b.map D.int, st) else none) = _
        rw [if_pos (by rw [List.length_map, List.length_map]; exact sz _ (by omega)), List.map_append]
      have ct1 := ct (s.held.take k) vs (by rw [List.length_take]; omega)
      have ct2 := ct (s.held.take k ++ vs) (s.held.drop (k + vs.length)) (by rw [List.length_append, List.length_take, List.length_drop]; omega)
      have hd : (s.put (k : Int) vs).held = s.held.take k ++ vs ++ s.held.drop (k + vs.length) := rfl
      rw [← hd] at ct2
      have low : (st ++ [Cell.lst ((s.put (k : Int) vs).held.map .int)])[i]? = some (staC s j) := app_low _ _ h.obj
      have st1 : ∀ c, (st ++ [Cell.lst ((s.put (k : Int) vs).held.map .int)]).set i c = st.set i c ++ [Cell.lst ((s.put (k : Int) vs).held.map .int)] := fun c => List.set_append_left _ _ h.li
      have g1 : (st.set i (staC (s.put (k : Int) vs) st.length) ++ [Cell.lst ((s.put (k : Int) vs).held.map .int)])[i]? = some (staC (s.put (k : Int) vs) st.length) := app_low _ _ (by rw [List.getElem?_set_self h.li])
      have at2 := attr_ref g1
      have own : (s.put (k : Int) vs).own = s.own := rfl
      have eC : staC (s.put (k : Int) vs) st.length = .ins "Station" ["own", "held", "fixed", "last", "told"] [.int s.own, .ref st.length, tupD s.fixed, frD s.last, frD s.told] := rfl
      have fin' : gcR st (.ok (Ans.done s.own n).d (wrS st i (s.put (k : Int) vs))) = .ok (Ans.done s.own n).d (wrS st i (s.put (k : Int) vs)) := gcR_kept (i := i) (c := staC (s.put (k : Int) vs) st.length) h.li g1 (by
        rw [h.obj]
        unfold staC
        intro z
        have : j = st.length := by simpa using congrArg (fun c => match c with | some (Cell.ins _ _ [_, .ref q, _, _, _]) => q | _ => 0) z
        have := h.lj
        omega) (by simp [staC, Cell.cl, D.clL, D.cl])
      unfold wrS at fin' ⊢
      rw [eC] at at2 fin' ⊢
      unfold staC at low
      generalize (s.put (k : Int) vs).held = hh at *
      unfold tupD at at1 lv A lv2 low at2 fin' ⊢
      simp -implicitDefEqProofs [at1, L, lv, opGt, g', wipeE, A, B, sl1, sl2, lv2, ct1, ct2, low, st1, at2, -List.map_take, -List.map_drop, -List.map_append]
      exact fin'
end
end Pg
/-! Stations: take, change, a new one. -/
namespace Pg
open PySem PySem.Spec PyProof.Rows L2 Ly
theorem ne_fr (f : List Int) (g : Option (List Int)) (st : Sto) : opNe (tupD f) (frD g) st = some (.bl (!decide (some f = g)), st) := by
  cases g with
  | none =>
    show opNe (.tup (f.map .int)) .non st = _
    unfold opNe
    rw [eqOf_good (st := st) (x := .tup (f.map .int)) (y := .non) (good_intsT f) (show D.good .non from ⟨by decide, by decide⟩) rfl]
    simp [top_tup, top, rdOf, lstOf]
  | some g =>
    show opNe (.tup (f.map .int)) (.tup (g.map .int)) st = _
    rw [ne_tup (good_intsT f) (good_intsT g)]
    congr 4
    refine decide_eq_decide.mpr ⟨fun h => ?_, fun h => by cases h; rfl⟩
    exact congrArg some ((List.map_inj_right (fun a b z => by cases z; rfl)).mp h)
theorem in0s (p s : Int) (st : Sto) : opNotInA (.int p) (.tup [.int 0, .int s]) st = some (.bl (!(decide (p = 0) || decide (p = s))), st) := by
  have : opNotIn (.int p) (.tup [.int 0, .int s]) st = some (.bl (!(D.eq (.int 0) (.int p) || (D.eq (.int s) (.int p) || false))), st) := rfl
  unfold opNotInA
  rw [this]
  have e1 : D.eq (.int 0) (.int p) = decide (p = 0) := by simp only [D.eq]; exact decide_eq_decide.mpr eq_comm
  have e2 : D.eq (.int s) (.int p) = decide (p = s) := by simp only [D.eq]; exact decide_eq_decide.mpr eq_comm
  rw [e1, e2, Bool.or_false]
def Sta.take (s : Sta) (f : List Int) : Option (List Int) × Sta := match askIn f with
  | none => (none, s)
  | some (.rd o n t m) => if o = 0 ∨ o = s.own then (some (s.read n t m).frame, s) else (none, s)
  | some (.wr o n t vs) => if o = 0 then (none, s.wst t vs) else if o = s.own then (if some f = s.last then (s.told, s)
    else (some (s.wans n t vs).frame, { s.wst t vs with last := some f, told := some (s.wans n t vs).frame })) else (none, s)
section
variable {st : Sto} {i j : Nat} {s : Sta}
/-- where the bytes stand behind a write -/
def wrJ (st : Sto) (j : Nat) (s : Sta) (t : Int) (vs : List Int) : Nat := if t + vs.length > s.held.length then j else if s.hit t vs.length = true then j else st.length
theorem wrT_at (h : StaAt st i j s) {t : Int} {vs : List Int} (h0 : 0 ≤ t) (hv : Byt vs) : StaAt (wrT st i s t vs) i (wrJ st j s t vs) (s.wst t vs) := by
  unfold wrT wrJ Sta.wst
  split
  · exact h
  · split
    · exact h
    · exact wrS_at h (put_ok h.ok h0 hv (by assumption))
/-- what an operation of a station leaves -/
structure Step (st : Sto) (i j : Nat) (st' : Sto) (j' : Nat) : Prop where
  len : st.length ≤ st'.length
  jj : j' = j ∨ st.length ≤ j'
  keep : ∀ n, n ≠ i → n ≠ j → n < st.length → st'[n]? = st[n]?
theorem Step.refl (st : Sto) (i j : Nat) : Step st i j st j := ⟨Nat.le_refl _, .inl rfl, fun _ _ _ _ => rfl⟩
theorem Step.trans {st st' st2 : Sto} {i j j' j2 : Nat} (a : Step st i j st' j') (b : Step st' i j' st2 j2) : Step st i j st2 j2 :=
  ⟨Nat.le_trans a.len b.len, by
    rcases b.jj with e | e
    · rw [e]; exact a.jj
    · exact .inr (Nat.le_trans a.len e), fun n h1 h2 h3 => by
    rw [b.keep n h1 (by rcases a.jj with e | e; · rw [e]; exact h2
                        · omega) (Nat.lt_of_lt_of_le h3 a.len), a.keep n h1 h2 h3]⟩
theorem wrT_step (st : Sto) (i j : Nat) (s : Sta) (t : Int) (vs : List Int) : Step st i j (wrT st i s t vs) (wrJ st j s t vs) := by
  unfold wrT wrJ
  split
  · exact .refl _ _ _
  · split
    · exact .refl _ _ _
    · refine ⟨by unfold wrS; simp, .inr (Nat.le_refl _), fun n h1 _ h3 => wrS_keep _ h1 h3⟩
theorem set_step {st : Sto} {i j : Nat} (c : Cell) : Step st i j (st.set i c) j := ⟨by rw [List.length_set]; exact Nat.le_refl _, .inl rfl, fun n h1 _ _ => List.getElem?_set_ne (Ne.symm h1)⟩
theorem no_take (h : StaAt st i j s) {d : D} (hd : f_is_frame [d] st = .ok (.bl false) st) : f_Station_take [.ref i, d] st = .ok .non st := by
  unfold f_Station_take b_Station_take
  rw [fn_run (by rfl)]
  simp -implicitDefEqProofs [hd]
  exact gc0
set_option maxHeartbeats 16000000 in
theorem sta_take (h : StaAt st i j s) {f : List Int} (hf : Frame f) : ∃ st' j', f_Station_take [.ref i, tupD f] st = .ok (frD (s.take f).1) st' ∧ StaAt st' i j' (s.take f).2 ∧ Step st i j st' j' := by
  have F : f_is_frame [tupD f] st = .ok (.bl true) st := by
    have := frame_run f st
    rw [hf.is] at this
    exact this
  have A := askIn_run hf st
  have at1 := attr_ref h.obj
  have fn0 : gcR st (.ok .non st) = .ok .non st := gc0
  have finF : ∀ g : List Int, gcR st (.ok (tupD g) st) = .ok (tupD g) st := fun g => gc0 (by simp [tupD, clL_ints])
  unfold f_Station_take b_Station_take Sta.take
  rw [fn_run (by rfl)]
  cases ea : askIn f with
  | none =>
    rw [ea] at A
    refine ⟨st, j, ?_, h, .refl _ _ _⟩
    unfold optD at A
    simp -implicitDefEqProofs [F, A]
    exact fn0
  | some a =>
    rw [ea] at A
    obtain ⟨ok, _⟩ := askIn_some hf ea
    cases a with
    | rd o n t m =>
      simp [Ask.ok, Ask.w] at ok
      unfold optD Ask.d at A
      by_cases c : o = 0 ∨ o = s.own
      · refine ⟨st, j, ?_, by dsimp only; rw [if_pos c]; exact h, .refl _ _ _⟩
        dsimp only
        rw [if_pos c]
        have c' : (decide (o = 0) || decide (o = s.own)) = true := by rw [← Bool.decide_or]; exact decide_eq_true c
        have I := in0s o s.own st
        rw [c'] at I
        have O := isObj_sta h "read" (by decide)
        have R := sta_read h (n := n) (t := t) (m := m) (by omega) (by omega)
        have AF := answer_frame_run (read_ok h.ok (n := n) (t := t) (m := m) (by omega) (by omega) (by omega)) st
        have e1 : ∀ s : Sto, opEq (.str ("read" : Str)) (.str ("read" : Str)) s = some (.bl true, s) := fun _ => rfl
        have eN : ∀ (xs : List D) (s : Sto), opIsN (.tup xs) .non s = some (.bl false, s) := fun _ _ => rfl
        simp -implicitDefEqProofs [F, A, at1, I, e1, eN, asg, setAll, O, R, AF]
        exact finF _
      · refine ⟨st, j, ?_, by dsimp only; rw [if_neg c]; exact h, .refl _ _ _⟩
        dsimp only
        rw [if_neg c]
        have c' : (decide (o = 0) || decide (o = s.own)) = false := by rw [← Bool.decide_or]; exact decide_eq_false c
        have I := in0s o s.own st
        rw [c'] at I
        have eN : ∀ (xs : List D) (s : Sto), opIsN (.tup xs) .non s = some (.bl false, s) := fun _ _ => rfl
        simp -implicitDefEqProofs [F, A, at1, I, eN]
        exact fn0
    | wr o n t vs =>
      simp [Ask.ok, Ask.w] at ok
      have hv : Byt vs := fun x hx => by have := ok.2.2.2.2 x hx; simp [Pg.byt] at this; exact this
      unfold optD Ask.d at A
      have eN : ∀ (xs : List D) (s : Sto), opIsN (.tup xs) .non s = some (.bl false, s) := fun _ _ => rfl
      have e1 : ∀ s : Sto, opEq (.str ("write" : Str)) (.str ("read" : Str)) s = some (.bl false, s) := fun _ => rfl
      have O := isObj_sta h "written" (by decide)
      have W := sta_written h (n := n) (t := t) (vs := vs) (by omega) hv (by omega)
      have WA := wrT_at h (t := t) (by omega) hv
      have WS := wrT_step st i j s t vs
      have wo := wst_own s t vs
      by_cases c0 : o = 0
      · refine ⟨wrT st i s t vs, wrJ st j s t vs, ?_, by dsimp only; rw [if_pos c0]; exact WA, WS⟩
        dsimp only
        rw [if_pos c0]
        have I := in0s o s.own st
        rw [show (decide (o = 0) || decide (o = s.own)) = true by simp [c0]] at I
        have z : ∀ s : Sto, opEq (.int o) (.int 0) s = some (.bl true, s) := fun s => by rw [Ly.eq_int, decide_eq_true c0]
        have fin : gcR st (.ok .non (wrT st i s t vs)) = .ok .non (wrT st i s t vs) := by
          by_cases w : t + vs.length > s.held.length ∨ s.hit t vs.length = true
          · have : wrT st i s t vs = st := by
              unfold wrT
              split
              · rfl
              · rw [if_pos (w.resolve_left (by assumption))]
            rw [this]; exact fn0
          · have hj : wrJ st j s t vs = st.length := by
              unfold wrJ
              rw [if_neg (fun z => w (.inl z)), if_neg (fun z => w (.inr z))]
            rw [hj] at WA
            exact gcR_kept (i := i) h.li WA.obj (by
              rw [h.obj]
              unfold staC
              intro z
              have : j = st.length := by simpa using congrArg (fun c => match c with | some (Cell.ins _ _ [_, .ref q, _, _, _]) => q | _ => 0) z
              have := h.lj
              omega) (by simp [staC, Cell.cl, D.clL, D.cl])
        simp -implicitDefEqProofs [F, A, at1, I, e1, eN, asg, setAll, z, O, W]
        exact fin
      · dsimp only
        rw [if_neg c0]
        have z : ∀ s : Sto, opEq (.int o) (.int 0) s = some (.bl false, s) := fun s => by rw [Ly.eq_int, decide_eq_false c0]
        by_cases c : o = s.own
        · rw [if_pos c]
          have I := in0s o s.own st
          rw [show (decide (o = 0) || decide (o = s.own)) = true by simp [c]] at I
          have N := ne_fr f s.last st
          by_cases l : some f = s.last
          · rw [if_pos l]
            refine ⟨st, j, ?_, h, .refl _ _ _⟩
            rw [decide_eq_true l] at N
            simp -implicitDefEqProofs [F, A, at1, I, e1, eN, asg, setAll, z, N]
            exact gc0 (frD_cl _ _)
          · rw [if_neg l]
            rw [decide_eq_false l] at N
            have AF := answer_frame_run (wans_ok h.ok (n := n) (t := t) (vs := vs) (by omega)) (wrT st i s t vs)
            obtain ⟨S', hS'⟩ : ∃ S' : Sta, S' = { s.wst t vs with last := some f, told := some (s.wans n t vs).frame } := ⟨_, rfl⟩
            rw [← hS']
            have okS : S'.Ok := by
              have k := wst_ok h.ok (show 0 ≤ t by omega) hv
              rw [hS']
              exact ⟨k.own, k.byt, k.len, k.fix, fun g hg => by cases hg; exact Ans.isFrame (wans_ok h.ok (by omega))⟩
            have li := WA.li
            have FA : StaAt ((wrT st i s t vs).set i (staC S' (wrJ st j s t vs))) i (wrJ st j s t vs) S' := ⟨by rw [List.getElem?_set_self li], by
              rw [List.getElem?_set_ne WA.ne, WA.cell, hS'], okS⟩
            refine ⟨(wrT st i s t vs).set i (staC S' (wrJ st j s t vs)), wrJ st j s t vs, ?_, FA, WS.trans (set_step _)⟩
            have g1 := WA.obj
            unfold staC at g1
            have eS : staC S' (wrJ st j s t vs) = .ins "Station" ["own", "held", "fixed", "last", "told"] [.int (s.wst t vs).own, .ref (wrJ st j s t vs), tupD (s.wst t vs).fixed, tupD f, tupD (s.wans n t vs).frame] := by rw [hS']; rfl
            have g2 : ((wrT st i s t vs).set i (.ins "Station" ["own", "held", "fixed", "last", "told"] [.int (s.wst t vs).own, .ref (wrJ st j s t vs), tupD (s.wst t vs).fixed, frD (s.wst t vs).last, tupD (s.wans n t vs).frame]))[i]? = some (.ins "Station" ["own", "held", "fixed", "last", "told"] [.int (s.wst t vs).own, .ref (wrJ st j s t vs), tupD (s.wst t vs).fixed, frD (s.wst t vs).last, tupD (s.wans n t vs).frame]) := by rw [List.getElem?_set_self li]
            have at3 := attr_ref FA.obj
            have fin : gcR st (.ok (tupD (s.wans n t vs).frame) ((wrT st i s t vs).set i (staC S' (wrJ st j s t vs)))) = .ok (tupD (s.wans n t vs).frame) ((wrT st i s t vs).set i (staC S' (wrJ st j s t vs))) := by
              by_cases w : t + vs.length > s.held.length ∨ s.hit t vs.length = true
              · have e1 : wrT st i s t vs = st := by
                  unfold wrT
                  split
                  · rfl
                  · rw [if_pos (w.resolve_left (by assumption))]
                have e2 : wrJ st j s t vs = j := by
                  unfold wrJ
                  split
                  · rfl
                  · rw [if_pos (w.resolve_left (by assumption))]
                rw [e1, e2]
                refine gcR_low (by rw [List.length_set]) (by simp [tupD, clL_ints]) fun m cc hm => ?_
                by_cases e : m = i
                · rw [e, List.getElem?_set_self h.li] at hm
                  cases hm
                  refine .inr ?_
                  simp [staC, Cell.cl, D.clL, D.cl, frD_cl, h.lj, tupD, clL_ints]
                · rw [List.getElem?_set_ne (Ne.symm e)] at hm
                  exact .inl hm
              · have hj : wrJ st j s t vs = st.length := by
                  unfold wrJ
                  rw [if_neg (fun z => w (.inl z)), if_neg (fun z => w (.inr z))]
                rw [hj] at FA ⊢
                exact gcR_kept (i := i) h.li FA.obj (by
                  rw [h.obj]
                  unfold staC
                  intro z
                  have : j = st.length := by simpa using congrArg (fun c => match c with | some (Cell.ins _ _ [_, .ref q, _, _, _]) => q | _ => 0) z
                  have := h.lj
                  omega) (by simp [staC, Cell.cl, D.clL, D.cl])
            rw [eS] at at3 fin ⊢
            have t1 : frD S'.told = tupD (s.wans n t vs).frame := by rw [hS']; rfl
            have t2 : frD (some (s.wans n t vs).frame) = tupD (s.wans n t vs).frame := rfl
            simp -implicitDefEqProofs [F, A, at1, I, e1, eN, asg, setAll, z, N, O, W, AF, g1, g2, at3, t1, t2]
            exact fin
        · rw [if_neg c]
          refine ⟨st, j, ?_, h, .refl _ _ _⟩
          have I := in0s o s.own st
          rw [show (decide (o = 0) || decide (o = s.own)) = false by simp [c, c0]] at I
          simp -implicitDefEqProofs [F, A, at1, I, eN]
          exact fn0
end
end Pg
/-! Stations: change, a new one. -/
namespace Pg
open PySem PySem.Spec PyProof.Rows L2 Ly
@[simp] theorem msubsl_run (o : M D) (lo hi : M (Option Int)) (v : M D) (e : Ev) (st : Sto) : msubsl o lo hi v e st = (v e st).toS e fun x st1 => (o e st1).toS e fun y st2 => (lo e st2).toS e fun l st3 => (hi e st3).toS e fun h st4 => match y, x, l, h with
  | .ref i, .lst ys, some a, some b => (match st4[i]? with
    | some (.lst xs) => if 0 ≤ a ∧ a ≤ b ∧ b ≤ (xs.length : Int) ∧ xs.length + ys.length ≤ sizeLine then .nx e (st4.set i (.lst (xs.take a.toNat ++ ys ++ xs.drop b.toNat))) else .bad
    | _ => .bad)
  | _, _, _, _ => .bad := by
  unfold msubsl; rw [mk_run]; congr
theorem okN_ans (n : Nat) (a : Ans) : okN (n + 2) a.d := by
  have w : ∀ b, okN (n + 1) (.str (Ans.word b)) := fun b => by cases b <;> exact okN_str _ (by decide +kernel)
  cases a with
  | vals o m vs =>
    refine okN_tup fun x hx => ?_
    simp at hx
    rcases hx with rfl | rfl | rfl | rfl
    · exact okN_str _ (by decide +kernel)
    · exact okN_int _ _
    · exact okN_int _ _
    · exact okN_tupD _ _
  | done o m =>
    refine okN_tup fun x hx => ?_
    simp at hx
    rcases hx with rfl | rfl | rfl
    · exact okN_str _ (by decide +kernel)
    · exact okN_int _ _
    · exact okN_int _ _
  | un b o m y =>
    refine okN_tup fun x hx => ?_
    simp at hx
    rcases hx with rfl | rfl | rfl | rfl
    · exact w b
    · exact okN_int _ _
    · exact okN_int _ _
    · exact okN_int _ _
theorem ne_ans (a : Ans) (st : Sto) : opNe a.d a.d st = some (.bl false, st) := ne_refl (okN_ans 58 a) (by cases a <;> rfl)
theorem non_frame (st : Sto) : f_is_frame [.non] st = .ok (.bl false) st := by
  unfold f_is_frame b_is_frame
  rw [fn_run (by rfl)]
  have t : opIsi ["tuple"] .non st = some (.bl false, st) := rfl
  simp -implicitDefEqProofs [t]
  exact gc0
/-- places, rising -/
theorem fixed_run {ws : List Int} {n : Int} (h1 : ∀ x ∈ ws, 0 ≤ x ∧ x ≤ n - 1) (hs : ws.Pairwise (· < ·)) (hl : ws.length ≤ 100) (st : Sto) : f_are_fixed [tupD ws, .int n] st = .ok (.bl true) st := by
  unfold f_are_fixed b_are_fixed tupD
  rw [fn_run (by rfl)]
  have A : loopC (fun _ => true) (.nm 2) (ret true) (callF Pg.f_is_whole (args [(mvar 2), (ret (.int 0)), (bin opSub (mvar 1) (ret (.int 1)))])) [some (.tup (ws.map .int)), some (.int n), none, none] (ws.map .int) st = .ok (ws.map fun _ => .bl true) st :=
    loopC_all rfl D.int (fun _ => D.bl true) (fun x => [some (.tup (ws.map .int)), some (.int n), some (.int x), none]) ws fun x hx => ⟨rfl, by
      have := h1 x hx
      have w := whole_run x 0 (n - 1) st
      rw [decide_eq_true this.1, decide_eq_true this.2] at w
      simp -implicitDefEqProofs [w]⟩
  have B : loopC (fun _ => true) (.tp [2, 3]) (ret true) (bin opLt (mvar 2) (mvar 3)) [some (.tup (ws.map .int)), some (.int n), none, none] ((ws.zip ws.tail).map fun p => D.tup [D.int p.1, D.int p.2]) st = .ok ((ws.zip ws.tail).map fun _ => .bl true) st :=
    loopC_all rfl (fun p : Int × Int => D.tup [D.int p.1, D.int p.2]) (fun _ => D.bl true) (fun p => [some (.tup (ws.map .int)), some (.int n), some (.int p.1), some (.int p.2)]) (ws.zip ws.tail) fun p hp => ⟨rfl, by
      obtain ⟨i, hi, rfl⟩ := List.mem_iff_getElem.mp hp
      have hi2 : i + 1 < ws.length := by simp at hi; omega
      have := List.pairwise_iff_getElem.mp hs i (i + 1) (by omega) hi2 (by omega)
      simp [opLt]
      omega⟩
  have C : cut (ws.map D.int) (some 1) none = ws.tail.map D.int := by rw [cut_map, ← List.drop_one]; exact congrArg _ (cut_from ws 1)
  have t : opIsi ["tuple"] (.tup (ws.map .int)) st = some (.bl true, st) := rfl
  have z : ws.length ≤ sizeLine := sz _ (by omega)
  simp -implicitDefEqProofs [t, wipeE, A, C, isTup, pairs_map, B, -List.map_tail]
  rw [List.all_eq_true.mpr (fun _ _ => rfl)]
  exact gc0
section
variable {st : Sto} {i j : Nat} {s : Sta}
def Sta.chg (s : Sta) (t : Nat) (v : Int) : Sta := { s with held := s.held.set t v }
theorem chg_ok (k : s.Ok) {t : Nat} {v : Int} (hv : 0 ≤ v ∧ v ≤ 255) : (s.chg t v).Ok := ⟨k.own, fun x hx => by
  rcases List.mem_or_eq_of_mem_set hx with h | h
  · exact k.byt x h
  · rw [h]; exact hv, by show 1 ≤ (s.held.set t v).length ∧ (s.held.set t v).length ≤ 16; rw [List.length_set]; exact k.len, k.fix, k.told⟩
theorem chg_at (h : StaAt st i j s) {t : Nat} {v : Int} (hv : 0 ≤ v ∧ v ≤ 255) : StaAt (st.set j (.lst ((s.held.set t v).map .int))) i j (s.chg t v) :=
  ⟨by rw [List.getElem?_set_ne h.ne.symm]; exact h.obj, by rw [List.getElem?_set_self h.lj]; rfl, chg_ok h.ok hv⟩
theorem sta_change (h : StaAt st i j s) {t : Nat} {v : Int} (ht : t < s.held.length) (hv : 0 ≤ v ∧ v ≤ 255) : f_Station_change [.ref i, .int t, .int v] st = .ok .non (st.set j (.lst ((s.held.set t v).map .int))) := by
  have at1 := attr_ref h.obj
  have L := (Ints.ref h.cell).len
  have w1 := whole_run (t : Int) 0 ((s.held.length : Int) - 1) st
  rw [decide_eq_true (by omega), decide_eq_true (by omega)] at w1
  have w2 := whole_run v 0 255 st
  rw [decide_eq_true hv.1, decide_eq_true hv.2] at w2
  have ix : ixN (s.held.map D.int).length (t : Int) = some t := by
    unfold ixN
    rw [if_pos (by omega), Int.toNat_natCast, if_pos (by rw [List.length_map]; omega)]
  have c := h.cell
  unfold f_Station_change b_Station_change
  rw [fn_run (by rfl)]
  rw [List.length_map] at ix
  simp -implicitDefEqProofs [at1, L, w1, w2, c, ix, -List.map_set]
  rw [← List.map_set]
  refine gcR_low (by rw [List.length_set]) (by simp) fun m cc hm => ?_
  by_cases e : m = j
  · rw [e, List.getElem?_set_self h.lj] at hm
    cases hm
    exact .inr (clL_ints _ _)
  · rw [List.getElem?_set_ne (Ne.symm e)] at hm
    exact .inl hm
theorem chg_step (t : Nat) (v : Int) : Step st i j (st.set j (.lst ((s.held.set t v).map .int))) j := ⟨by rw [List.length_set]; exact Nat.le_refl _, .inl rfl, fun n _ h2 _ => List.getElem?_set_ne (Ne.symm h2)⟩
end
theorem sta_new {own : Int} {held fixed : List Int} (h1 : 1 ≤ own ∧ own ≤ 99) (h2 : Byt held) (h3 : 1 ≤ held.length ∧ held.length ≤ 16) (h4 : ∀ x ∈ fixed, 0 ≤ x ∧ x < (held.length : Int)) (h5 : fixed.Pairwise (· < ·)) (h6 : fixed.length ≤ 100) (st : Sto) :
    newO "Station" f_Station_init [.int own, tupD held, tupD fixed] st = .ok (.ref st.length) (st ++ [staC ⟨own, held, fixed, none, none⟩ (st.length + 1), .lst (held.map .int)]) ∧
    StaAt (st ++ [staC ⟨own, held, fixed, none, none⟩ (st.length + 1), .lst (held.map .int)]) st.length (st.length + 1) ⟨own, held, fixed, none, none⟩ := by
  refine ⟨?_, by simp, by simp, ⟨h1, h2, h3, h6, fun f hf => by cases hf⟩⟩
  have F : f_Station_init [.ref st.length, .int own, tupD held, tupD fixed] (st ++ [.ins "Station" [] []]) = .ok .non (st ++ [staC ⟨own, held, fixed, none, none⟩ (st.length + 1), .lst (held.map .int)]) := by
    unfold f_Station_init b_Station_init
    rw [fn_run (by rfl)]
    have w1 := whole_run own 1 99 (st ++ [.ins "Station" [] []])
    rw [decide_eq_true h1.1, decide_eq_true h1.2] at w1
    have B := bytes_run (Ints.tup (st := st ++ [.ins "Station" [] []]) held) 1 16
    rw [decide_eq_true (by omega), decide_eq_true (by omega), byt_all h2] at B
    have X := fixed_run (n := (held.length : Int)) (fun x hx => by have := h4 x hx; omega) h5 h6 (st ++ [.ins "Station" [] []])
    have t : opIsi ["tuple"] (tupD held) (st ++ [.ins "Station" [] []]) = some (.bl true, st ++ [.ins "Station" [] []]) := rfl
    have L := (Ints.tup (st := st ++ [.ins "Station" [] []]) held).len
    have k1 : putK "own" ([] : List Str) = (["own"] : List Str) := rfl
    have k2 : putK "held" (["own"] : List Str) = (["own", "held"] : List Str) := rfl
    have k3 : putK "fixed" (["own", "held"] : List Str) = (["own", "held", "fixed"] : List Str) := rfl
    have k4 : putK "last" (["own", "held", "fixed"] : List Str) = (["own", "held", "fixed", "last"] : List Str) := rfl
    have k5 : putK "told" (["own", "held", "fixed", "last"] : List Str) = (["own", "held", "fixed", "last", "told"] : List Str) := rfl
    have x1 : ∀ d, putX "own" d [] [] = [d] := fun _ => rfl
    have x2 : ∀ d a, putX "held" d ["own"] [a] = [a, d] := fun _ _ => rfl
    have x3 : ∀ d a b, putX "fixed" d ["own", "held"] [a, b] = [a, b, d] := fun _ _ _ => rfl
    have x4 : ∀ d a b c, putX "last" d ["own", "held", "fixed"] [a, b, c] = [a, b, c, d] := fun _ _ _ _ => rfl
    have x5 : ∀ d a b c e, putX "told" d ["own", "held", "fixed", "last"] [a, b, c, e] = [a, b, c, e, d] := fun _ _ _ _ _ => rfl
    have Lt : ∀ s, fList [tupD held] s = some (held.map .int, s) := fun s => (Ints.tup (st := s) held).list
    unfold tupD at X t L Lt ⊢
    simp -implicitDefEqProofs [w1, t, B, X, L, Lt, k1, k2, k3, k4, k5, x1, x2, x3, x4, x5]
    exact gcR_kept (i := st.length) (c := staC ⟨own, held, fixed, none, none⟩ (st.length + 1)) (by simp) (by simp; rfl) (by simp [staC]) (by simp [Cell.cl, staC, D.cl, D.clL])
  unfold newO
  rw [F]
end Pg
/-! Shared computations. -/
namespace Pg
open PySem PySem.Spec PyProof.Rows L2 Ly
def b_Line_init : MS := (mblock [(mcond (mor (mnot (tst (un (opIsi ["list", "tuple"]) (mvar 2)))) (mnot (tst (calls fAll (args [(tree (comp (walk (mvar 2)) (.nm 3) [3] (ret true) (vand (un (opIsi ["str"]) (mvar 3)) (bin opInA (mvar 3) (ret (.tup (List.map .str [("well" : Str), ("lost" : Str), ("spoilt" : Str), ("late" : Str)])))))))]))))) (mblock [(mraise ("NoNumber" : Str))]) (mblock [])),
  (mfld "Line" "stations" (mvar 0) (box (calls fList (args [(mvar 1)])))),
  (mfld "Line" "marks" (mvar 0) (box (calls fList (args [(mvar 2)])))),
  (mfld "Line" "gone" (mvar 0) (ret (.int 0))),
  (mfld "Line" "waiting" (mvar 0) (box (dlst [])))])
def f_Line_init : List D → Sto → R D := fn 3 4 b_Line_init
def b_Line_next_mark : MS := (mblock [(mcond (tst (bin opEq (un (attrD "Line" "gone") (mvar 0)) (calls fLen (args [(un (attrD "Line" "marks") (mvar 0))])))) (mblock [(mret (ret (.str ("well" : Str))))]) (mblock [])),
  (mfld "Line" "gone" (mvar 0) (bin opAdd (un (attrD "Line" "gone") (mvar 0)) (ret (.int 1)))),
  (mret (bin opIx (un (attrD "Line" "marks") (mvar 0)) (bin opSub (un (attrD "Line" "gone") (mvar 0)) (ret (.int 1)))))])
def f_Line_next_mark : List D → Sto → R D := fn 1 1 b_Line_next_mark
def b_Line_used : MS := (mblock [(mret (un (attrD "Line" "gone") (mvar 0)))])
def f_Line_used : List D → Sto → R D := fn 1 1 b_Line_used
def b_Line_back : MS := (mblock [(mset 3 (callO "Line" "next_mark" Pg.f_Line_next_mark (mvar 0) (args []))),
  (mcond (tst (bin opEq (mvar 3) (ret (.str ("well" : Str))))) (mblock [(mdo (meth "list" fAppend (mvar 2) (args [(mvar 1)])))]) (mblock [(mcond (tst (bin opEq (mvar 3) (ret (.str ("spoilt" : Str))))) (mblock [(mdo (meth "list" fAppend (mvar 2) (args [(bin opAdd (dtup [(bin opMod (bin opAdd (bin opIx (mvar 1) (ret (.int 0))) (ret (.int 1))) (ret (.int 256)))]) (slice opSl (mvar 1) (part (ret (.int 1))) (ret none)))])))]) (mblock [(mcond (tst (bin opEq (mvar 3) (ret (.str ("late" : Str))))) (mblock [(mdo (meth "list" fAppend (un (attrD "Line" "waiting") (mvar 0)) (args [(mvar 1)])))]) (mblock []))]))]))])
def f_Line_back : List D → Sto → R D := fn 3 4 b_Line_back
def b_Line_send : MS := (mblock [(mdo (callF Pg.f_look_frame (args [(mvar 1)]))),
  (mset 2 (un (attrD "Line" "waiting") (mvar 0))),
  (mfld "Line" "waiting" (mvar 0) (box (dlst []))),
  (mset 3 (callO "Line" "next_mark" Pg.f_Line_next_mark (mvar 0) (args []))),
  (mcond (tst (bin opInA (mvar 3) (dtup [(ret (.str ("well" : Str))), (ret (.str ("late" : Str)))]))) (mblock [(mpre [4, 5] (mfor (walk (un (attrD "Line" "stations") (mvar 0))) (.nm 4) (mdrop [4, 5] (mblock [(mset 5 (callO "Station" "take" Pg.f_Station_take (mvar 4) (args [(mvar 1)]))),
  (mcond (mand (tst (bin opNotN (mvar 5) (ret .non))) (tst (bin opEq (mvar 3) (ret (.str ("well" : Str)))))) (mblock [(mdo (callO "Line" "back" Pg.f_Line_back (mvar 0) (args [(mvar 5), (mvar 2)])))]) (mblock []))]))))]) (mblock [])),
  (mret (mvar 2))])
def f_Line_send : List D → Sto → R D := fn 2 6 b_Line_send
end Pg
/-! Lines with one station. -/
namespace Pg
open PySem PySem.Spec PyProof.Rows L2 Ly
@[simp] theorem lkN1 (a b c d : D) : lk ["stations", "marks", "gone", "waiting"] [a, b, c, d] "stations" = some a := rfl
@[simp] theorem lkN2 (a b c d : D) : lk ["stations", "marks", "gone", "waiting"] [a, b, c, d] "marks" = some b := rfl
@[simp] theorem lkN3 (a b c d : D) : lk ["stations", "marks", "gone", "waiting"] [a, b, c, d] "gone" = some c := rfl
@[simp] theorem lkN4 (a b c d : D) : lk ["stations", "marks", "gone", "waiting"] [a, b, c, d] "waiting" = some d := rfl
@[simp] theorem pkN3 : putK "gone" (["stations", "marks", "gone", "waiting"] : List Str) = (["stations", "marks", "gone", "waiting"] : List Str) := rfl
@[simp] theorem pkN4 : putK "waiting" (["stations", "marks", "gone", "waiting"] : List Str) = (["stations", "marks", "gone", "waiting"] : List Str) := rfl
@[simp] theorem pxN3 (a b c d x : D) : putX "gone" x ["stations", "marks", "gone", "waiting"] [a, b, c, d] = [a, b, x, d] := rfl
@[simp] theorem pxN4 (a b c d x : D) : putX "waiting" x ["stations", "marks", "gone", "waiting"] [a, b, c, d] = [a, b, c, x] := rfl
structure Lin where
  marks : List Str
  gone : Nat
  waiting : List (List Int)
def linC (L : Lin) (a b w : Nat) : Cell := .ins "Line" ["stations", "marks", "gone", "waiting"] [.ref a, .ref b, .int (L.gone : Int), .ref w]
structure Lin.Ok (L : Lin) : Prop where
  gone : L.gone ≤ L.marks.length
  ml : L.marks.length ≤ 1000
  wl : L.waiting.length ≤ 1000
/-- the line's own cells -/
structure LinAt (st : Sto) (p a b w : Nat) (L : Lin) : Prop where
  obj : st[p]? = some (linC L a b w)
  mks : st[b]? = some (.lst (L.marks.map .str))
  wai : st[w]? = some (.lst (L.waiting.map tupD))
  wb : w ≠ b
  ok : L.Ok
theorem LinAt.lp {st : Sto} {p a b w : Nat} {L : Lin} (h : LinAt st p a b w L) : p < st.length := (List.getElem?_eq_some_iff.mp h.obj).1
theorem LinAt.lb {st : Sto} {p a b w : Nat} {L : Lin} (h : LinAt st p a b w L) : b < st.length := (List.getElem?_eq_some_iff.mp h.mks).1
theorem LinAt.lw {st : Sto} {p a b w : Nat} {L : Lin} (h : LinAt st p a b w L) : w < st.length := (List.getElem?_eq_some_iff.mp h.wai).1
theorem LinAt.pb {st : Sto} {p a b w : Nat} {L : Lin} (h : LinAt st p a b w L) : p ≠ b := fun z => by
  have h1 := h.mks
  rw [← z, h.obj] at h1
  cases h1
theorem LinAt.pw {st : Sto} {p a b w : Nat} {L : Lin} (h : LinAt st p a b w L) : p ≠ w := fun z => by
  have h1 := h.wai
  rw [← z, h.obj] at h1
  cases h1
theorem LinAt.keep {st st' : Sto} {p a b w : Nat} {L : Lin} (h : LinAt st p a b w L) (k : ∀ n, n = p ∨ n = b ∨ n = w → st'[n]? = st[n]?) : LinAt st' p a b w L :=
  ⟨by rw [k p (.inl rfl)]; exact h.obj, by rw [k b (.inr (.inl rfl))]; exact h.mks, by rw [k w (.inr (.inr rfl))]; exact h.wai, h.wb, h.ok⟩
theorem isObj_lin {st : Sto} {p a b w : Nat} {L : Lin} (h : LinAt st p a b w L) (m : Str) (hm : m ∉ (["stations", "marks", "gone", "waiting"] : List Str)) : Ly.isObj "Line" m st (.ref p) = true := by
  unfold Ly.isObj
  dsimp only
  rw [h.obj]
  unfold linC
  simp [hm]
def Lin.mark (L : Lin) : Str := if L.gone = L.marks.length then ("well" : Str) else L.marks.getD L.gone ("well" : Str)
def Lin.next (L : Lin) : Lin := if L.gone = L.marks.length then L else { L with gone := L.gone + 1 }
def bump (f : List Int) : List Int := (f.getD 0 0 + 1) % 256 :: f.drop 1
def Lin.back (L : Lin) (heard : List (List Int)) (g : List Int) : Lin × List (List Int) :=
  if L.mark = ("well" : Str) then (L.next, heard ++ [g]) else if L.mark = ("spoilt" : Str) then (L.next, heard ++ [bump g])
  else if L.mark = ("late" : Str) then ({ L.next with waiting := L.next.waiting ++ [g] }, heard) else (L.next, heard)
theorem next_ok {L : Lin} (k : L.Ok) : L.next.Ok := by
  unfold Lin.next
  split
  · exact k
  · exact ⟨by have := k.gone; show L.gone + 1 ≤ L.marks.length; omega, k.ml, k.wl⟩
theorem next_marks (L : Lin) : L.next.marks = L.marks ∧ L.next.waiting = L.waiting := by
  unfold Lin.next
  split <;> exact ⟨rfl, rfl⟩
section
variable {st : Sto} {p a b w : Nat} {L : Lin}
theorem lin_used (h : LinAt st p a b w L) : f_Line_used [.ref p] st = .ok (.int (L.gone : Int)) st := by
  unfold f_Line_used b_Line_used
  rw [fn_run (by rfl)]
  have at1 := attr_ref h.obj
  simp -implicitDefEqProofs [at1]
  exact gc0
theorem next_at (h : LinAt st p a b w L) : LinAt (st.set p (linC L.next a b w)) p a b w L.next := by
  have n := next_marks L
  exact ⟨by rw [List.getElem?_set_self h.lp], by rw [List.getElem?_set_ne h.pb, h.mks, n.1], by rw [List.getElem?_set_ne h.pw, h.wai, n.2], h.wb, next_ok h.ok⟩
theorem lin_next (h : LinAt st p a b w L) : f_Line_next_mark [.ref p] st = .ok (.str L.mark) (st.set p (linC L.next a b w)) := by
  unfold f_Line_next_mark b_Line_next_mark Lin.mark
  rw [fn_run (by rfl)]
  have at1 := attr_ref h.obj
  have N := next_at h
  have lm := len_ref h.mks
  rw [List.length_map] at lm
  by_cases g : L.gone = L.marks.length
  · have e : L.next = L := by unfold Lin.next; rw [if_pos g]
    have e2 : st.set p (linC L.next a b w) = st := by
      rw [e]
      have := List.getElem?_eq_some_iff.mp h.obj
      obtain ⟨h1, h2⟩ := this
      rw [← h2, List.set_getElem_self]
    rw [if_pos g, e2]
    simp -implicitDefEqProofs [at1, lm, g]
    exact gc0
  · have e : L.next = { L with gone := L.gone + 1 } := by unfold Lin.next; rw [if_neg g]
    have gl := h.ok.gone
    have g2 : L.gone < L.marks.length := by omega
    rw [if_neg g]
    have g3 : ¬ ((L.gone : Int) = (L.marks.length : Int)) := by omega
    have ob := h.obj
    unfold linC at ob
    have at2 := attr_ref N.obj
    have m2 := N.mks
    have eC : linC L.next a b w = .ins "Line" ["stations", "marks", "gone", "waiting"] [.ref a, .ref b, .int ((L.gone : Int) + 1), .ref w] := by rw [e]; rfl
    have eg : ((L.next.gone : Nat) : Int) = (L.gone : Int) + 1 := by rw [e]; rfl
    have em : L.next.marks = L.marks := (next_marks L).1
    have ix : opIx (.ref b) (.int (L.gone : Int)) (st.set p (linC L.next a b w)) = some (.str (L.marks.getD L.gone ("well" : Str)), st.set p (linC L.next a b w)) := by
      rw [em] at m2
      have q : atI (L.marks.map D.str) (L.gone : Int) = some (.str (L.marks.getD L.gone ("well" : Str))) := atI_map' D.str _ _ _ (by
        rw [List.getD_eq_getElem?_getD, List.getElem?_eq_getElem g2]; rfl)
      rw [opIx_ref m2, q]; rfl
    have fin : gcR st (.ok (.str (L.marks.getD L.gone ("well" : Str))) (st.set p (linC L.next a b w))) = .ok (.str (L.marks.getD L.gone ("well" : Str))) (st.set p (linC L.next a b w)) := by
      have la : ∀ n, D.cl st.length (.ref n) = true ↔ n < st.length := fun n => by simp [D.cl]
      by_cases ha : a < st.length
      · refine gcR_low (by rw [List.length_set]) (by simp) fun m cc hm => ?_
        by_cases e : m = p
        · rw [e, List.getElem?_set_self h.lp] at hm
          cases hm
          refine .inr ?_
          simp [linC, Cell.cl, D.clL, D.cl, ha, h.lb, h.lw]
        · rw [List.getElem?_set_ne (Ne.symm e)] at hm
          exact .inl hm
      · refine gcR_kept (i := p) (c := linC L.next a b w) h.lp (by rw [List.getElem?_set_self h.lp]) ?_ (by simp [linC, Cell.cl, D.clL, D.cl, ha])
        rw [h.obj, e]
        unfold linC
        simp
        omega
    have at3 : ∀ f, attrD "Line" f (.ref p) (st.set p (.ins "Line" ["stations", "marks", "gone", "waiting"] [.ref a, .ref b, .int ((L.gone : Int) + 1), .ref w])) = (lk ["stations", "marks", "gone", "waiting"] [.ref a, .ref b, .int ((L.gone : Int) + 1), .ref w] f).map fun d => (d, st.set p (.ins "Line" ["stations", "marks", "gone", "waiting"] [.ref a, .ref b, .int ((L.gone : Int) + 1), .ref w])) := fun f => attr_ref (by rw [List.getElem?_set_self h.lp]) f
    rw [eC] at ix fin ⊢
    simp -implicitDefEqProofs [at1, lm, g3, ob, at3, ix, fin, -List.getD_eq_getElem?_getD]
theorem bump_run {f : List Int} (hf : Frame f) (s : Sto) : opIx (tupD f) (.int 0) s = some (.int (f.getD 0 0), s) ∧ opSl (some 1) none (tupD f) s = some (.tup ((f.drop 1).map .int), s) ∧ (f.drop 1).length ≤ 19 := by
  have l := hf.l2
  have l2 := hf.l20
  refine ⟨?_, ?_, by rw [List.length_drop]; omega⟩
  · show (atI (f.map D.int) 0).map _ = _
    rw [atI_map f 0 (by decide) (by omega)]
    rfl
  · show some (D.tup (cut (f.map D.int) (some 1) none), s) = _
    rw [cut_map, show (1 : Int) = ((1 : Nat) : Int) from rfl, cut_from]
theorem linC_cl {L : Lin} {a b w n : Nat} (ha : a < n) (hb : b < n) (hw : w < n) : (linC L a b w).cl n = true := by
  simp [linC, Cell.cl, D.clL, D.cl, ha, hb, hw]
theorem tups_cl (l : List (List Int)) (n : Nat) : (Cell.lst (l.map tupD)).cl n = true := cl_tups _ _
/-- an answer goes back -/
theorem lin_back (h : LinAt st p a b w L) {hd : Nat} {heard : List (List Int)} {g : List Int} (hg : Frame g) (hh : st[hd]? = some (.lst (heard.map tupD))) (hl : heard.length ≤ 1000) (hw : L.waiting.length < 1000) (h1 : hd ≠ b) (h2 : hd ≠ w) (ha : a < st.length) :
    ∃ st', f_Line_back [.ref p, tupD g, .ref hd] st = .ok .non st' ∧ LinAt st' p a b w (L.back heard g).1 ∧ st'[hd]? = some (.lst ((L.back heard g).2.map tupD)) ∧ st'.length = st.length ∧ ∀ n, n ≠ p → n ≠ w → n ≠ hd → st'[n]? = st[n]? := by
  have N := next_at h
  have O := isObj_lin h "next_mark" (by decide)
  have NM := lin_next h
  have hp : hd ≠ p := fun z => by
    rw [z, h.obj] at hh
    cases hh
  have hh1 : (st.set p (linC L.next a b w))[hd]? = some (.lst (heard.map tupD)) := by rw [List.getElem?_set_ne (Ne.symm hp)]; exact hh
  have lhd := (List.getElem?_eq_some_iff.mp hh).1
  have lhd1 : hd < (st.set p (linC L.next a b w)).length := by rw [List.length_set]; exact lhd
  obtain ⟨st1, e1⟩ : ∃ st1, st1 = st.set p (linC L.next a b w) := ⟨_, rfl⟩
  rw [← e1] at N NM hh1 lhd1
  have hz : (heard.map tupD).length < sizeLine := by rw [List.length_map]; exact sz_lt _ (by omega)
  have ap := fun d => append_ref hh1 hz d
  have i1 := isOf_ref hh1
  have wz : (L.next.waiting.map tupD).length < sizeLine := by rw [List.length_map, (next_marks L).2]; exact sz_lt _ (by omega)
  have apw := fun d => append_ref N.wai wz d
  have i2 := isOf_ref N.wai
  have at1 := attr_ref N.obj
  have len1 : st1.length = st.length := by rw [e1, List.length_set]
  have k1 : ∀ n, n ≠ p → st1[n]? = st[n]? := fun n hn => by rw [e1, List.getElem?_set_ne (Ne.symm hn)]
  have lw1 : w < st1.length := N.lw
  have gc : ∀ (q : Nat) (c : Cell), c.cl st.length = true → gcR st (.ok .non (st1.set q c)) = .ok .non (st1.set q c) := fun q c hc => by
    refine gcR_low (by rw [List.length_set, len1]) (by simp) fun m cc hm => ?_
    by_cases e : m = q
    · by_cases lq : q < st1.length
      · rw [e, List.getElem?_set_self lq] at hm
        cases hm
        exact .inr hc
      · rw [e, List.getElem?_eq_none (by rw [List.length_set]; omega)] at hm
        cases hm
    · rw [List.getElem?_set_ne (Ne.symm e)] at hm
      by_cases e2 : m = p
      · rw [e2, N.obj] at hm
        cases hm
        exact .inr (linC_cl ha h.lb h.lw)
      · rw [k1 m e2] at hm
        exact .inl hm
  obtain ⟨b0, b1, b2⟩ := bump_run hg st1
  unfold f_Line_back b_Line_back Lin.back
  rw [fn_run (by rfl)]
  by_cases mw : L.mark = ("well" : Str)
  · rw [if_pos mw]
    rw [mw] at NM
    refine ⟨st1.set hd (.lst ((heard ++ [g]).map tupD)), ?_, N.keep fun n hn => List.getElem?_set_ne (by rcases hn with rfl | rfl | rfl <;> assumption), List.getElem?_set_self lhd1, by rw [List.length_set, len1], fun n n1 n2 n3 => by rw [List.getElem?_set_ne (Ne.symm n3), k1 n n1]⟩
    have G := gc hd _ (tups_cl (heard ++ [g]) st.length)
    rw [List.map_append] at G ⊢
    simp -implicitDefEqProofs [O, NM, ap, i1]
    exact G
  · rw [if_neg mw]
    by_cases ms : L.mark = ("spoilt" : Str)
    · rw [if_pos ms]
      rw [ms] at NM
      refine ⟨st1.set hd (.lst ((heard ++ [bump g]).map tupD)), ?_, N.keep fun n hn => List.getElem?_set_ne (by rcases hn with rfl | rfl | rfl <;> assumption), List.getElem?_set_self lhd1, by rw [List.length_set, len1], fun n n1 n2 n3 => by rw [List.getElem?_set_ne (Ne.symm n3), k1 n n1]⟩
      have G := gc hd _ (tups_cl (heard ++ [bump g]) st.length)
      have zz : 1 + (g.drop 1).length ≤ sizeLine := sz _ (by omega)
      have ad : opAdd (.tup [.int ((g.getD 0 0 + 1) % 256)]) (.tup ((g.drop 1).map .int)) st1 = some (tupD (bump g), st1) := by
        show (if 1 + ((g.drop 1).map D.int).length ≤ sizeLine then some (D.tup ([.int ((g.getD 0 0 + 1) % 256)] ++ (g.drop 1).map .int), st1) else none) = _
        rw [if_pos (by rw [List.length_map]; exact zz)]; rfl
      rw [show (heard ++ [bump g]).map tupD = heard.map tupD ++ [tupD (bump g)] from by rw [List.map_append]; rfl] at G ⊢
      have e1 : ∀ s, opEq (.str ("spoilt" : Str)) (.str ("well" : Str)) s = some (.bl false, s) := fun _ => rfl
      have e2 : ∀ s, opEq (.str ("spoilt" : Str)) (.str ("spoilt" : Str)) s = some (.bl true, s) := fun _ => rfl
      generalize hgd : (g.drop 1).map D.int = gd at *
      generalize hg0 : g.getD 0 0 = g0 at *
      have am : ∀ s, opMod (.int (g0 + 1)) (.int 256) s = some (.int ((g0 + 1) % 256), s) := fun _ => rfl
      have gl : 1 + gd.length ≤ sizeLine := by rw [← hgd, List.length_map]; exact zz
      have tb : tupD (bump g) = .tup (.int ((g0 + 1) % 256) :: gd) := by
        unfold bump
        rw [hg0, ← hgd]; rfl
      rw [tb] at G ⊢
      simp -implicitDefEqProofs [O, NM, e1, e2, b0, am, b1, gl, ap, i1]
      exact G
    · rw [if_neg ms]
      by_cases ml : L.mark = ("late" : Str)
      · rw [if_pos ml]
        rw [ml] at NM
        have e1 : ∀ s, opEq (.str ("late" : Str)) (.str ("well" : Str)) s = some (.bl false, s) := fun _ => rfl
        have e2 : ∀ s, opEq (.str ("late" : Str)) (.str ("spoilt" : Str)) s = some (.bl false, s) := fun _ => rfl
        have e3 : ∀ s, opEq (.str ("late" : Str)) (.str ("late" : Str)) s = some (.bl true, s) := fun _ => rfl
        have W : LinAt (st1.set w (.lst ((L.next.waiting ++ [g]).map tupD))) p a b w { L.next with waiting := L.next.waiting ++ [g] } :=
          ⟨by rw [List.getElem?_set_ne h.pw.symm]; exact N.obj, by rw [List.getElem?_set_ne N.wb]; exact N.mks, List.getElem?_set_self lw1, N.wb, N.ok.gone, N.ok.ml, by
            show (L.next.waiting ++ [g]).length ≤ 1000
            rw [List.length_append, (next_marks L).2]; simp; omega⟩
        refine ⟨st1.set w (.lst ((L.next.waiting ++ [g]).map tupD)), ?_, W, by rw [List.getElem?_set_ne (Ne.symm h2)]; exact hh1, by rw [List.length_set, len1], fun n n1 n2 n3 => by rw [List.getElem?_set_ne (Ne.symm n2), k1 n n1]⟩
        have G := gc w _ (tups_cl (L.next.waiting ++ [g]) st.length)
        rw [List.map_append] at G ⊢
        simp -implicitDefEqProofs [O, NM, e1, e2, e3, at1, apw, i2]
        exact G
      · rw [if_neg ml]
        refine ⟨st1, ?_, N, hh1, len1, fun n n1 n2 n3 => k1 n n1⟩
        have G := gc st1.length default (by rfl)
        rw [List.set_eq_of_length_le (Nat.le_refl _)] at G
        simp -implicitDefEqProofs [O, NM, mw, ms, ml]
        exact G
/-- one frame over a line with one station -/
def Lin.send (L : Lin) (s : Sta) (f : List Int) : List (List Int) × Lin × Sta :=
  if L.mark = ("well" : Str) then (match (s.take f).1 with
    | some g => ((({ L.next with waiting := [] } : Lin).back L.waiting g).2, (({ L.next with waiting := [] } : Lin).back L.waiting g).1, (s.take f).2)
    | none => (L.waiting, { L.next with waiting := [] }, (s.take f).2))
  else if L.mark = ("late" : Str) then (L.waiting, { L.next with waiting := [] }, (s.take f).2)
  else (L.waiting, { L.next with waiting := [] }, s)
theorem in_wl (m : Str) (st : Sto) : opInA (.str m) (.tup [.str ("well" : Str), .str ("late" : Str)]) st = some (.bl (decide (m = ("well" : Str)) || decide (m = ("late" : Str))), st) := by
  have : opIn (.str m) (.tup [.str ("well" : Str), .str ("late" : Str)]) st = some (.bl (D.eq (.str ("well" : Str)) (.str m) || (D.eq (.str ("late" : Str)) (.str m) || false)), st) := rfl
  unfold opInA
  rw [this]
  have e1 : D.eq (.str ("well" : Str)) (.str m) = decide (m = ("well" : Str)) := by simp only [D.eq]; exact decide_eq_decide.mpr eq_comm
  have e2 : D.eq (.str ("late" : Str)) (.str m) = decide (m = ("late" : Str)) := by simp only [D.eq]; exact decide_eq_decide.mpr eq_comm
  rw [e1, e2, Bool.or_false]
theorem take_frame {s : Sta} (k : s.Ok) {f g : List Int} (hf : Frame f) (h : (s.take f).1 = some g) : Frame g := by
  unfold Sta.take at h
  cases e : askIn f with
  | none => rw [e] at h; cases h
  | some a =>
    obtain ⟨ok, _⟩ := askIn_some hf e
    rw [e] at h
    cases a with
    | rd o n t m =>
      simp [Ask.ok, Ask.w] at ok
      dsimp only at h
      split at h
      · cases h
        exact Ans.isFrame (read_ok k (by omega) (by omega) (by omega))
      · cases h
    | wr o n t vs =>
      simp [Ask.ok, Ask.w] at ok
      dsimp only at h
      split at h
      · cases h
      · split at h
        · split at h
          · exact k.told g h
          · cases h
            exact Ans.isFrame (wans_ok k (by omega))
        · cases h
theorem lin_send (h : LinAt st p a b w L) {i j : Nat} {s : Sta} (hs : st[a]? = some (.lst [.ref i])) (S : StaAt st i j s) (aw : a ≠ w) (ja : j ≠ a) (jb : j ≠ b) (jw : j ≠ w) (hw : L.waiting.length < 900) {f : List Int} (hf : Frame f) :
    ∃ st' j', f_Line_send [.ref p, tupD f] st = .ok (.ref w) st' ∧ LinAt st' p a b st.length (L.send s f).2.1 ∧ StaAt st' i j' (L.send s f).2.2 ∧ st'[w]? = some (.lst ((L.send s f).1.map tupD)) ∧ st'[a]? = some (.lst [.ref i]) ∧
      (j' = j ∨ st.length < j') ∧ st.length < st'.length ∧ ∀ n, n ≠ p → n ≠ w → n ≠ i → n ≠ j → n < st.length → st'[n]? = st[n]? := by
  have la := (List.getElem?_eq_some_iff.mp hs).1
  have pa : p ≠ a := fun z => by rw [← z, h.obj] at hs; cases hs
  have pi : p ≠ i := fun z => by
    have := S.obj
    rw [← z, h.obj] at this
    unfold linC staC at this
    simp at this
  have pj : p ≠ j := fun z => by
    have := S.cell
    rw [← z, h.obj] at this
    cases this
  have ib : i ≠ b := fun z => by
    have := S.obj
    rw [z, h.mks] at this
    cases this
  have iw : i ≠ w := fun z => by
    have := S.obj
    rw [z, h.wai] at this
    cases this
  have ia : i ≠ a := fun z => by
    have := S.obj
    rw [z, hs] at this
    cases this
  -- the new list of what waits
  obtain ⟨L0, hL0⟩ : ∃ L0 : Lin, L0 = { L with waiting := [] } := ⟨_, rfl⟩
  obtain ⟨st1, e1⟩ : ∃ st1, st1 = (st ++ [Cell.lst []]).set p (linC L0 a b st.length) := ⟨_, rfl⟩
  have l1 : st1.length = st.length + 1 := by rw [e1, List.length_set, List.length_append]; rfl
  have k1 : ∀ n, n ≠ p → n < st.length → st1[n]? = st[n]? := fun n h1 h2 => by rw [e1, List.getElem?_set_ne (Ne.symm h1), List.getElem?_append_left h2]
  have N1 : LinAt st1 p a b st.length L0 := ⟨by rw [e1, List.getElem?_set_self (by rw [List.length_append]; have := h.lp; omega)], by rw [k1 b h.pb.symm h.lb, h.mks, hL0], by
    rw [e1, List.getElem?_set_ne (by have := h.lp; omega), List.getElem?_append_right (Nat.le_refl _), Nat.sub_self, hL0]; rfl, by have := h.lb; omega, by rw [hL0]; exact ⟨h.ok.gone, h.ok.ml, by simp⟩⟩
  have M1 := lin_next N1
  have N2 := next_at N1
  have O1 := isObj_lin N1 "next_mark" (by decide)
  have mk : L0.mark = L.mark := by rw [hL0]; rfl
  rw [mk] at M1
  have nx : L0.next = { L.next with waiting := [] } := by
    rw [hL0]
    unfold Lin.next
    dsimp only
    split <;> rfl
  obtain ⟨st2, e2⟩ : ∃ st2, st2 = st1.set p (linC L0.next a b st.length) := ⟨_, rfl⟩
  rw [← e2] at M1 N2
  have l2 : st2.length = st.length + 1 := by rw [e2, List.length_set, l1]
  have k2 : ∀ n, n ≠ p → n < st.length → st2[n]? = st[n]? := fun n h1 h2 => by rw [e2, List.getElem?_set_ne (Ne.symm h1), k1 n h1 h2]
  have S2 : StaAt st2 i j s := S.keep fun n hn => by
    rcases hn with rfl | rfl
    · exact k2 _ pi.symm S.li
    · exact k2 _ pj.symm S.lj
  have w2 : st2[w]? = some (.lst (L.waiting.map tupD)) := by rw [k2 w h.pw.symm h.lw]; exact h.wai
  have a2 : st2[a]? = some (.lst [.ref i]) := by rw [k2 a pa.symm la]; exact hs
  have LF := look_frame_run hf st
  have at0 := attr_ref h.obj
  have ob0 : (st ++ [Cell.lst []])[p]? = some (.ins "Line" ["stations", "marks", "gone", "waiting"] [.ref a, .ref b, .int (L.gone : Int), .ref w]) := app_low _ _ h.obj
  have eS : (st ++ [Cell.lst []]).set p (.ins "Line" ["stations", "marks", "gone", "waiting"] [.ref a, .ref b, .int (L.gone : Int), .ref st.length]) = st1 := by rw [e1, hL0]; rfl
  -- what any store that is reached leaves to be collected: nothing
  have gc : ∀ st', LinAt st' p a b st.length ((L.send s f).2.1) → gcR st (.ok (.ref w) st') = .ok (.ref w) st' := fun st' A => gcR_kept (i := p) h.lp A.obj (by
    rw [h.obj]
    unfold linC
    intro z
    have : w = st.length := by simpa using congrArg (fun c => match c with | some (Cell.ins _ _ [_, _, _, .ref q]) => q | _ => 0) z
    have := h.lw
    omega) (by simp [linC, Cell.cl, D.clL, D.cl])
  have at2 := attr_ref N2.obj
  have sr : srcOf st2 (.ref a) = some ⟨[.ref i], fun st => decide (st[a]? = some (.lst [.ref i]))⟩ := by
    unfold srcOf; dsimp only; rw [a2]
  have O2 := isObj_sta S2 "take" (by decide)
  unfold f_Line_send b_Line_send
  rw [fn_run (by rfl)]
  by_cases mw : L.mark = ("well" : Str)
  · obtain ⟨st3, j3, T, S3, K3⟩ := sta_take S2 hf
    have jj : j3 = j ∨ st.length < j3 := by rcases K3.jj with e | e <;> omega
    have l3 := K3.len
    have k3 : ∀ n, n ≠ i → n ≠ j → n < st2.length → st3[n]? = st2[n]? := K3.keep
    have N3 : LinAt st3 p a b st.length L0.next := N2.keep fun n hn => by
      have := h.lp; have := h.lb; have := S.lj; have := S.li
      rcases hn with rfl | rfl | rfl
      · exact k3 _ pi pj (by omega)
      · exact k3 _ ib.symm jb.symm (by omega)
      · exact k3 _ (by omega) (by omega) (by omega)
    have w3 : st3[w]? = some (.lst (L.waiting.map tupD)) := by rw [k3 w iw.symm jw.symm (by have := h.lw; omega)]; exact w2
    have a3 : st3[a]? = some (.lst [.ref i]) := by rw [k3 a ia.symm ja.symm (by omega)]; exact a2
    have I : ∀ s, opInA (.str L.mark) (.tup [.str ("well" : Str), .str ("late" : Str)]) s = some (.bl true, s) := fun s => by rw [in_wl, mw]; rfl
    rw [mw] at M1 I
    have sd : L.send s f = (match (s.take f).1 with
      | some g => ((L0.next.back L.waiting g).2, (L0.next.back L.waiting g).1, (s.take f).2)
      | none => (L.waiting, L0.next, (s.take f).2)) := by
      unfold Lin.send
      rw [if_pos mw, nx]
    have eqw : ∀ s, opEq (.str ("well" : Str)) (.str ("well" : Str)) s = some (.bl true, s) := fun _ => rfl
    cases tk : (s.take f).1 with
    | none =>
      rw [tk] at T sd
      dsimp only at sd
      refine ⟨st3, j3, ?_, by rw [sd]; exact N3, by rw [sd]; exact S3, by rw [sd]; exact w3, a3, jj, by omega, fun n n1 n2 n3 n4 n5 => by rw [k3 n n3 n4 (by omega), k2 n n1 n5]⟩
      have G := gc st3 (by rw [sd]; exact N3)
      have T : f_Station_take [.ref i, tupD f] st2 = .ok .non st3 := T
      have nN : ∀ s, opNotN .non .non s = some (.bl false, s) := fun _ => rfl
      simp -implicitDefEqProofs [LF, at0, ob0, eS, O1, M1, I, at2, sr, a2, forX, O2, T, nN, a3]
      exact G
    | some g =>
      rw [tk] at T sd
      dsimp only at sd
      have T : f_Station_take [.ref i, tupD f] st2 = .ok (tupD g) st3 := T
      have hg := take_frame S.ok hf tk
      have w0 : L0.next.waiting = [] := by rw [nx]
      obtain ⟨st4, BK, N4, w4, l4, k4⟩ := lin_back N3 hg w3 (by omega) (by rw [w0]; decide) h.wb (by have := h.lw; omega) (by omega)
      have O3 := isObj_lin N3 "back" (by decide)
      have lS := S.li
      have lJ := S.lj
      have a4 : st4[a]? = some (.lst [.ref i]) := by rw [k4 a pa.symm (by omega) aw]; exact a3
      have S4 : StaAt st4 i j3 (s.take f).2 := S3.keep fun n hn => by
        rcases hn with rfl | rfl
        · exact k4 _ pi.symm (by omega) iw
        · exact k4 _ (by have := h.lp; rcases jj with e | e <;> omega) (by rcases jj with e | e <;> omega) (by have := h.lw; rcases jj with e | e <;> omega)
      refine ⟨st4, j3, ?_, by rw [sd]; exact N4, by rw [sd]; exact S4, by rw [sd]; exact w4, a4, jj, by omega, fun n n1 n2 n3 n4 n5 => by rw [k4 n n1 (by omega) n2, k3 n n3 n4 (by omega), k2 n n1 n5]⟩
      have G := gc st4 (by rw [sd]; exact N4)
      have nN : ¬ (tupD g = D.non) := by unfold tupD; simp
      simp -implicitDefEqProofs [LF, at0, ob0, eS, O1, M1, I, at2, sr, a2, forX, O2, T, nN, eqw, O3, BK, a4]
      exact G
  · by_cases ml : L.mark = ("late" : Str)
    · obtain ⟨st3, j3, T, S3, K3⟩ := sta_take S2 hf
      have jj : j3 = j ∨ st.length < j3 := by rcases K3.jj with e | e <;> omega
      have l3 := K3.len
      have k3 : ∀ n, n ≠ i → n ≠ j → n < st2.length → st3[n]? = st2[n]? := K3.keep
      have N3 : LinAt st3 p a b st.length L0.next := N2.keep fun n hn => by
        have := h.lp; have := h.lb; have := S.lj; have := S.li
        rcases hn with rfl | rfl | rfl
        · exact k3 _ pi pj (by omega)
        · exact k3 _ ib.symm jb.symm (by omega)
        · exact k3 _ (by omega) (by omega) (by omega)
      have w3 : st3[w]? = some (.lst (L.waiting.map tupD)) := by rw [k3 w iw.symm jw.symm (by have := h.lw; omega)]; exact w2
      have a3 : st3[a]? = some (.lst [.ref i]) := by rw [k3 a ia.symm ja.symm (by omega)]; exact a2
      have I : ∀ s, opInA (.str L.mark) (.tup [.str ("well" : Str), .str ("late" : Str)]) s = some (.bl true, s) := fun s => by rw [in_wl, ml]; rfl
      rw [ml] at M1 I
      have sd : L.send s f = (L.waiting, L0.next, (s.take f).2) := by
        unfold Lin.send
        rw [if_neg mw, if_pos ml, nx]
      refine ⟨st3, j3, ?_, by rw [sd]; exact N3, by rw [sd]; exact S3, by rw [sd]; exact w3, a3, jj, by omega, fun n n1 n2 n3 n4 n5 => by rw [k3 n n3 n4 (by omega), k2 n n1 n5]⟩
      have G := gc st3 (by rw [sd]; exact N3)
      have eqw : ∀ s, opEq (.str ("late" : Str)) (.str ("well" : Str)) s = some (.bl false, s) := fun _ => rfl
      cases tk : (s.take f).1 with
      | none =>
        rw [tk] at T
        have T : f_Station_take [.ref i, tupD f] st2 = .ok .non st3 := T
        have nN : ∀ s, opNotN .non .non s = some (.bl false, s) := fun _ => rfl
        simp -implicitDefEqProofs [LF, at0, ob0, eS, O1, M1, I, at2, sr, a2, forX, O2, T, nN, a3]
        exact G
      | some g =>
        rw [tk] at T
        have T : f_Station_take [.ref i, tupD f] st2 = .ok (tupD g) st3 := T
        have nN : ¬ (tupD g = D.non) := by unfold tupD; simp
        simp -implicitDefEqProofs [LF, at0, ob0, eS, O1, M1, I, at2, sr, a2, forX, O2, T, nN, eqw, a3]
        exact G
    · have I : ∀ s, opInA (.str L.mark) (.tup [.str ("well" : Str), .str ("late" : Str)]) s = some (.bl false, s) := fun s => by rw [in_wl]; simp [mw, ml]
      have sd : L.send s f = (L.waiting, L0.next, s) := by
        unfold Lin.send
        rw [if_neg mw, if_neg ml, nx]
      refine ⟨st2, j, ?_, by rw [sd]; exact N2, by rw [sd]; exact S2, by rw [sd]; exact w2, a2, .inl rfl, by omega, fun n n1 n2 n3 n4 n5 => k2 n n1 n5⟩
      have G := gc st2 (by rw [sd]; exact N2)
      simp -implicitDefEqProofs [LF, at0, ob0, eS, O1, M1, I]
      exact G
end
def words : List Str := [("well" : Str), ("lost" : Str), ("spoilt" : Str), ("late" : Str)]
theorem lin_new {marks : List Str} (hm : ∀ m ∈ marks, m ∈ words) (hl : marks.length ≤ 1000) (i : Nat) (st : Sto) (hi : i < st.length) :
    newO "Line" f_Line_init [.tup [.ref i], .lst (marks.map .str)] st = .ok (.ref st.length) (st ++ [linC ⟨marks, 0, []⟩ (st.length + 1) (st.length + 2) (st.length + 3), .lst [.ref i], .lst (marks.map .str), .lst []]) ∧
    LinAt (st ++ [linC ⟨marks, 0, []⟩ (st.length + 1) (st.length + 2) (st.length + 3), .lst [.ref i], .lst (marks.map .str), .lst []]) st.length (st.length + 1) (st.length + 2) (st.length + 3) ⟨marks, 0, []⟩ := by
  refine ⟨?_, by simp, by simp, by simp, by omega, ⟨Nat.zero_le _, hl, by simp⟩⟩
  have F : f_Line_init [.ref st.length, .tup [.ref i], .lst (marks.map .str)] (st ++ [.ins "Line" [] []]) = .ok .non (st ++ [linC ⟨marks, 0, []⟩ (st.length + 1) (st.length + 2) (st.length + 3), .lst [.ref i], .lst (marks.map .str), .lst []]) := by
    unfold f_Line_init b_Line_init
    rw [fn_run (by rfl)]
    have A : ∀ s, loopC (fun _ => true) (.nm 3) (ret true) (vand (un (opIsi ["str"]) (mvar 3)) (bin opInA (mvar 3) (ret (.tup [.str ("well" : Str), .str ("lost" : Str), .str ("spoilt" : Str), .str ("late" : Str)])))) [some (.ref st.length), some (.tup [.ref i]), some (.lst (marks.map .str)), none] (marks.map .str) s = .ok (marks.map fun _ => .bl true) s := fun s =>
      loopC_all rfl D.str (fun _ => D.bl true) (fun m => [some (.ref st.length), some (.tup [.ref i]), some (.lst (marks.map .str)), some (.str m)]) marks fun m hmm => ⟨rfl, by
        have t : opIsi ["str"] (.str m) s = some (.bl true, s) := rfl
        have w : opInA (.str m) (.tup [.str ("well" : Str), .str ("lost" : Str), .str ("spoilt" : Str), .str ("late" : Str)]) s = some (.bl true, s) := by
          have := hm m hmm
          simp only [words, List.mem_cons, List.mem_nil_iff, or_false] at this
          rcases this with rfl | rfl | rfl | rfl <;> rfl
        simp -implicitDefEqProofs [t, w]⟩
    have B := fAll_f (fun _ : Str => true) marks
    have t : ∀ s, opIsi ["list", "tuple"] (.lst (marks.map .str)) s = some (.bl true, s) := fun _ => rfl
    have k1 : putK "stations" ([] : List Str) = (["stations"] : List Str) := rfl
    have k2 : putK "marks" (["stations"] : List Str) = (["stations", "marks"] : List Str) := rfl
    have k3 : putK "gone" (["stations", "marks"] : List Str) = (["stations", "marks", "gone"] : List Str) := rfl
    have k4 : putK "waiting" (["stations", "marks", "gone"] : List Str) = (["stations", "marks", "gone", "waiting"] : List Str) := rfl
    have x1 : ∀ d, putX "stations" d [] [] = [d] := fun _ => rfl
    have x2 : ∀ d a, putX "marks" d ["stations"] [a] = [a, d] := fun _ _ => rfl
    have x3 : ∀ d a b, putX "gone" d ["stations", "marks"] [a, b] = [a, b, d] := fun _ _ _ => rfl
    have x4 : ∀ d a b c, putX "waiting" d ["stations", "marks", "gone"] [a, b, c] = [a, b, c, d] := fun _ _ _ _ => rfl
    have f1 : ∀ s, fList [.tup [.ref i]] s = some ([.ref i], s) := fun _ => rfl
    have f2 : ∀ s, fList [.lst (marks.map .str)] s = some (marks.map .str, s) := fun _ => rfl
    have al : ∀ l : List Str, (l.all fun _ => true) = true := fun l => List.all_eq_true.mpr fun _ _ => rfl
    simp -implicitDefEqProofs [t, wipeE, A, B, al, f1, f2, k1, k2, k3, k4, x1, x2, x3, x4]
    exact gcR_kept (i := st.length) (c := linC ⟨marks, 0, []⟩ (st.length + 1) (st.length + 2) (st.length + 3)) (by simp) (by simp; rfl) (by simp [linC]) (by simp [Cell.cl, linC, D.cl, D.clL])
  unfold newO
  rw [F]
end Pg
/-! Shared computations. -/
namespace Pg
open PySem PySem.Spec PyProof.Rows L2 Ly
def b_text_of : MS := (mblock [(mret (meth "str" fJoin (ret (.str (" " : Str))) (args [(tree (comp (walk (mvar 0)) (.nm 1) [1] (ret true) (bin opAdd (bin opIx (ret (.str ("0123456789abcdef" : Str))) (bin opDiv (mvar 1) (ret (.int 16)))) (bin opIx (ret (.str ("0123456789abcdef" : Str))) (bin opMod (mvar 1) (ret (.int 16)))))))])))])
def f_text_of : List D → Sto → R D := fn 1 2 b_text_of
def b_byte_in : MS := (mblock [(mcond (mor (tst (bin opNe (calls fLen (args [(mvar 0)])) (ret (.int 2)))) (mnot (tst (calls fAll (args [(tree (comp (walkS (mvar 0)) (.nm 1) [1] (ret true) (bin opInA (mvar 1) (ret (.str ("0123456789abcdef" : Str))))))]))))) (mblock [(mraise ("NoText" : Str))]) (mblock [])),
  (mret (bin opAdd (bin opMul (ret (.int 16)) (meth "str" fSIndex (ret (.str ("0123456789abcdef" : Str))) (args [(bin opIx (mvar 0) (ret (.int 0)))]))) (meth "str" fSIndex (ret (.str ("0123456789abcdef" : Str))) (args [(bin opIx (mvar 0) (ret (.int 1)))]))))])
def f_byte_in : List D → Sto → R D := fn 1 2 b_byte_in
def b_read_frame : MS := (mblock [(mcond (mnot (tst (un (opIsi ["str"]) (mvar 0)))) (mblock [(mraise ("NoText" : Str))]) (mblock [])),
  (mset 1 (calls fTuple (args [(tree (comp (walk (meth "str" fSplit (mvar 0) (args [(ret (.str (" " : Str)))]))) (.nm 2) [2] (ret true) (callF Pg.f_byte_in (args [(mvar 2)]))))]))),
  (mcond (mnot (tst (callF Pg.f_is_frame (args [(mvar 1)])))) (mblock [(mraise ("NoText" : Str))]) (mblock [])),
  (mret (mvar 1))])
def f_read_frame : List D → Sto → R D := fn 1 3 b_read_frame
def b_frame_text : MS := (mblock [(mdo (callF Pg.f_look_frame (args [(mvar 0)]))),
  (mret (callF Pg.f_text_of (args [(mvar 0)])))])
def f_frame_text : List D → Sto → R D := fn 1 1 b_frame_text
end Pg
/-! Frames as texts, read back. -/
namespace Pg
open PySem PySem.Spec PyProof.Rows L2 Ly
@[simp] theorem walkS_run (c : M D) (e : Ev) (st : Sto) : walkS c e st = (c e st).nxt fun d st1 => match d with
  | .str x => if x.length ≤ sizeLine then .ok ⟨signs x, fun _ => true⟩ st1 else .bad
  | _ => .bad := by
  unfold walkS
  rw [bnd_run]
  congr
  funext d st1
  cases d with
  | str x => dsimp only; split <;> rfl
  | _ => rfl
abbrev FIG : Str := ("0123456789abcdef" : Str)
/-- the sign of a number below sixteen -/
def dg (k : Nat) : Nat := FIG.cps.toList.getD k 0
def hexw (b : Int) : Str := ⟨#[dg (b / 16).toNat, dg (b % 16).toNat]⟩
theorem fig_at : ∀ k : Fin 16, FIG.cps.toList[k.val]? = some (dg k.val) := by decide +kernel
theorem fig_mem : ∀ k : Fin 16, dg k.val ∈ FIG.cps.toList := by decide +kernel
theorem fig_no : ∀ k : Fin 16, dg k.val ≠ 32 := by decide +kernel
theorem fig_ix : ∀ k : Fin 16, (Builtin.Str.occurrences FIG ⟨#[dg k.val]⟩ 0 FIG.length 1).head? = some k.val := by decide +kernel
theorem fig_len : FIG.length = 16 := by decide +kernel
theorem ix_fig {k : Int} (h : 0 ≤ k ∧ k < 16) (s : Sto) : opIx (.str FIG) (.int k) s = some (.str ⟨#[dg k.toNat]⟩, s) := by
  show (if FIG.length ≤ sizeLine then (atI FIG.cps.toList k).map fun c => (D.str ⟨#[c]⟩, s) else none) = _
  rw [if_pos (by rw [fig_len]; exact sz _ (by decide))]
  have e : k = ((k.toNat : Nat) : Int) := by omega
  rw [e, atI_nat (fig_at ⟨k.toNat, by omega⟩)]
  rfl
theorem byt_parts {b : Int} (h : 0 ≤ b ∧ b ≤ 255) : (0 ≤ b / 16 ∧ b / 16 < 16) ∧ (0 ≤ b % 16 ∧ b % 16 < 16) := by omega
def hexs (xs : List Int) : List Str := xs.map hexw
def textOf (xs : List Int) : Str := Txt.join (" " : Str) (hexs xs)
theorem hexs_size (xs : List Int) : ((hexs xs).map (·.length)).sum = 2 * xs.length := by
  unfold hexs
  induction xs with
  | nil => rfl
  | cons x r ih => rw [List.map_cons, List.map_cons, List.sum_cons, ih, List.length_cons]; show 2 + _ = _; omega
theorem text_of_run {xs : List Int} (hx : Byt xs) (hl : xs.length ≤ 100) (st : Sto) : f_text_of [tupD xs] st = .ok (.str (textOf xs)) st := by
  unfold f_text_of b_text_of
  rw [fn_run (by rfl)]
  have A : loopC (fun _ => true) (.nm 1) (ret true) (bin opAdd (bin opIx (ret (.str FIG)) (bin opDiv (mvar 1) (ret (.int 16)))) (bin opIx (ret (.str FIG)) (bin opMod (mvar 1) (ret (.int 16))))) [some (tupD xs), none] (xs.map .int) st = .ok ((hexs xs).map .str) st := by
    unfold hexs
    rw [List.map_map]
    exact loopC_all rfl D.int _ (fun b => [some (tupD xs), some (.int b)]) xs fun b hb => ⟨rfl, by
      obtain ⟨p1, p2⟩ := byt_parts (hx b hb)
      have e1 := ix_fig p1 st
      have e2 := ix_fig p2 st
      have dv : opDiv (.int b) (.int 16) st = some (.int (b / 16), st) := rfl
      have md : opMod (.int b) (.int 16) st = some (.int (b % 16), st) := rfl
      have ad : opAdd (.str ⟨#[dg (b / 16).toNat]⟩) (.str ⟨#[dg (b % 16).toNat]⟩) st = some (.str (hexw b), st) := by
        show (if 1 + 1 ≤ sizeLine then some (D.str (hexw b), st) else none) = _
        rw [if_pos (sz _ (by decide))]
      simp -implicitDefEqProofs [e1, e2, dv, md, ad]⟩
  have J : fJoin (.str (" " : Str)) [.lst ((hexs xs).map .str)] st = some (.str (textOf xs), st) := by
    show (strL ((hexs xs).map .str)).bind _ = _
    rw [strL_of, Option.bind_some, hexs_size, if_pos]
    · rfl
    · show 2 * xs.length + (hexs xs).length * 1 ≤ 16777216
      unfold hexs
      rw [List.length_map]
      omega
  have SF : srcOf st (tupD xs) = some ⟨xs.map .int, fun _ => true⟩ := rfl
  have iS : isOf "str" st (.str (" " : Str)) = true := rfl
  simp -implicitDefEqProofs [SF, wipeE, A, iS, J]
  exact gc0
theorem frame_text_run {xs : List Int} (h : Frame xs) (st : Sto) : f_frame_text [tupD xs] st = .ok (.str (textOf xs)) st := by
  unfold f_frame_text b_frame_text
  rw [fn_run (by rfl)]
  have := h.l20
  simp -implicitDefEqProofs [look_frame_run h, text_of_run h.byt (by omega)]
  exact gc0
theorem byte_in_run {b : Int} (hb : 0 ≤ b ∧ b ≤ 255) (st : Sto) : f_byte_in [.str (hexw b)] st = .ok (.int b) st := by
  unfold f_byte_in b_byte_in
  rw [fn_run (by rfl)]
  obtain ⟨p1, p2⟩ := byt_parts hb
  obtain ⟨h, hh⟩ : ∃ h : Fin 16, (b / 16).toNat = h.val := ⟨⟨(b / 16).toNat, by omega⟩, rfl⟩
  obtain ⟨l, hl⟩ : ∃ l : Fin 16, (b % 16).toNat = l.val := ⟨⟨(b % 16).toNat, by omega⟩, rfl⟩
  have eb : b = 16 * (h.val : Int) + (l.val : Int) := by omega
  have ew : hexw b = ⟨#[dg h.val, dg l.val]⟩ := by unfold hexw; rw [hh, hl]
  have ln : fLen [.str (hexw b)] st = some (.int 2, st) := by
    show (if (hexw b).length ≤ sizeLine then some (D.int ((hexw b).length : Int), st) else none) = _
    rw [show (hexw b).length = 2 from rfl, if_pos (sz _ (by decide))]; rfl
  have lz : (hexw b).length ≤ sizeLine := by rw [show (hexw b).length = 2 from rfl]; exact sz _ (by decide)
  have sg : Ly.signs (hexw b) = [.str ⟨#[dg h.val]⟩, .str ⟨#[dg l.val]⟩] := by rw [ew]; rfl
  have mem : ∀ (k : Fin 16) (s : Sto), opInA (.str ⟨#[dg k.val]⟩) (.str FIG) s = some (.bl true, s) := fun k s => by
    have : opIn (.str ⟨#[dg k.val]⟩) (.str FIG) s = some (.bl (decide (dg k.val ∈ FIG.cps.toList)), s) := rfl
    unfold opInA
    rw [this, decide_eq_true (fig_mem k)]
  have A : loopC (fun _ => true) (.nm 1) (ret true) (bin opInA (mvar 1) (ret (.str FIG))) [some (.str (hexw b)), none] [.str ⟨#[dg h.val]⟩, .str ⟨#[dg l.val]⟩] st = .ok [.bl true, .bl true] st := by
    simp -implicitDefEqProofs [loopC, mem]
  have al : fAll [.lst [.bl true, .bl true]] st = some (.bl true, st) := rfl
  have i0 : opIx (.str (hexw b)) (.int 0) st = some (.str ⟨#[dg h.val]⟩, st) := by
    show (if (hexw b).length ≤ sizeLine then _ else none) = _
    rw [if_pos lz, ew]; rfl
  have i1 : opIx (.str (hexw b)) (.int 1) st = some (.str ⟨#[dg l.val]⟩, st) := by
    show (if (hexw b).length ≤ sizeLine then _ else none) = _
    rw [if_pos lz, ew]; rfl
  have ix : ∀ (k : Fin 16), fSIndex (.str FIG) [.str ⟨#[dg k.val]⟩] st = some (.int (k.val : Int), st) := fun k => by
    show (Builtin.Str.occurrences FIG ⟨#[dg k.val]⟩ 0 FIG.length 1).head?.map _ = _
    rw [fig_ix]; rfl
  have iS : isOf "str" st (.str FIG) = true := rfl
  have sm : smallI 16 = true := rfl
  simp -implicitDefEqProofs [ln, lz, sg, wipeE, A, al, iS, i0, i1, ix, sm]
  rw [← eb]
  exact gc0
theorem split_text {xs : List Int} (hx : Byt xs) (h0 : xs ≠ []) : Txt.split (textOf xs) (" " : Str) = hexs xs := by
  unfold textOf
  refine TL.split_join (s := 32) (S := []) (by decide +kernel) (by decide +kernel) (by unfold hexs; simpa using h0) fun p hp => ?_
  unfold hexs at hp
  obtain ⟨b, hb, rfl⟩ := List.mem_map.mp hp
  obtain ⟨p1, p2⟩ := byt_parts (hx b hb)
  show 32 ∉ [dg (b / 16).toNat, dg (b % 16).toNat]
  have e1 := fig_no ⟨(b / 16).toNat, by omega⟩
  have e2 := fig_no ⟨(b % 16).toNat, by omega⟩
  simp only [List.mem_cons, List.mem_nil_iff, or_false]
  intro z
  rcases z with z | z
  · exact e1 z.symm
  · exact e2 z.symm
theorem joinL_len (S : List Nat) (hS : S.length = 1) : ∀ l : List (List Nat), (∀ p ∈ l, p.length = 2) → (TL.joinL S l).length ≤ 3 * l.length
  | [], _ => by simp [TL.joinL]
  | [p], h => by have := h p (by simp); simp [TL.joinL, this]
  | p :: q :: r, h => by
    have ih := joinL_len S hS (q :: r) fun x hx => h x (List.mem_cons_of_mem _ hx)
    have hp := h p List.mem_cons_self
    show (p ++ (S ++ TL.joinL S (q :: r))).length ≤ _
    rw [List.length_append, List.length_append, hp, hS, List.length_cons]
    omega
theorem join_len (xs : List Int) (hl : xs.length ≤ 100) : (textOf xs).length ≤ 400 := by
  unfold textOf
  rw [TL.join_eq, TL.len_tl, TL.tl_join]
  have := joinL_len (TL.tl (" " : Str)) (by decide +kernel) ((hexs xs).map TL.tl) fun p hp => by
    obtain ⟨w, hw, rfl⟩ := List.mem_map.mp hp
    unfold hexs at hw
    obtain ⟨b, _, rfl⟩ := List.mem_map.mp hw
    rfl
  unfold hexs at this ⊢
  rw [List.length_map, List.length_map] at this
  omega
theorem read_frame_run {xs : List Int} (h : Frame xs) (st : Sto) : f_read_frame [.str (textOf xs)] st = .ok (tupD xs) st := by
  unfold f_read_frame b_read_frame
  rw [fn_run (by rfl)]
  have l2 := h.l2
  have l20 := h.l20
  have t : opIsi ["str"] (.str (textOf xs)) st = some (.bl true, st) := rfl
  have iS : isOf "str" st (.str (textOf xs)) = true := rfl
  have SP : fSplit (.str (textOf xs)) [.str (" " : Str)] st = some (.lst ((hexs xs).map .str), st) := by
    show (if ((" " : Str).length == 0) = false ∧ (textOf xs).length + 2 ≤ sizeLine then some (D.lst ((Txt.split (textOf xs) (" " : Str)).map .str), st) else none) = _
    rw [if_pos ⟨by decide +kernel, Nat.le_trans (Nat.add_le_add_right (join_len xs (by omega)) 2) (sz _ (by decide))⟩, split_text h.byt (fun z => by rw [z] at l2; simp at l2)]
  have A : loopC (fun _ => true) (.nm 2) (ret true) (callF Pg.f_byte_in (args [(mvar 2)])) [some (.str (textOf xs)), none, none] ((hexs xs).map .str) st = .ok (xs.map .int) st := by
    unfold hexs
    rw [List.map_map]
    exact loopC_all rfl _ D.int (fun b => [some (.str (textOf xs)), none, some (.str (hexw b))]) xs fun b hb => ⟨rfl, by
      simp -implicitDefEqProofs [byte_in_run (h.byt b hb)]⟩
  have T1 : fTuple [.lst (xs.map .int)] st = some (tupD xs, st) := (Ints.lst (st := st) xs).tuple
  have B : f_is_frame [tupD xs] st = .ok (.bl true) st := by
    have := frame_run xs st
    rw [h.is] at this
    exact this
  simp -implicitDefEqProofs [t, iS, SP, wipeE, A, T1, B]
  exact gc0 (by simp [tupD, clL_ints])
end Pg
/-! Exceptions that are kept. -/
namespace Ly
open PySem PySem.Spec PyProof.Rows L2
/-- of a class of the module that is above them all -/
structure IsuF (K : PySem.W.Frag) (mg : Str → Option Value) (x : Str) (L : List Str) : Prop where
  ex : ∃ Cx, mg x = some (.ref Cx) ∧ PySem.W.keepIn K (.ref Cx) = true ∧ ∀ y ∈ L, ∃ Ca, mg y = some (.ref Ca) ∧ ExcC K Ca ∧ PySem.W.kitOne K (.ref Ca) (.ref Cx) = some true
theorem isuF_mk {K : PySem.W.Frag} {h : Heap} {mg : Str → Option Value} {L : List Str} {x : Str} {Cx : Addr} (X : K.In h) (G : h.Ns mainGlobals mg) (a : PySem.W.nsIn K mainGlobals x = some (some (.ref Cx))) (k : PySem.W.keepIn K (.ref Cx) = true)
    (e : xB K L (fun Ca _ => excB K Ca) = true) (f : xB K L (fun Ca _ => PySem.W.kitOne K (.ref Ca) (.ref Cx) == some true) = true) : IsuF K mg x L :=
  ⟨⟨Cx, PySem.W.mg_of X G a, k, fun y hy => by
    obtain ⟨Ca, q1, q2⟩ := xB_of X G e y hy
    obtain ⟨Cb, q3, q4⟩ := xB_of X G f y hy
    have e : Cb = Ca := by
      have := q3.symm.trans q1
      cases this
      rfl
    subst e
    exact ⟨Cb, q1, excC_of q2, beq_iff_eq.mp q4⟩⟩⟩
section
variable {X : Cx} {C : Ctx} {W : WX} {a : Expr} {ca : M D} {pos p p2 : Pos} {L : List Str}
theorem e_isu {x : Str} (hg : Gl X "isinstance") (hm : X.mg "isinstance" = none) (F : IsuF X.K X.mg x L) (ha : PE X a (te C W ca)) (hM : C.mg = X.mg := by rfl) (hgx : Gl X x := by rfl) (hd : (x == ("__debug__" : Str)) = false := by decide)
    (hs : starEach [a, .Name x p2] X.env = (false, eval a X.env) :: starEach [.Name x p2] X.env := by rfl) (hpl : (backTo pos (starEach [.Name x p2] X.env)).any (·.1) = false := by rfl) :
    PE X (.Call (.Name "isinstance" p) [a, .Name x p2] [] pos) (te C W (un (opIsa L) ca)) := by
  obtain ⟨Cx, g, kp, all⟩ := F.ex
  refine (pe_callB (call_isX (X := X)) hg hm (by decide +kernel) (pa_cons ha (pa_cons (pe_glob (v := .ref Cx) hgx g rfl hd) pa_nil) hs) (by decide) (by decide) hs hpl).imp ?_
  rintro σ H Q ⟨env, st, B, e, r, p⟩
  subst e
  refine (seq r p).mono ?_
  rintro v H1 ⟨d, st1, B1, e1, x1, r1, p1, k1⟩
  subst e1
  obtain ⟨d', st', e, k⟩ := post_lift k1
  obtain ⟨c, rfl⟩ : ∃ c, d = .exc c := by cases d <;> first | (cases e; done) | exact ⟨_, rfl⟩
  by_cases hc : c ∈ L
  · have e' : opIsa L (.exc c) st1 = some (.bl true, st1) := if_pos hc
    rw [e'] at e
    cases e
    unfold Rep at p1
    obtain ⟨b, Cb, rfl, _, h1, h2⟩ := p1
    obtain ⟨Cc, h3, h4, h5⟩ := all c hc
    rw [hM, h3] at h1
    cases h1
    exact ⟨b, _, .ref Cx, .ref Cx, true, rfl, fun u q => q, h2, h4, h5, k _ B1 (Ext.refl _ _) r1 rep_bl⟩
  · have e' : opIsa L (.exc c) st1 = none := if_neg hc
    rw [e'] at e
    cases e
end
/-! ### functions as things, picked and called -/
theorem e_glo {X : Cx} {C : Ctx} {W : WX} {x : Str} {pos : Pos} {k n : Nat} {f : List D → Sto → R D} (F : Df X.prog X.w X.K X.mg X.base C k x n f) (hM : C.mg = X.mg := by rfl) (hg : Gl X x := by rfl) (hd : (x == ("__debug__" : Str)) = false := by decide) : PE X (.Name x pos) (te C W (ret (.glo x))) := by
  obtain ⟨fa, fd, ps, _, h2, _, _⟩ := F.ex
  refine e_glob (v := .ref fa) hg h2 rfl (fun B => ?_) hd
  unfold Rep
  exact ⟨fa, by rw [hM]; exact h2, rfl⟩
/-- fe(e, ..), fe gives one of these functions -/
def pickF (tbl : List (Str × (List D → Sto → R D))) : D → Option (Str × (List D → Sto → R D))
  | .glo x => tbl.find? (fun p => decide (p.1 = x))
  | _ => none
def callE (tbl : List (Str × (List D → Sto → R D))) (fe : M D) (as : M (List D)) : M D := bnd fe fun d => match pickF tbl d with
  | some p => bnd as fun ds => fun _ st => p.2 ds st
  | none => fun _ _ => .bad
section
variable {X : Cx} {C : Ctx} {W : WX} {fe e : Expr} {es : List Expr} {cf : M D} {as : M (List D)} {pos : Pos} {k n : Nat} {tbl : List (Str × (List D → Sto → R D))}
def tPick (G : Addr → Sp → Prop) (E : L2.St → XK) (tf : TE) (t : TA) : TE := fun σ H Q => tf σ H fun y H1 => ∃ a, y = V.ref a ∧ (∃ sp0, G a sp0) ∧ t σ H1 fun vs H2 => ∃ sp, G a sp ∧ sp vs H2 Q (E σ)
theorem pe_pick {G : Addr → Sp → Prop} {E : L2.St → XK} {tf : TE} {t : TA} (hf : PE X fe tf) (F : ∀ a sp, G a sp → ∃ fd ps, FnOk X.prog X.w X.K X.mg X.base (L2.CX X.prog X.w) k a fd ps sp ∧ PySem.W.keepIn X.K (.ref a) = true ∧ Binds X.K fd ps []) (hr : Room k X.A) (hx : ∀ σ, PassesAt (L2.CX X.prog X.w) X σ (E σ)) (ha : PA X (e :: es) t)
    (ht : eval (.Call fe (e :: es) [] pos) X.env = (do callWith pos (← eval fe X.env) [] (backTo pos (starEach (e :: es) X.env)) (backToKw pos (keywordEach [] X.env))) := by rfl)
    (he : starEach (e :: es) X.env = (false, eval e X.env) :: starEach es X.env := by rfl) (hpl : (backTo pos (starEach es X.env)).any (·.1) = false := by rfl) : PE X (.Call fe (e :: es) [] pos) (tPick G E tf t) where
  run := fun pins s σ H Q I hyp => by
    refine Call_ (thn (hf.run pins s σ H _ I hyp) ?_) ht
    rintro u s1 ⟨y, H1, I1, ry, a, ey, ⟨sp0, g0⟩, q⟩
    subst ey
    obtain rfl : u = Value.ref a := ry
    obtain ⟨_, _, _, kp, _⟩ := F a sp0 g0
    refine PySem.W.callWith_K (h₀ := X.base) I1.ok.mod.kin kp (thn (ha.run pos pins s1 σ H1 _ I1 q) ?_) he hpl
    rintro us s2 ⟨vs, H2, I2, r, sp, g, q2⟩
    obtain ⟨fd, ps, FF, _, hb⟩ := F a sp g
    exact ⟨I2.kIn, run_fnS FF hr hb (hx σ) I2 r q2⟩
theorem e_callE (hf : PE X fe (te C W cf)) (F : ∀ p ∈ tbl, Df X.prog X.w X.K X.mg X.base C k p.1 n p.2) (hr : Room k X.A) (hx : Pass X W) (ha : PA X (e :: es) (ta C W as)) (hM : C.mg = X.mg := by rfl)
    (ht : eval (.Call fe (e :: es) [] pos) X.env = (do callWith pos (← eval fe X.env) [] (backTo pos (starEach (e :: es) X.env)) (backToKw pos (keywordEach [] X.env))) := by rfl)
    (he : starEach (e :: es) X.env = (false, eval e X.env) :: starEach es X.env := by rfl) (hpl : (backTo pos (starEach es X.env)).any (·.1) = false := by rfl) :
    PE X (.Call fe (e :: es) [] pos) (te C W (callE tbl cf as)) := by
  refine (pe_pick (G := fun a sp => ∃ p ∈ tbl, sp = spOf C n p.2 ∧ X.mg p.1 = some (.ref a)) (E := WE W) (k := k) hf ?_ hr hx ha ht he hpl).imp ?_
  · rintro a sp ⟨p, hp, rfl, hm⟩
    obtain ⟨fa, fd, ps, h1, h2, h3, h4⟩ := (F p hp).ex
    have e : fa = a := by
      have := h2.symm.trans hm
      cases this
      rfl
    subst e
    exact ⟨fd, ps, h1, h3, h4⟩
  · rintro σ H Q ⟨env, st, B, e, r, q⟩
    subst e
    refine (seq r q).mono ?_
    rintro y H1 ⟨d, st1, B1, e1, x1, r1, p1, k1⟩
    subst e1
    cases hp : pickF tbl d with
    | none => rw [hp] at k1; exact k1.elim
    | some p =>
      rw [hp] at k1
      dsimp only at k1
      obtain ⟨x, rfl⟩ : ∃ x, d = .glo x := by cases d <;> first | (cases hp; done) | exact ⟨_, rfl⟩
      have hm := List.mem_of_find?_eq_some hp
      have hx' : p.1 = x := by simpa using List.find?_some hp
      unfold Rep at p1
      obtain ⟨a, g, rfl⟩ := p1
      rw [hM, ← hx'] at g
      refine ⟨a, rfl, ⟨_, p, hm, rfl, g⟩, ?_⟩
      refine (seq r1 k1).mono ?_
      rintro vs H2 ⟨ds, st2, B2, e2, x2, r2, p2, k2⟩
      subst e2
      exact ⟨_, ⟨p, hm, rfl, g⟩, sp_of (F p hm).ar r2 p2 k2⟩
end
theorem dfs_nil {P : Program} {w : World} {K : PySem.W.Frag} {mg : Str → Option Value} {base : Heap} {C : Ctx} {k n : Nat} : ∀ p ∈ ([] : List (Str × (List D → Sto → R D))), Df P w K mg base C k p.1 n p.2 := fun _ h => by cases h
theorem dfs_cons {P : Program} {w : World} {K : PySem.W.Frag} {mg : Str → Option Value} {base : Heap} {C : Ctx} {k n : Nat} {x : Str} {f : List D → Sto → R D} {r : List (Str × (List D → Sto → R D))} (h : Df P w K mg base C k x n f) (t : ∀ p ∈ r, Df P w K mg base C k p.1 n p.2) :
    ∀ p ∈ (x, f) :: r, Df P w K mg base C k p.1 n p.2 := fun p hp => by
  rcases List.mem_cons.mp hp with e | q
  · rw [e]; exact h
  · exact t p q
/-! ### code that is never reached -/
def never : M D := fun _ _ => .bad
theorem e_never {X : Cx} {C : Ctx} {W : WX} {e : Expr} : PE X e (te C W never) where
  run := fun pins s σ H Q I q => by
    obtain ⟨env, st, B, _, _, p⟩ := q
    exact p.elim
end Ly
/-! Shared computations. -/
namespace Pg
open PySem PySem.Spec PyProof.Rows L2 Ly
def b_law_framed : MS := (mblock [(mset 1 (box (bin catN (tree (calls fList (args [(mvar 0)]))) (tree (dlst [(ret (.int 0))]))))),
  (mpre [] (mwhile 100000 (tst (bin opNe (bin opMod (calls fSumA (args [(mvar 1)])) (ret (.int 256))) (ret (.int 0)))) (mdrop [] (mblock [(msub (mvar 1) (un opNeg (ret (.int 1))) (bin opAdd (bin opIx (mvar 1) (un opNeg (ret (.int 1)))) (ret (.int 1))))])))),
  (mret (calls fTuple (args [(mvar 1)])))])
def f_law_framed : List D → Sto → R D := fn 1 2 b_law_framed
def b_law_is_frame : MS := (mblock [(mcond (mor (mnot (tst (un (opIsi ["tuple"]) (mvar 0)))) (mnot (tst (chain opLe opLe (ret (.int 2)) (calls fLen (args [(mvar 0)])) (ret (.int 20)))))) (mblock [(mret (ret (.bl false)))]) (mblock [])),
  (mcond (tst (bin opNe (tree (comp (walk (mvar 0)) (.nm 1) [1] (mor (mnot (tst (un (opIsi ["int"]) (mvar 1)))) (mor (tst (un (opIsi ["bool"]) (mvar 1))) (mnot (tst (chain opLe opLe (ret (.int 0)) (mvar 1) (ret (.int 255))))))) (mvar 1))) (tree (dlst [])))) (mblock [(mret (ret (.bl false)))]) (mblock [])),
  (mret (bin opEq (bin opMod (calls fSumA (args [(mvar 0)])) (ret (.int 256))) (ret (.int 0))))])
def f_law_is_frame : List D → Sto → R D := fn 1 2 b_law_is_frame
def b_law_bytes : MS := (mblock [(mret (calls fTuple (args [(tree (comp (range1 (args [(mvar 2)])) (.nm 3) [3] (ret true) (callF stdPick (args [(mvar 0), (bin opAdd (mvar 1) (mvar 3)), (bin opIx (tree (dlst [(ret (.int 256)), (ret (.int 3))])) (callF stdPick (args [(mvar 0), (bin opAdd (bin opAdd (mvar 1) (ret (.int 30))) (mvar 3)), (ret (.int 2))])))]))))])))])
def f_law_bytes : List D → Sto → R D := fn 3 4 b_law_bytes
def b_law_places (self : List D → Sto → R D) : MS := (mblock [(mset 1 (box (dlst [(dtup [])]))),
  (mcond (tst (un (opIsi ["tuple"]) (mvar 0))) (mblock [(mpre [2] (mfor (range1 (args [(calls fLen (args [(mvar 0)]))])) (.nm 2) (mdrop [2] (mblock [(mdo (meth "list" fExtendA (mvar 1) (args [(tree (comp (walk (callF self (args [(bin opIx (mvar 0) (mvar 2))]))) (.nm 3) [3] (ret true) (bin opAdd (dtup [(mvar 2)]) (mvar 3))))])))]))))]) (mblock [])),
  (mret (mvar 1))])
def f_law_places : Nat → List D → Sto → R D
  | 0 => fun _ _ => .bad
  | k + 1 => fn 1 4 (b_law_places (f_law_places k))
def b_law_put (self : List D → Sto → R D) : MS := (mblock [(mcond (tst (bin opEq (mvar 1) (dtup []))) (mblock [(mret (mvar 2))]) (mblock [])),
  (mset 3 (bin opIx (mvar 1) (ret (.int 0)))),
  (mret (bin opAdd (bin opAdd (slice opSl (mvar 0) (ret none) (part (mvar 3))) (dtup [(callF self (args [(bin opIx (mvar 0) (mvar 3)), (slice opSl (mvar 1) (part (ret (.int 1))) (ret none)), (mvar 2)]))])) (slice opSl (mvar 0) (part (bin opAdd (mvar 3) (ret (.int 1)))) (ret none))))])
def f_law_put : Nat → List D → Sto → R D
  | 0 => fun _ _ => .bad
  | k + 1 => fn 3 4 (b_law_put (f_law_put k))
def b_law_spoilt_thing : MS := (mblock [(mset 3 (callF (Pg.f_law_places 3) (args [(mvar 2)]))),
  (mset 4 (bin opIx (mvar 3) (callF stdPick (args [(mvar 0), (mvar 1), (calls fLen (args [(mvar 3)]))])))),
  (mset 5 (mvar 2)),
  (mpre [6] (mfor (walk (mvar 4)) (.nm 6) (mdrop [6] (mblock [(mset 5 (bin opIx (mvar 5) (mvar 6)))])))),
  (mset 7 (tree (dlst [(ret (.int 0)), (ret (.int 1)), (ret (.int 2)), (ret (.int 16)), (ret (.int 99)), (ret (.int 100)), (ret (.int 255)), (ret (.int 256)), (un opNeg (ret (.int 1))), (ret (.str ("read" : Str))), (ret (.str ("write" : Str))), (ret (.str ("done" : Str))), (ret (.bl true)), (ret .non), (dtup []), (tree (dlst [(ret (.int 0))]))]))),
  (mset 7 (tree (bin catN (mvar 7) (tree (dlst [(dtup [(ret (.int 1)), (ret (.int 2))]), (dtup [(mvar 5)]), (dtup [(mvar 5), (mvar 5)])]))))),
  (mset 8 (callF stdPick (args [(mvar 0), (bin opAdd (mvar 1) (ret (.int 1))), (ret (.int 25))]))),
  (mcond (tst (bin opLt (mvar 8) (ret (.int 19)))) (mblock [(mret (callF (Pg.f_law_put 3) (args [(mvar 2), (mvar 4), (bin opIx (mvar 7) (mvar 8))])))]) (mblock [])),
  (mcond (mand (tst (un (opIsi ["tuple"]) (mvar 5))) (tst (bin opNe (mvar 5) (dtup [])))) (mblock [(mset 6 (callF stdPick (args [(mvar 0), (bin opAdd (mvar 1) (ret (.int 2))), (calls fLen (args [(mvar 5)]))]))),
  (mret (callF (Pg.f_law_put 3) (args [(mvar 2), (mvar 4), (mif (tst (bin opLt (mvar 8) (ret (.int 22)))) (bin opAdd (slice opSl (mvar 5) (ret none) (part (mvar 6))) (slice opSl (mvar 5) (part (bin opAdd (mvar 6) (ret (.int 1)))) (ret none))) (bin opAdd (slice opSl (mvar 5) (ret none) (part (bin opAdd (mvar 6) (ret (.int 1))))) (slice opSl (mvar 5) (part (mvar 6)) (ret none))))])))]) (mblock [])),
  (mret (callF (Pg.f_law_put 3) (args [(mvar 2), (mvar 4), (mif (tst (un (opIsi ["int"]) (mvar 5))) (bin opSub (bin opAdd (mvar 5) (mvar 8)) (ret (.int 22))) (ret (.int 7)))])))])
def f_law_spoilt_thing : List D → Sto → R D := fn 3 9 b_law_spoilt_thing
end Pg
/-! Things of all sorts; spoilt things. -/
namespace Pg
open PySem PySem.Spec PyProof.Rows L2 Ly
/-- a plain datum: its sort is known without a store -/
def Pl : D → Bool
  | .non => true
  | .bl _ => true
  | .int _ => true
  | .str _ => true
  | .tup _ => true
  | .lst _ => true
  | _ => false
def wholeB (d : D) (l h : Int) : Bool := match d with
  | .int a => decide (l ≤ a) && decide (a ≤ h)
  | _ => false
theorem whole_gen {d : D} (hp : Pl d = true) (l h : Int) (st : Sto) : f_is_whole [d, .int l, .int h] st = .ok (.bl (wholeB d l h)) st := by
  cases d with
  | int a => exact whole_run a l h st
  | non =>
    unfold f_is_whole b_is_whole
    rw [fn_run (by rfl)]
    have t : opIsi ["int"] .non st = some (.bl false, st) := rfl
    simp -implicitDefEqProofs [t]
    exact gc0
  | bl b =>
    unfold f_is_whole b_is_whole
    rw [fn_run (by rfl)]
    have t : opIsi ["int"] (.bl b) st = some (.bl true, st) := rfl
    have t2 : opIsi ["bool"] (.bl b) st = some (.bl true, st) := rfl
    simp -implicitDefEqProofs [t, t2]
    exact gc0
  | str x =>
    unfold f_is_whole b_is_whole
    rw [fn_run (by rfl)]
    have t : opIsi ["int"] (.str x) st = some (.bl false, st) := rfl
    simp -implicitDefEqProofs [t]
    exact gc0
  | tup x =>
    unfold f_is_whole b_is_whole
    rw [fn_run (by rfl)]
    have t : opIsi ["int"] (.tup x) st = some (.bl false, st) := rfl
    simp -implicitDefEqProofs [t]
    exact gc0
  | lst x =>
    unfold f_is_whole b_is_whole
    rw [fn_run (by rfl)]
    have t : opIsi ["int"] (.lst x) st = some (.bl false, st) := rfl
    simp -implicitDefEqProofs [t]
    exact gc0
  | _ => cases hp
theorem bytes_tup {ds : List D} (hp : ∀ x ∈ ds, Pl x = true) (lo hi : Int) (st : Sto) : f_are_bytes [.tup ds, .int lo, .int hi] st = .ok (.bl ((decide (lo ≤ ds.length) && decide ((ds.length : Int) ≤ hi)) && ds.all fun x => wholeB x 0 255)) st := by
  unfold f_are_bytes b_are_bytes
  rw [fn_run (by rfl)]
  have t : opIsi ["list", "tuple"] (.tup ds) st = some (.bl true, st) := rfl
  have A : loopC (fun _ => true) (.nm 3) (ret true) (callF Pg.f_is_whole (args [(mvar 3), (ret (.int 0)), (ret (.int 255))])) [some (.tup ds), some (.int lo), some (.int hi), none] ds st = .ok (ds.map fun x => .bl (wholeB x 0 255)) st :=
    loopC_each _ (fun x => [some (.tup ds), some (.int lo), some (.int hi), some x]) ds fun x hx => ⟨rfl, by
      simp -implicitDefEqProofs [whole_gen (hp x hx)]⟩
  have B := fAll_f (fun x : D => wholeB x 0 255) ds st
  by_cases h1 : lo ≤ (ds.length : Int)
  · by_cases h2 : (ds.length : Int) ≤ hi
    · simp -implicitDefEqProofs [t, opLe, h1, h2, wipeE, A, B]
      exact gc0
    · simp -implicitDefEqProofs [t, opLe, h1, h2]
      exact gc0
  · simp -implicitDefEqProofs [t, opLe, h1]
    exact gc0
theorem bytes_lst {ds : List D} (hp : ∀ x ∈ ds, Pl x = true) (lo hi : Int) (st : Sto) : f_are_bytes [.lst ds, .int lo, .int hi] st = .ok (.bl ((decide (lo ≤ ds.length) && decide ((ds.length : Int) ≤ hi)) && ds.all fun x => wholeB x 0 255)) st := by
  unfold f_are_bytes b_are_bytes
  rw [fn_run (by rfl)]
  have t : opIsi ["list", "tuple"] (.lst ds) st = some (.bl true, st) := rfl
  have A : loopC (fun _ => true) (.nm 3) (ret true) (callF Pg.f_is_whole (args [(mvar 3), (ret (.int 0)), (ret (.int 255))])) [some (.lst ds), some (.int lo), some (.int hi), none] ds st = .ok (ds.map fun x => .bl (wholeB x 0 255)) st :=
    loopC_each _ (fun x => [some (.lst ds), some (.int lo), some (.int hi), some x]) ds fun x hx => ⟨rfl, by
      simp -implicitDefEqProofs [whole_gen (hp x hx)]⟩
  have B := fAll_f (fun x : D => wholeB x 0 255) ds st
  by_cases h1 : lo ≤ (ds.length : Int)
  · by_cases h2 : (ds.length : Int) ≤ hi
    · simp -implicitDefEqProofs [t, opLe, h1, h2, wipeE, A, B]
      exact gc0
    · simp -implicitDefEqProofs [t, opLe, h1, h2]
      exact gc0
  · simp -implicitDefEqProofs [t, opLe, h1]
    exact gc0
/-- neither list nor tuple -/
def nSeq : D → Bool
  | .non => true
  | .bl _ => true
  | .int _ => true
  | .str _ => true
  | _ => false
theorem bytes_no {d : D} (h : nSeq d = true) (lo hi : D) (st : Sto) : f_are_bytes [d, lo, hi] st = .ok (.bl false) st := by
  unfold f_are_bytes b_are_bytes
  rw [fn_run (by rfl)]
  have t : opIsi ["list", "tuple"] d st = some (.bl false, st) := by cases d <;> first | rfl | cases h
  simp -implicitDefEqProofs [t]
  exact gc0
/-- a thing that is looked at: its items' sorts are known -/
structure Good (d : D) : Prop where
  pl : Pl d = true
  its : ∀ ds, d = .tup ds → ∀ x ∈ ds, Pl x = true ∧ okN 59 x
theorem isInts : ∀ (ds : List D), (∀ x ∈ ds, ∃ a, x = D.int a) → ∃ xs : List Int, ds = xs.map .int
  | [], _ => ⟨[], rfl⟩
  | d :: ds, h => by
    obtain ⟨a, rfl⟩ := h d List.mem_cons_self
    obtain ⟨xs, rfl⟩ := isInts ds fun x hx => h x (List.mem_cons_of_mem _ hx)
    exact ⟨a :: xs, rfl⟩
theorem ne_nil {L : List D} (h : ∀ x ∈ L, okN 59 x) (st : Sto) : opNe (.lst L) (.lst []) st = some (.bl (!L.isEmpty), st) := by
  have k := okN_lst (n := 59) (xs := L) h
  have e : eqOf st (.lst L) (.lst []) = some (D.eq (.lst L) (.lst [])) := by
    unfold eqOf
    rw [show flat2 (.lst L) (.lst []) = none from rfl]
    dsimp only
    rw [top_lst, top_lst, if_pos (by rw [k.1, k.2]; rfl)]
  unfold opNe
  rw [e]
  cases L with
  | nil => simp [D.eq, D.eqL]
  | cons x r => simp [D.eq, D.eqL]
theorem law_frame_gen {ds : List D} (hp : ∀ x ∈ ds, Pl x = true ∧ okN 59 x) (st : Sto) (hs : (ds.all fun x => wholeB x 0 255) = true → ∃ S : Int, fSumA [.tup ds] st = some (.int S, st)) :
    f_law_is_frame [.tup ds] st = .ok (.bl ((decide (2 ≤ (ds.length : Int)) && decide ((ds.length : Int) ≤ 20)) && ((ds.all fun x => wholeB x 0 255) && (match fSumA [.tup ds] st with | some (.int S, _) => decide (S % 256 = 0) | _ => false)))) st := by
  unfold f_law_is_frame b_law_is_frame
  rw [fn_run (by rfl)]
  have t : opIsi ["tuple"] (.tup ds) st = some (.bl true, st) := rfl
  have A : loopC (fun _ => true) (.nm 1) (mor (mnot (tst (un (opIsi ["int"]) (mvar 1)))) (mor (tst (un (opIsi ["bool"]) (mvar 1))) (mnot (tst (chain opLe opLe (ret (.int 0)) (mvar 1) (ret (.int 255))))))) (mvar 1) [some (.tup ds), none] ds st = .ok (ds.filter fun x => !wholeB x 0 255) st := by
    have := loopC_map (p := .nm 1) (cond := (mor (mnot (tst (un (opIsi ["int"]) (mvar 1)))) (mor (tst (un (opIsi ["bool"]) (mvar 1))) (mnot (tst (chain opLe opLe (ret (.int 0)) (mvar 1) (ret (.int 255)))))))) (elt := mvar 1) (env := [some (.tup ds), none]) (st := st) id id (fun x => !wholeB x 0 255) (fun x => [some (.tup ds), some x]) ds fun x hx => ⟨rfl, (by
      have := (hp x hx).1
      cases x with
      | int a =>
        have t1 : opIsi ["int"] (.int a) st = some (.bl true, st) := rfl
        have t2 : opIsi ["bool"] (.int a) st = some (.bl false, st) := rfl
        by_cases h1 : (0 : Int) ≤ a
        · simp -implicitDefEqProofs [t1, t2, opLe, h1, wholeB]
        · simp -implicitDefEqProofs [t1, t2, opLe, h1, wholeB]
      | bl b =>
        have t1 : opIsi ["int"] (.bl b) st = some (.bl true, st) := rfl
        have t2 : opIsi ["bool"] (.bl b) st = some (.bl true, st) := rfl
        simp -implicitDefEqProofs [t1, t2, wholeB]
      | non =>
        have t1 : opIsi ["int"] .non st = some (.bl false, st) := rfl
        simp -implicitDefEqProofs [t1, wholeB]
      | str b =>
        have t1 : opIsi ["int"] (.str b) st = some (.bl false, st) := rfl
        simp -implicitDefEqProofs [t1, wholeB]
      | tup b =>
        have t1 : opIsi ["int"] (.tup b) st = some (.bl false, st) := rfl
        simp -implicitDefEqProofs [t1, wholeB]
      | lst b =>
        have t1 : opIsi ["int"] (.lst b) st = some (.bl false, st) := rfl
        simp -implicitDefEqProofs [t1, wholeB]
      | _ => cases this), fun _ => rfl⟩
    rwa [List.map_id, List.map_id] at this
  have N := ne_nil (L := ds.filter fun x => !wholeB x 0 255) (fun x hx => (hp x (List.mem_filter.mp hx).1).2) st
  have src : srcOf st (.tup ds) = some ⟨ds, fun _ => true⟩ := rfl
  have ln : fLen [.tup ds] st = some (.int (ds.length : Int), st) := rfl
  by_cases h1 : (2 : Int) ≤ (ds.length : Int)
  · by_cases h2 : (ds.length : Int) ≤ 20
    · rw [decide_eq_true h1, decide_eq_true h2]
      cases ha : ds.all fun x => wholeB x 0 255 with
      | true =>
        have e : (ds.filter fun x => !wholeB x 0 255) = [] := List.filter_eq_nil_iff.mpr fun x hx => by
          rw [List.all_eq_true.mp ha x hx]; decide
        obtain ⟨S, hS⟩ := hs ha
        rw [e] at N A
        have N : opNe (.lst []) (.lst []) st = some (.bl false, st) := N
        simp -implicitDefEqProofs [t, src, ln, opLe, h1, h2, wipeE, A, N, hS]
        exact gc0
      | false =>
        have e : (ds.filter fun x => !wholeB x 0 255).isEmpty = false := by
          obtain ⟨x, hx, hb⟩ := List.all_eq_false.mp ha
          have : x ∈ ds.filter fun x => !wholeB x 0 255 := List.mem_filter.mpr ⟨hx, by simpa using hb⟩
          cases q : ds.filter fun x => !wholeB x 0 255 with
          | nil => rw [q] at this; cases this
          | cons _ _ => rfl
        rw [e] at N
        generalize (ds.filter fun x => !wholeB x 0 255) = FL at *
        simp -implicitDefEqProofs [t, src, ln, opLe, h1, h2, wipeE, A, N]
        exact gc0
    · rw [decide_eq_false h2]
      simp -implicitDefEqProofs [t, ln, opLe, h1, h2]
      exact gc0
  · rw [decide_eq_false h1]
    simp -implicitDefEqProofs [t, ln, opLe, h1]
    exact gc0
theorem law_frame_run (xs : List Int) (st : Sto) : f_law_is_frame [tupD xs] st = .ok (.bl (isFr xs)) st := by
  have S : fSumA [.tup (xs.map .int)] st = some (.int xs.sum, st) := (Ints.tup (st := st) xs).sum
  have := law_frame_gen (ds := xs.map .int) (fun x hx => by
    obtain ⟨a, _, rfl⟩ := List.mem_map.mp hx
    exact ⟨rfl, okN_int _ _⟩) st fun _ => ⟨_, S⟩
  rw [S] at this
  show f_law_is_frame [.tup (xs.map .int)] st = _
  rw [this]
  unfold isFr
  rw [List.length_map, List.all_map]
  congr 2
  simp only [Bool.and_assoc]
  rfl
theorem good_cases {d : D} (h : Good d) : (∃ xs, d = tupD xs) ∨ (∀ st, f_is_frame [d] st = .ok (.bl false) st ∧ f_law_is_frame [d] st = .ok (.bl false) st) := by
  have nt : (∀ st, opIsi ["tuple"] d st = some (.bl false, st)) → ∀ st, f_is_frame [d] st = .ok (.bl false) st ∧ f_law_is_frame [d] st = .ok (.bl false) st := fun t st => by
    refine ⟨?_, ?_⟩
    · unfold f_is_frame b_is_frame
      rw [fn_run (by rfl)]
      simp -implicitDefEqProofs [t]
      exact gc0
    · unfold f_law_is_frame b_law_is_frame
      rw [fn_run (by rfl)]
      simp -implicitDefEqProofs [t]
      exact gc0
  have pl := h.pl
  cases d with
  | tup ds =>
    have hp := h.its ds rfl
    cases ha : ds.all fun x => wholeB x 0 255 with
    | true =>
      left
      obtain ⟨xs, rfl⟩ := isInts ds fun x hx => by
        have := List.all_eq_true.mp ha x hx
        cases x with
        | int a => exact ⟨a, rfl⟩
        | _ => cases this
      exact ⟨xs, rfl⟩
    | false =>
      right
      intro st
      refine ⟨?_, ?_⟩
      · unfold f_is_frame b_is_frame
        rw [fn_run (by rfl)]
        have t : opIsi ["tuple"] (.tup ds) st = some (.bl true, st) := rfl
        have B := bytes_tup (fun x hx => (hp x hx).1) 2 20 st
        rw [ha, Bool.and_false] at B
        simp -implicitDefEqProofs [t, B]
        exact gc0
      · have := law_frame_gen hp st fun z => by rw [ha] at z; cases z
        rw [this, ha]
        simp
  | non => exact .inr (nt fun _ => rfl)
  | bl b => exact .inr (nt fun _ => rfl)
  | int b => exact .inr (nt fun _ => rfl)
  | str b => exact .inr (nt fun _ => rfl)
  | lst b => exact .inr (nt fun _ => rfl)
  | _ => cases pl
end Pg
/-! What the laws make: frames of bytes, drawn bytes, spoilt things. -/
namespace Pg
open PySem PySem.Spec PyProof.Rows L2 Ly
theorem atI_end {α : Type} (xs : List α) (a : α) : atI (xs ++ [a]) (-1) = some a := by
  unfold atI
  rw [List.length_append, List.length_singleton, ixN_last]
  simp
theorem framed_loop {ps : List Int} {g : Sto} {x0 : Option D} (hl : ps.length ≤ 1000) {t : Nat} (ht : (ps.sum + (t : Int)) % 256 = 0) {body : MS} (hb : body = mdrop [] (mblock [(msub (mvar 1) (un opNeg (ret (.int 1))) (bin opAdd (bin opIx (mvar 1) (un opNeg (ret (.int 1)))) (ret (.int 1))))])) :
    ∀ (m i n : Nat), i + m = t → m < 256 → m < n → mwhile n (tst (bin opNe (bin opMod (calls fSumA (args [(mvar 1)])) (ret (.int 256))) (ret (.int 0)))) body [x0, some (.ref g.length)] (g ++ [.lst ((ps ++ [(i : Int)]).map .int)])
      = .nx [x0, some (.ref g.length)] (g ++ [.lst ((ps ++ [(t : Int)]).map .int)])
  | m, i, 0, _, _, hn => by omega
  | m, i, n + 1, hi, h256, hn => by
    have c0 : (g ++ [Cell.lst ((ps ++ [(i : Int)]).map .int)])[g.length]? = some (.lst ((ps ++ [(i : Int)]).map .int)) := by simp
    have S := (Ints.ref c0).sum
    have es : (ps ++ [(i : Int)]).sum = ps.sum + i := by rw [List.sum_append]; simp
    rw [es] at S
    cases m with
    | zero =>
      have e : i = t := by omega
      subst e
      have md : opMod (.int (ps.sum + (i : Int))) (.int 256) (g ++ [.lst ((ps ++ [(i : Int)]).map .int)]) = some (.int 0, g ++ [.lst ((ps ++ [(i : Int)]).map .int)]) := by
        show some (D.int ((ps.sum + (i : Int)) % 256), _) = _
        rw [ht]
      refine while_stop ?_
      simp -implicitDefEqProofs only [List.map_append, List.map_cons, List.map_nil] at S md ⊢
      simp -implicitDefEqProofs [S, md, -List.map_append]
    | succ m =>
      have nz : (ps.sum + (i : Int)) % 256 ≠ 0 := by omega
      have md : opMod (.int (ps.sum + (i : Int))) (.int 256) (g ++ [.lst ((ps ++ [(i : Int)]).map .int)]) = some (.int ((ps.sum + (i : Int)) % 256), g ++ [.lst ((ps ++ [(i : Int)]).map .int)]) := rfl
      have ih := framed_loop (x0 := x0) (g := g) hl ht hb m (i + 1) n (by omega) (by omega) (by omega)
      rw [← ih]
      have ix : opIx (.ref g.length) (.int (-1)) (g ++ [.lst ((ps ++ [(i : Int)]).map .int)]) = some (.int (i : Int), g ++ [.lst ((ps ++ [(i : Int)]).map .int)]) := by
        rw [opIx_ref c0, List.map_append, List.map_cons, List.map_nil, atI_end]; rfl
      have iN : ixN (ps.length + 1) (-1) = some ps.length := ixN_last _
      refine while_go (st1 := g ++ [.lst ((ps ++ [(i : Int)]).map .int)]) ?_ ?_
      · simp -implicitDefEqProofs only [List.map_append, List.map_cons, List.map_nil] at S md ⊢
        simp -implicitDefEqProofs [S, md, nz, -List.map_append]
      · subst hb
        have ng : ∀ s, opNeg (.int 1) s = some (.int (-1), s) := fun _ => rfl
        have sl : ((ps.map D.int) ++ [D.int (i : Int)]).set ps.length (.int ((i : Int) + 1)) = ps.map D.int ++ [D.int ((i : Int) + 1)] := by
          have := set_last (ps.map D.int) (D.int (i : Int)) (D.int ((i : Int) + 1))
          rwa [List.length_map] at this
        simp -implicitDefEqProofs only [List.map_append, List.map_cons, List.map_nil] at ix c0 ⊢
        have lg : ((ps.map D.int) ++ [D.int (i : Int)]).length = ps.length + 1 := by simp
        simp -implicitDefEqProofs [ng, ix, iN, sl, -List.map_append, set_last]
theorem law_framed_run {st : Sto} {d : D} {xs : List Int} (h : Ints st d xs) (hl : xs.length ≤ 1000) : f_law_framed [d] st = .ok (tupD (fr xs)) st := by
  obtain ⟨t, ht⟩ : ∃ t : Nat, (256 - xs.sum % 256) % 256 = t := ⟨((256 - xs.sum % 256) % 256).toNat, by omega⟩
  unfold f_law_framed b_law_framed
  rw [fn_run (by rfl)]
  have L := framed_loop (ps := xs) (g := st) (x0 := some d) hl (t := t) (by omega) rfl t 0 100000 (by omega) (by omega) (by omega)
  have fl := h.list
  have z : xs.length + 1 ≤ sizeLine := sz _ (by omega)
  generalize hw : mwhile 100000 _ _ = W at L ⊢
  have c0 : (st ++ [Cell.lst ((xs ++ [(t : Int)]).map .int)])[st.length]? = some (.lst ((xs ++ [(t : Int)]).map .int)) := by simp
  have T := (Ints.ref c0).tuple
  have eF : tupD (fr xs) = .tup ((xs ++ [(t : Int)]).map .int) := by unfold fr; rw [ht]; rfl
  rw [eF]
  simp -implicitDefEqProofs only [List.map_append, List.map_cons, List.map_nil, Int.natCast_zero] at L T ⊢
  simp -implicitDefEqProofs [fl, z, L, T, -List.map_append]
  refine gcR_new ?_
  have := clL_ints st.length (xs ++ [(t : Int)])
  rw [List.map_append] at this
  simpa using this
theorem atI_mem {l : List D} {w : Int} (h0 : 0 ≤ w) (h1 : w < l.length) : ∃ x ∈ l, atI l w = some x := by
  obtain ⟨k, rfl⟩ := Int.eq_ofNat_of_zero_le h0
  have hk : k < l.length := by omega
  exact ⟨l[k], List.getElem_mem hk, atI_nat (List.getElem?_eq_getElem hk)⟩
theorem law_bytes_run {ns : List Int} (h : ns.length ≤ 63) {a : Int} (h0 : 0 ≤ a) (n : Nat) (hn : n ≤ 100) : ∃ xs, Byt xs ∧ xs.length = n ∧ ∀ st, f_law_bytes [.scr ns, .int a, .int (n : Int)] st = .ok (tupD xs) st := by
  obtain ⟨M, hM⟩ : ∃ M : Nat → Int, ∀ i, M i = if pk ns (a + 30 + (i : Int)) 2 = 0 then 256 else 3 := ⟨fun i => if pk ns (a + 30 + (i : Int)) 2 = 0 then 256 else 3, fun _ => rfl⟩
  have m1 : ∀ i, 0 < M i ∧ M i ≤ 256 := fun i => by
    rw [hM]
    split <;> decide
  refine ⟨(List.range n).map fun (i : Nat) => pk ns (a + (i : Int)) (M i), fun x hx => ?_, by simp, fun st => ?_⟩
  · obtain ⟨i, _, rfl⟩ := List.mem_map.mp hx
    have := pk_range ns (a + (i : Int)) (m1 i).1
    have := (m1 i).2
    omega
  · unfold f_law_bytes b_law_bytes
    rw [fn_run (by rfl)]
    have e1 := range1_nat (n := n) (by omega)
    have A : ∀ s, loopC (fun _ => true) (.nm 3) (ret true) (callF stdPick (args [(mvar 0), (bin opAdd (mvar 1) (mvar 3)), (bin opIx (tree (dlst [(ret (.int 256)), (ret (.int 3))])) (callF stdPick (args [(mvar 0), (bin opAdd (bin opAdd (mvar 1) (ret (.int 30))) (mvar 3)), (ret (.int 2))])))]))
        [some (.scr ns), some (.int a), some (.int (n : Int)), none] (rng 0 n) s = .ok (((List.range n).map fun (i : Nat) => pk ns (a + (i : Int)) (M i)).map .int) s := fun s => by
      rw [rng_map, List.map_map]
      exact loopC_all rfl (fun (i : Nat) => D.int (0 + (i : Int))) _ (fun i => [some (.scr ns), some (.int a), some (.int (n : Int)), some (.int (0 + (i : Int)))]) (List.range n) fun i _ => ⟨rfl, by
        have p1 := pick_any h (a + 30 + (i : Int)) 2 s (by omega) (by decide)
        have p2 := pick_any h (a + (i : Int)) (M i) s (by omega) (m1 i).1
        have r := pk_range ns (a + 30 + (i : Int)) (m := 2) (by decide)
        have ix : atI [D.int 256, .int 3] (pk ns (a + 30 + (i : Int)) 2) = some (.int (M i)) := by
          rw [hM]
          have w : pk ns (a + 30 + (i : Int)) 2 = 0 ∨ pk ns (a + 30 + (i : Int)) 2 = 1 := by omega
          rcases w with w | w <;> rw [w] <;> rfl
        simp -implicitDefEqProofs [p1, ix, p2]⟩
    have T1 : ∀ s, fTuple [.lst (((List.range n).map fun (i : Nat) => pk ns (a + (i : Int)) (M i)).map .int)] s = some (tupD ((List.range n).map fun (i : Nat) => pk ns (a + (i : Int)) (M i)), s) := fun s => (Ints.lst (st := s) _).tuple
    generalize (List.range n).map (fun (i : Nat) => pk ns (a + (i : Int)) (M i)) = xs at *
    simp -implicitDefEqProofs [e1, wipeE, A, T1]
    exact gc0 (by simp [tupD, clL_ints])
/-! ### places, and something else put there -/
theorem places_int (x : Int) (st : Sto) (n : Nat) : f_law_places (n + 1) [.int x] st = .ok (.lst [.tup []]) st := by
  unfold f_law_places b_law_places
  rw [fn_run (by rfl)]
  have t : ∀ s, opIsi ["tuple"] (.int x) s = some (.bl false, s) := fun _ => rfl
  simp -implicitDefEqProofs [t]
  exact gcR_made (Nat.le_refl _) (by simp) (by simp [D.clL, D.cl])
def placesD (n : Nat) : List D := .tup [] :: (List.range n).map fun (j : Nat) => D.tup [.int (j : Int)]
theorem places_run {fs : List Int} (hl : fs.length ≤ 1000) (st : Sto) : f_law_places 3 [tupD fs] st = .ok (.lst (placesD fs.length)) st := by
  unfold f_law_places b_law_places
  rw [fn_run (by rfl)]
  generalize hb : mdrop [2] _ = bd
  have t : ∀ s, opIsi ["tuple"] (tupD fs) s = some (.bl true, s) := fun _ => rfl
  have ln : ∀ s, fLen [tupD fs] s = some (.int (fs.length : Int), s) := fun s => (Ints.tup (st := s) fs).len
  have e1 := range1_nat (n := fs.length) (by omega)
  obtain ⟨e2, s2, hf, rfl, rfl⟩ := forX_map (p := .nm 2) (body := bd) (fun (i : Nat) => D.int (0 + (i : Int))) (List.range fs.length)
    (fun k e s => e = [some (tupD fs), some (.ref st.length), none, none] ∧ s = st ++ [.lst (placesD k)]) (e := [some (tupD fs), some (.ref st.length), none, none]) (st := st ++ [.lst [.tup []]]) ⟨rfl, rfl⟩ (by
      intro j hj e s ⟨he, hs⟩
      subst he hs hb
      rw [List.length_range] at hj
      rw [List.getElem_range]
      have c0 : (st ++ [Cell.lst (placesD j)])[st.length]? = some (.lst (placesD j)) := by simp
      have i0 := isOf_ref c0
      have lp : (placesD j).length = j + 1 := by unfold placesD; simp
      have ex := extA_lst c0 (zs := [.tup [.int (j : Int)]]) (by rw [lp]; exact sz _ (by simp; omega))
      have sl : (st ++ [Cell.lst (placesD j)]).set st.length (.lst (placesD j ++ [.tup [.int (j : Int)]])) = st ++ [.lst (placesD (j + 1))] := by
        rw [set_last]
        unfold placesD
        rw [List.range_succ, List.map_append]
        simp
      rw [sl] at ex
      have ix : ∀ s, opIx (tupD fs) (.int (j : Int)) s = some (.int (fs.getD j 0), s) := fun s => by
        show (atI (fs.map D.int) (j : Int)).map _ = _
        rw [atI_map fs (j : Int) (by omega) (by omega)]; rfl
      have P := fun s => places_int (fs.getD j 0) s 1
      refine ⟨_, rfl, _, _, .inl ?_, rfl, rfl⟩
      have lc : ∀ s, loopC (fun _ => true) (.nm 3) (ret true) (bin opAdd (dtup [(mvar 2)]) (mvar 3)) [some (tupD fs), some (.ref st.length), some (.int (j : Int)), none] [.tup []] s = .ok [.tup [.int (j : Int)]] s := fun s => by
        simp -implicitDefEqProofs [loopC]
      generalize hP : f_law_places (1 + 1) = PP at *
      have P2 : ∀ s, (f_law_places 2) [.int (fs.getD j 0)] s = .ok (.lst [.tup []]) s := fun s => by rw [show f_law_places 2 = PP from hP]; exact P s
      simp -implicitDefEqProofs [i0, ix, P, P2, wipeE, lc, ex, -List.getD_eq_getElem?_getD])
  rw [List.length_range] at hf
  rw [← rng_map] at hf
  simp -implicitDefEqProofs [t, ln, e1, hf]
  exact gcR_made (Nat.le_refl _) (by simp) (by
    unfold placesD
    simp only [D.clL, D.cl, Bool.true_and]
    exact clL_map _ _ (fun j => by simp [D.cl, D.clL]) _)
/-- what may be put somewhere -/
structure Item (d : D) : Prop where
  pl : Pl d = true
  ok : okN 59 d
  cl : ∀ n, D.cl n d = true
theorem put_top {d v : D} (hv : ∀ n, D.cl n v = true) (n : Nat) (st : Sto) : f_law_put (n + 1) [d, .tup [], v] st = .ok v st := by
  unfold f_law_put b_law_put
  rw [fn_run (by rfl)]
  have e : ∀ s, opEq (.tup []) (.tup []) s = some (.bl true, s) := fun s => eq_refl (okN_tup (n := 59) fun _ h => by cases h)
  simp -implicitDefEqProofs [e]
  exact gc0 (hv _)
def putD (fs : List Int) (k : Nat) (v : D) : List D := (fs.take k).map .int ++ [v] ++ (fs.drop (k + 1)).map .int
theorem put_in {fs : List Int} (hl : fs.length ≤ 1000) {k : Nat} (hk : k < fs.length) {v : D} (hv : ∀ n, D.cl n v = true) (st : Sto) : f_law_put 3 [tupD fs, .tup [.int (k : Int)], v] st = .ok (.tup (putD fs k v)) st := by
  have P := fun s => put_top (d := .int (fs.getD k 0)) hv 1 s
  unfold f_law_put b_law_put
  rw [fn_run (by rfl)]
  have e : ∀ s, opEq (.tup [.int (k : Int)]) (.tup []) s = some (.bl false, s) := fun s => by
    show opEq (.tup ([(k : Int)].map .int)) (.tup []) s = _
    rw [eq_tup (good_intsT [(k : Int)]) good_nilT]
    simp
  have ix : ∀ s, opIx (tupD fs) (.int (k : Int)) s = some (.int (fs.getD k 0), s) := fun s => by
    show (atI (fs.map D.int) (k : Int)).map _ = _
    rw [atI_map fs (k : Int) (by omega) (by omega)]; rfl
  have s1 : ∀ s, opSl none (some (k : Int)) (tupD fs) s = some (.tup ((fs.take k).map .int), s) := fun s => by
    show some (D.tup (cut (fs.map D.int) none (some (k : Int))), s) = _
    rw [cut_map, cut_to]
  have s2 : ∀ s, opSl (some ((k : Int) + 1)) none (tupD fs) s = some (.tup ((fs.drop (k + 1)).map .int), s) := fun s => by
    show some (D.tup (cut (fs.map D.int) (some ((k : Int) + 1)) none), s) = _
    rw [cut_map, show (k : Int) + 1 = ((k + 1 : Nat) : Int) from rfl, cut_from]
  have s3 : ∀ s, opSl (some 1) none (.tup [.int (k : Int)]) s = some (.tup [], s) := fun _ => rfl
  have z1 : ((fs.take k).map D.int).length + 1 ≤ sizeLine := sz _ (by rw [List.length_map, List.length_take]; omega)
  have z2 : ((fs.take k).map D.int).length + 1 + ((fs.drop (k + 1)).map D.int).length ≤ sizeLine := sz _ (by rw [List.length_map, List.length_take, List.length_map, List.length_drop]; omega)
  have cl : D.clL st.length ((fs.take k).map .int ++ [v] ++ (fs.drop (k + 1)).map .int) = true := by
    have c1 := clL_ints st.length (fs.take k)
    have c2 := clL_ints st.length (fs.drop (k + 1))
    have app : ∀ a b : List D, D.clL st.length a = true → D.clL st.length b = true → D.clL st.length (a ++ b) = true := fun a => by
      induction a with
      | nil => intro b _ h; exact h
      | cons x r ih =>
        intro b h1 h2
        simp only [D.clL, Bool.and_eq_true] at h1
        simp only [List.cons_append, D.clL, Bool.and_eq_true]
        exact ⟨h1.1, ih b h1.2 h2⟩
    exact app _ _ (app _ _ c1 (by simp [D.clL, hv])) c2
  have fin : gcR st (.ok (.tup (putD fs k v)) st) = .ok (.tup (putD fs k v)) st := gc0 (by unfold putD; simpa [D.cl] using cl)
  have P2 : ∀ s, f_law_put 2 [.int (fs.getD k 0), .tup [], v] s = .ok v s := P
  unfold putD at fin ⊢
  generalize (fs.take k).map D.int = A at *
  generalize (fs.drop (k + 1)).map D.int = B at *
  rw [List.append_assoc, List.singleton_append] at fin ⊢
  generalize hP : f_law_put 2 = PP at *
  simp -implicitDefEqProofs [e, ix, s1, s2, s3, z1, z2, P2, -List.getD_eq_getElem?_getD]
  exact fin
theorem item_int (a : Int) : Item (.int a) := ⟨rfl, okN_int _ _, fun _ => rfl⟩
theorem item_str {s : Str} (h : PyData.strOk s = true) : Item (.str s) := ⟨rfl, okN_str _ h, fun _ => rfl⟩
theorem item_tup {ds : List D} (h : ∀ x ∈ ds, okN 58 x ∧ ∀ n, D.cl n x = true) : Item (.tup ds) := ⟨rfl, okN_tup fun x hx => (h x hx).1, fun n => by
  have : ∀ l : List D, (∀ x ∈ l, D.cl n x = true) → D.clL n l = true := fun l => by
    induction l with
    | nil => intro _; rfl
    | cons x r ih => intro hh; simp only [D.clL, Bool.and_eq_true]; exact ⟨hh x List.mem_cons_self, ih fun y hy => hh y (List.mem_cons_of_mem _ hy)⟩
  exact this ds fun x hx => (h x hx).2 n⟩
theorem good_put {fs : List Int} {k : Nat} {v : D} (h : Item v) : Good (.tup (putD fs k v)) ∧ ∀ n, D.cl n (.tup (putD fs k v)) = true := by
  have all : ∀ x ∈ putD fs k v, Pl x = true ∧ okN 59 x ∧ ∀ n, D.cl n x = true := fun x hx => by
    unfold putD at hx
    rcases List.mem_append.mp hx with hx | hx
    · rcases List.mem_append.mp hx with hx | hx
      · obtain ⟨a, _, rfl⟩ := List.mem_map.mp hx
        exact ⟨rfl, okN_int _ _, fun _ => rfl⟩
      · rw [List.mem_singleton.mp hx]
        exact ⟨h.pl, h.ok, h.cl⟩
    · obtain ⟨a, _, rfl⟩ := List.mem_map.mp hx
      exact ⟨rfl, okN_int _ _, fun _ => rfl⟩
  refine ⟨⟨rfl, fun ds e x hx => by cases e; exact ⟨(all x hx).1, (all x hx).2.1⟩⟩, fun n => ?_⟩
  have : ∀ l : List D, (∀ x ∈ l, D.cl n x = true) → D.clL n l = true := fun l => by
    induction l with
    | nil => intro _; rfl
    | cons x r ih => intro hh; simp only [D.clL, Bool.and_eq_true]; exact ⟨hh x List.mem_cons_self, ih fun y hy => hh y (List.mem_cons_of_mem _ hy)⟩
  exact this _ fun x hx => (all x hx).2.2 n
/-- the things that are put somewhere -/
def someD (h : D) : List D := [.int 0, .int 1, .int 2, .int 16, .int 99, .int 100, .int 255, .int 256, .int (-1), .str ("read" : Str), .str ("write" : Str), .str ("done" : Str), .bl true, .non, .tup [], .lst [.int 0], .tup [.int 1, .int 2], .tup [h], .tup [h, h]]
theorem some_item {h : D} (k : okN 58 h) (c : ∀ n, D.cl n h = true) : ∀ x ∈ someD h, Item x := fun x hx => by
  unfold someD at hx
  simp only [List.mem_cons, List.mem_nil_iff, or_false] at hx
  rcases hx with rfl | rfl | rfl | rfl | rfl | rfl | rfl | rfl | rfl | rfl | rfl | rfl | rfl | rfl | rfl | rfl | rfl | rfl | rfl
  · exact item_int _
  · exact item_int _
  · exact item_int _
  · exact item_int _
  · exact item_int _
  · exact item_int _
  · exact item_int _
  · exact item_int _
  · exact item_int _
  · exact item_str (by decide +kernel)
  · exact item_str (by decide +kernel)
  · exact item_str (by decide +kernel)
  · exact ⟨rfl, okN_bl _ _, fun _ => rfl⟩
  · exact ⟨rfl, okN_non _, fun _ => rfl⟩
  · exact item_tup fun x hx => by cases hx
  · exact ⟨rfl, okN_lst (n := 58) fun x hx => by rw [List.mem_singleton.mp hx]; exact okN_int _ _, fun _ => rfl⟩
  · exact item_tup fun x hx => by
      simp only [List.mem_cons, List.mem_nil_iff, or_false] at hx
      rcases hx with rfl | rfl <;> exact ⟨okN_int _ _, fun _ => rfl⟩
  · exact item_tup fun x hx => by rw [List.mem_singleton.mp hx]; exact ⟨k, c⟩
  · exact item_tup fun x hx => by
      simp only [List.mem_cons, List.mem_nil_iff, or_false] at hx
      rcases hx with rfl | rfl <;> exact ⟨k, c⟩
theorem some_good {h : D} (k : okN 59 h) (hp : Pl h = true) : ∀ x ∈ someD h, Good x := fun x hx => by
  unfold someD at hx
  simp only [List.mem_cons, List.mem_nil_iff, or_false] at hx
  have flat : ∀ y : D, Pl y = true → (∀ ds, y ≠ .tup ds) → Good y := fun y h1 h2 => ⟨h1, fun ds e => absurd e (h2 ds)⟩
  rcases hx with rfl | rfl | rfl | rfl | rfl | rfl | rfl | rfl | rfl | rfl | rfl | rfl | rfl | rfl | rfl | rfl | rfl | rfl | rfl
  · exact flat _ rfl fun _ z => by cases z
  · exact flat _ rfl fun _ z => by cases z
  · exact flat _ rfl fun _ z => by cases z
  · exact flat _ rfl fun _ z => by cases z
  · exact flat _ rfl fun _ z => by cases z
  · exact flat _ rfl fun _ z => by cases z
  · exact flat _ rfl fun _ z => by cases z
  · exact flat _ rfl fun _ z => by cases z
  · exact flat _ rfl fun _ z => by cases z
  · exact flat _ rfl fun _ z => by cases z
  · exact flat _ rfl fun _ z => by cases z
  · exact flat _ rfl fun _ z => by cases z
  · exact flat _ rfl fun _ z => by cases z
  · exact flat _ rfl fun _ z => by cases z
  · exact ⟨rfl, fun ds e x hx => by cases e; cases hx⟩
  · exact flat _ rfl fun _ z => by cases z
  · refine ⟨rfl, fun ds e x hx => ?_⟩
    cases e
    simp only [List.mem_cons, List.mem_nil_iff, or_false] at hx
    rcases hx with rfl | rfl <;> exact ⟨rfl, okN_int _ _⟩
  · refine ⟨rfl, fun ds e x hx => ?_⟩
    cases e
    rw [List.mem_singleton.mp hx]
    exact ⟨hp, k⟩
  · refine ⟨rfl, fun ds e x hx => ?_⟩
    cases e
    simp only [List.mem_cons, List.mem_nil_iff, or_false] at hx
    rcases hx with rfl | rfl <;> exact ⟨hp, k⟩
theorem good_ints (xs : List Int) : Good (tupD xs) := ⟨rfl, fun ds e x hx => by
  unfold tupD at e
  cases e
  obtain ⟨a, _, rfl⟩ := List.mem_map.mp hx
  exact ⟨rfl, okN_int _ _⟩⟩
set_option maxHeartbeats 16000000 in
/-- a frame with something else at a drawn place, or something more or less there -/
theorem spoilt_run {ns : List Int} (h : ns.length ≤ 63) {a : Int} (h0 : 0 ≤ a) {fs : List Int} (hl : 2 ≤ fs.length ∧ fs.length ≤ 100) : ∃ d, Good d ∧ ∀ st, f_law_spoilt_thing [.scr ns, .int a, tupD fs] st = .ok d st := by
  have P1 := fun s => pick_any h a ((fs.length : Int) + 1) s h0 (by omega)
  have P2 := fun s => pick_any h (a + 1) 25 s (by omega) (by decide)
  have r1 := pk_range ns a (m := (fs.length : Int) + 1) (by omega)
  have r2 := pk_range ns (a + 1) (m := 25) (by decide)
  have PR := fun s => places_run (fs := fs) (by omega) s
  have ln : ∀ s, fLen [.lst (placesD fs.length)] s = some (.int ((fs.length : Int) + 1), s) := fun s => by
    show some (D.int ((placesD fs.length).length : Int), s) = _
    unfold placesD
    simp
  obtain ⟨j, hj⟩ : ∃ j : Nat, pk ns a ((fs.length : Int) + 1) = j := ⟨(pk ns a ((fs.length : Int) + 1)).toNat, by omega⟩
  rw [hj] at P1 r1
  obtain ⟨w, hw⟩ : ∃ w : Int, pk ns (a + 1) 25 = w := ⟨_, rfl⟩
  rw [hw] at P2 r2
  have ng : ∀ s, opNeg (.int 1) s = some (.int (-1), s) := fun _ => rfl
  have z19 : 19 ≤ sizeLine := sz _ (by decide)
  have lt : ∀ s, opLt (.int w) (.int 19) s = some (.bl (decide (w < 19)), s) := fun _ => rfl
  have lt2 : ∀ s, opLt (.int w) (.int 22) s = some (.bl (decide (w < 22)), s) := fun _ => rfl
  have walkT : ∀ (l : List D) s, srcOf s (.tup l) = some ⟨l, fun _ => true⟩ := fun _ _ => rfl
  have lf : ∀ s, fLen [tupD fs] s = some (.int (fs.length : Int), s) := fun s => (Ints.tup (st := s) fs).len
  cases j with
  | zero =>
    have ix0 : ∀ s, opIx (.lst (placesD fs.length)) (.int ((0 : Nat) : Int)) s = some (.tup [], s) := fun s => by
      show (atI (placesD fs.length) 0).map _ = _
      unfold placesD
      rw [atI_zero]; rfl
    by_cases w19 : w < 19
    · rw [decide_eq_true w19] at lt
      obtain ⟨x, hx, ex⟩ := atI_mem (l := someD (tupD fs)) r2.1 (by show w < ((19 : Nat) : Int); omega)
      have it := some_item (okN_tupD 57 fs) (fun n => by simp [tupD, clL_ints]) x hx
      refine ⟨x, some_good (okN_tupD 58 fs) rfl x hx, fun st => ?_⟩
      have ixw : ∀ s, opIx (.lst (someD (tupD fs))) (.int w) s = some (x, s) := fun s => by
        show (atI (someD (tupD fs)) w).map _ = _
        rw [ex]; rfl
      have PT := fun s => put_top (d := tupD fs) it.cl 2 s
      have PT : ∀ s, f_law_put 3 [tupD fs, .tup [], x] s = .ok x s := PT
      have fin : gcR st (.ok x st) = .ok x st := gc0 (it.cl _)
      unfold f_law_spoilt_thing b_law_spoilt_thing
      rw [fn_run (by rfl)]
      unfold someD at ixw
      rw [Int.natCast_zero] at P1 ix0
      generalize f_law_put 3 = PP at *
      generalize f_law_places 3 = PL at *
      generalize placesD fs.length = PD at *
      simp -implicitDefEqProofs [PR, ln, P1, ix0, walkT, forX, ng, z19, P2, lt, ixw, PT]
      exact fin
    · rw [decide_eq_false w19] at lt
      have P3 := fun s => pick_any h (a + 2) (fs.length : Int) s (by omega) (by omega)
      have r3 := pk_range ns (a + 2) (m := (fs.length : Int)) (by omega)
      obtain ⟨q, hq⟩ : ∃ q : Nat, pk ns (a + 2) (fs.length : Int) = q := ⟨(pk ns (a + 2) (fs.length : Int)).toNat, by omega⟩
      rw [hq] at P3 r3
      have tI : ∀ s, opIsi ["tuple"] (tupD fs) s = some (.bl true, s) := fun _ => rfl
      have nE : ∀ s, opNe (tupD fs) (.tup []) s = some (.bl true, s) := fun s => by
        show opNe (.tup (fs.map .int)) (.tup []) s = _
        rw [ne_tup (good_intsT fs) good_nilT]
        have : fs.map D.int ≠ [] := fun z => by
          have := congrArg List.length z
          rw [List.length_map, List.length_nil] at this
          omega
        rw [decide_eq_false this]; rfl
      have s1 : ∀ s, opSl none (some (q : Int)) (tupD fs) s = some (.tup ((fs.take q).map .int), s) := fun s => by
        show some (D.tup (cut (fs.map D.int) none (some (q : Int))), s) = _
        rw [cut_map, cut_to]
      have s2 : ∀ s, opSl (some ((q : Int) + 1)) none (tupD fs) s = some (.tup ((fs.drop (q + 1)).map .int), s) := fun s => by
        show some (D.tup (cut (fs.map D.int) (some ((q : Int) + 1)) none), s) = _
        rw [cut_map, show (q : Int) + 1 = ((q + 1 : Nat) : Int) from rfl, cut_from]
      have s3 : ∀ s, opSl none (some ((q : Int) + 1)) (tupD fs) s = some (.tup ((fs.take (q + 1)).map .int), s) := fun s => by
        show some (D.tup (cut (fs.map D.int) none (some ((q : Int) + 1))), s) = _
        rw [cut_map, show (q : Int) + 1 = ((q + 1 : Nat) : Int) from rfl, cut_to]
      have s4 : ∀ s, opSl (some (q : Int)) none (tupD fs) s = some (.tup ((fs.drop q).map .int), s) := fun s => by
        show some (D.tup (cut (fs.map D.int) (some (q : Int)) none), s) = _
        rw [cut_map, cut_from]
      have ad : ∀ (x y : List Int) s, x.length ≤ 200 → y.length ≤ 200 → opAdd (.tup (x.map .int)) (.tup (y.map .int)) s = some (tupD (x ++ y), s) := fun x y s h1 h2 => by
        rw [opAdd_tup, List.length_map, List.length_map, if_pos (sz _ (by omega)), ← List.map_append]; rfl
      have PT : ∀ (x : List Int) s, f_law_put 3 [tupD fs, .tup [], tupD x] s = .ok (tupD x) s := fun x s => put_top (d := tupD fs) (v := tupD x) (fun n => by simp [tupD, clL_ints]) 2 s
      have fin : ∀ (x : List Int) st, gcR st (.ok (tupD x) st) = .ok (tupD x) st := fun x st => gc0 (by simp [tupD, clL_ints])
      by_cases w22 : w < 22
      · rw [decide_eq_true w22] at lt2
        refine ⟨tupD (fs.take q ++ fs.drop (q + 1)), good_ints _, fun st => ?_⟩
        have a1 := fun s => ad (fs.take q) (fs.drop (q + 1)) s (by rw [List.length_take]; omega) (by rw [List.length_drop]; omega)
        have pt := PT (fs.take q ++ fs.drop (q + 1))
        have fi := fin (fs.take q ++ fs.drop (q + 1)) st
        unfold f_law_spoilt_thing b_law_spoilt_thing
        rw [fn_run (by rfl)]
        rw [Int.natCast_zero] at P1 ix0
        clear ad PT fin
        generalize (fs.take q).map D.int = A1 at *
        generalize (fs.drop (q + 1)).map D.int = A2 at *
        generalize tupD (fs.take q ++ fs.drop (q + 1)) = N at *
        generalize f_law_put 3 = PP at *
        generalize f_law_places 3 = PL at *
        generalize placesD fs.length = PD at *
        simp -implicitDefEqProofs [PR, ln, P1, ix0, walkT, forX, ng, z19, P2, lt, tI, nE, lf, P3, lt2, s1, s2, a1, pt, -opAdd_tup]
        exact fi
      · rw [decide_eq_false w22] at lt2
        refine ⟨tupD (fs.take (q + 1) ++ fs.drop q), good_ints _, fun st => ?_⟩
        have a1 := fun s => ad (fs.take (q + 1)) (fs.drop q) s (by rw [List.length_take]; omega) (by rw [List.length_drop]; omega)
        have pt := PT (fs.take (q + 1) ++ fs.drop q)
        have fi := fin (fs.take (q + 1) ++ fs.drop q) st
        unfold f_law_spoilt_thing b_law_spoilt_thing
        rw [fn_run (by rfl)]
        rw [Int.natCast_zero] at P1 ix0
        clear ad PT fin
        generalize (fs.take (q + 1)).map D.int = A1 at *
        generalize (fs.drop q).map D.int = A2 at *
        generalize tupD (fs.take (q + 1) ++ fs.drop q) = N at *
        generalize f_law_put 3 = PP at *
        generalize f_law_places 3 = PL at *
        generalize placesD fs.length = PD at *
        simp -implicitDefEqProofs [PR, ln, P1, ix0, walkT, forX, ng, z19, P2, lt, tI, nE, lf, P3, lt2, s3, s4, a1, pt, -opAdd_tup]
        exact fi
  | succ k =>
    have hk : k < fs.length := by omega
    have ix0 : ∀ s, opIx (.lst (placesD fs.length)) (.int ((k : Int) + 1)) s = some (.tup [.int (k : Int)], s) := fun s => by
      show (atI (placesD fs.length) ((k : Int) + 1)).map _ = _
      rw [show (k : Int) + 1 = ((k + 1 : Nat) : Int) from rfl]
      have : (placesD fs.length)[k + 1]? = some (.tup [.int (k : Int)]) := by
        unfold placesD
        rw [List.getElem?_cons_succ, List.getElem?_map, List.getElem?_range hk]; rfl
      rw [atI_nat this]; rfl
    rw [show ((k + 1 : Nat) : Int) = (k : Int) + 1 from rfl] at P1
    have ix : ∀ s, opIx (tupD fs) (.int (k : Int)) s = some (.int (fs.getD k 0), s) := fun s => by
      show (atI (fs.map D.int) (k : Int)).map _ = _
      rw [atI_map fs (k : Int) (by omega) (by omega)]; rfl
    by_cases w19 : w < 19
    · rw [decide_eq_true w19] at lt
      obtain ⟨x, hx, ex⟩ := atI_mem (l := someD (.int (fs.getD k 0))) r2.1 (by show w < ((19 : Nat) : Int); omega)
      have it := some_item (okN_int 58 (fs.getD k 0)) (fun _ => rfl) x hx
      have G := good_put (fs := fs) (k := k) it
      refine ⟨.tup (putD fs k x), G.1, fun st => ?_⟩
      have ixw : ∀ s, opIx (.lst (someD (.int (fs.getD k 0)))) (.int w) s = some (x, s) := fun s => by
        show (atI (someD (.int (fs.getD k 0))) w).map _ = _
        rw [ex]; rfl
      have PT := fun s => put_in (fs := fs) (by omega) hk it.cl s
      have fin : gcR st (.ok (.tup (putD fs k x)) st) = .ok (.tup (putD fs k x)) st := gc0 (G.2 _)
      unfold f_law_spoilt_thing b_law_spoilt_thing
      rw [fn_run (by rfl)]
      unfold someD at ixw
      generalize D.tup (putD fs k x) = N at *
      generalize f_law_put 3 = PP at *
      generalize f_law_places 3 = PL at *
      generalize placesD fs.length = PD at *
      simp -implicitDefEqProofs [PR, ln, P1, ix0, ix, walkT, forX, ng, z19, P2, lt, ixw, PT, -List.getD_eq_getElem?_getD]
      exact fin
    · rw [decide_eq_false w19] at lt
      have it := item_int (fs.getD k 0 + w - 22)
      have G := good_put (fs := fs) (k := k) it
      refine ⟨.tup (putD fs k (.int (fs.getD k 0 + w - 22))), G.1, fun st => ?_⟩
      have PT := fun s => put_in (fs := fs) (by omega) hk it.cl s
      have fin : gcR st (.ok (.tup (putD fs k (.int (fs.getD k 0 + w - 22)))) st) = .ok (.tup (putD fs k (.int (fs.getD k 0 + w - 22)))) st := gc0 (G.2 _)
      have tI : ∀ s, opIsi ["tuple"] (.int (fs.getD k 0)) s = some (.bl false, s) := fun _ => rfl
      have iI : ∀ s, opIsi ["int"] (.int (fs.getD k 0)) s = some (.bl true, s) := fun _ => rfl
      unfold f_law_spoilt_thing b_law_spoilt_thing
      rw [fn_run (by rfl)]
      generalize D.tup (putD fs k (.int (fs.getD k 0 + w - 22))) = N at *
      generalize f_law_put 3 = PP at *
      generalize f_law_places 3 = PL at *
      generalize placesD fs.length = PD at *
      simp -implicitDefEqProofs [PR, ln, P1, ix0, ix, walkT, forX, ng, z19, P2, lt, tI, iI, PT, -List.getD_eq_getElem?_getD]
      exact fin
end Pg
namespace K01
open PySem PySem.Spec PyProof.Rows L2 Ly
def topS (i : Nat) : Stmt := PySem.Challenge.pw_lineasks_k01_frames.main.body.getD i (.Pass ⟨0, 0, 0, 0⟩)
abbrev s_is_whole : Stmt := topS 12
abbrev s_Line_init : Stmt := inClass (topS 30) 0
abbrev s_Line_next_mark : Stmt := inClass (topS 30) 1
abbrev s_Line_used : Stmt := inClass (topS 30) 4
abbrev s_text_of : Stmt := topS 33
abbrev s_law_cell : Stmt := topS 36
abbrev s_law_word : Stmt := topS 41
abbrev s_law_framed : Stmt := topS 43
abbrev s_law_is_frame : Stmt := topS 44
abbrev s_are_bytes : Stmt := topS 13
abbrev s_Line_back : Stmt := inClass (topS 30) 2
abbrev s_law_pick : Stmt := topS 37
abbrev s_is_frame : Stmt := topS 14
abbrev s_framed : Stmt := topS 16
abbrev s_are_values : Stmt := topS 21
abbrev s_law_bytes : Stmt := topS 42
abbrev s_look_frame : Stmt := topS 15
abbrev s_is_ask : Stmt := topS 22
abbrev s_is_answer : Stmt := topS 25
abbrev s_law_places : Stmt := topS 38
abbrev s_law_put : Stmt := topS 39
abbrev s_ask_in : Stmt := topS 23
abbrev s_answer_in : Stmt := topS 26
abbrev s_Line_send : Stmt := inClass (topS 30) 3
abbrev s_frame_text : Stmt := topS 34
abbrev s_law_spoilt_thing : Stmt := topS 40
abbrev s_frame_ask : Stmt := topS 24
abbrev s_frame_answer : Stmt := topS 27
abbrev s_law_do : Stmt := topS 45
abbrev s_law : Stmt := topS 46
theorem sc_is_whole : FnScope ["thing", "low", "high"] ["thing", "low", "high"] (defScope s_is_whole) := ⟨rfl, rfl, rfl, by decide +kernel, rfl, by decide +kernel, by decide +kernel⟩
theorem sc_Line_init : FnScope ["self", "stations", "marks", "one"] ["self", "stations", "marks"] (defScope s_Line_init) := ⟨rfl, rfl, rfl, by decide +kernel, rfl, by decide +kernel, by decide +kernel⟩
theorem sc_Line_next_mark : FnScope ["self"] ["self"] (defScope s_Line_next_mark) := ⟨rfl, rfl, rfl, by decide +kernel, rfl, by decide +kernel, by decide +kernel⟩
theorem sc_Line_used : FnScope ["self"] ["self"] (defScope s_Line_used) := ⟨rfl, rfl, rfl, by decide +kernel, rfl, by decide +kernel, by decide +kernel⟩
theorem sc_text_of : FnScope ["frame", "one"] ["frame"] (defScope s_text_of) := ⟨rfl, rfl, rfl, by decide +kernel, rfl, by decide +kernel, by decide +kernel⟩
theorem sc_law_cell : FnScope ["_law_script", "_law_k"] ["_law_script", "_law_k"] (defScope s_law_cell) := ⟨rfl, rfl, rfl, by decide +kernel, rfl, by decide +kernel, by decide +kernel⟩
theorem sc_law_word : FnScope ["_law_kept", "_law_kinds", "_law_words"] ["_law_kept"] (defScope s_law_word) := ⟨rfl, rfl, rfl, by decide +kernel, rfl, by decide +kernel, by decide +kernel⟩
theorem sc_law_framed : FnScope ["_law_parts", "_law_made"] ["_law_parts"] (defScope s_law_framed) := ⟨rfl, rfl, rfl, by decide +kernel, rfl, by decide +kernel, by decide +kernel⟩
theorem sc_law_is_frame : FnScope ["_law_thing", "_law_one"] ["_law_thing"] (defScope s_law_is_frame) := ⟨rfl, rfl, rfl, by decide +kernel, rfl, by decide +kernel, by decide +kernel⟩
theorem sc_are_bytes : FnScope ["thing", "low", "high", "one"] ["thing", "low", "high"] (defScope s_are_bytes) := ⟨rfl, rfl, rfl, by decide +kernel, rfl, by decide +kernel, by decide +kernel⟩
theorem sc_Line_back : FnScope ["self", "frame", "heard", "mark"] ["self", "frame", "heard"] (defScope s_Line_back) := ⟨rfl, rfl, rfl, by decide +kernel, rfl, by decide +kernel, by decide +kernel⟩
theorem sc_law_pick : FnScope ["_law_script", "_law_k", "_law_many", "_law_drawn"] ["_law_script", "_law_k", "_law_many"] (defScope s_law_pick) := ⟨rfl, rfl, rfl, by decide +kernel, rfl, by decide +kernel, by decide +kernel⟩
theorem sc_is_frame : FnScope ["thing"] ["thing"] (defScope s_is_frame) := ⟨rfl, rfl, rfl, by decide +kernel, rfl, by decide +kernel, by decide +kernel⟩
theorem sc_framed : FnScope ["parts"] ["parts"] (defScope s_framed) := ⟨rfl, rfl, rfl, by decide +kernel, rfl, by decide +kernel, by decide +kernel⟩
theorem sc_are_values : FnScope ["thing"] ["thing"] (defScope s_are_values) := ⟨rfl, rfl, rfl, by decide +kernel, rfl, by decide +kernel, by decide +kernel⟩
theorem sc_law_bytes : FnScope ["_law_script", "_law_at", "_law_many", "_law_k"] ["_law_script", "_law_at", "_law_many"] (defScope s_law_bytes) := ⟨rfl, rfl, rfl, by decide +kernel, rfl, by decide +kernel, by decide +kernel⟩
theorem sc_look_frame : FnScope ["frame"] ["frame"] (defScope s_look_frame) := ⟨rfl, rfl, rfl, by decide +kernel, rfl, by decide +kernel, by decide +kernel⟩
theorem sc_is_ask : FnScope ["thing"] ["thing"] (defScope s_is_ask) := ⟨rfl, rfl, rfl, by decide +kernel, rfl, by decide +kernel, by decide +kernel⟩
theorem sc_is_answer : FnScope ["thing"] ["thing"] (defScope s_is_answer) := ⟨rfl, rfl, rfl, by decide +kernel, rfl, by decide +kernel, by decide +kernel⟩
theorem sc_law_places : FnScope ["_law_thing", "_law_made", "_law_k", "_law_place"] ["_law_thing"] (defScope s_law_places) := ⟨rfl, rfl, rfl, by decide +kernel, rfl, by decide +kernel, by decide +kernel⟩
theorem sc_law_put : FnScope ["_law_thing", "_law_place", "_law_new", "_law_k"] ["_law_thing", "_law_place", "_law_new"] (defScope s_law_put) := ⟨rfl, rfl, rfl, by decide +kernel, rfl, by decide +kernel, by decide +kernel⟩
theorem sc_ask_in : FnScope ["frame", "parts", "made"] ["frame"] (defScope s_ask_in) := ⟨rfl, rfl, rfl, by decide +kernel, rfl, by decide +kernel, by decide +kernel⟩
theorem sc_answer_in : FnScope ["frame", "parts", "made"] ["frame"] (defScope s_answer_in) := ⟨rfl, rfl, rfl, by decide +kernel, rfl, by decide +kernel, by decide +kernel⟩
theorem sc_Line_send : FnScope ["self", "thing", "heard", "mark", "station", "told"] ["self", "thing"] (defScope s_Line_send) := ⟨rfl, rfl, rfl, by decide +kernel, rfl, by decide +kernel, by decide +kernel⟩
theorem sc_frame_text : FnScope ["frame"] ["frame"] (defScope s_frame_text) := ⟨rfl, rfl, rfl, by decide +kernel, rfl, by decide +kernel, by decide +kernel⟩
theorem sc_law_spoilt_thing : FnScope ["_law_script", "_law_at", "_law_thing", "_law_spots", "_law_place", "_law_here", "_law_k", "_law_some", "_law_way"] ["_law_script", "_law_at", "_law_thing"] (defScope s_law_spoilt_thing) := ⟨rfl, rfl, rfl, by decide +kernel, rfl, by decide +kernel, by decide +kernel⟩
theorem sc_frame_ask : FnScope ["frame"] ["frame"] (defScope s_frame_ask) := ⟨rfl, rfl, rfl, by decide +kernel, rfl, by decide +kernel, by decide +kernel⟩
theorem sc_frame_answer : FnScope ["frame"] ["frame"] (defScope s_frame_answer) := ⟨rfl, rfl, rfl, by decide +kernel, rfl, by decide +kernel, by decide +kernel⟩
theorem sc_law_do : FnScope ["_law_what", "_law_thing", "_law_kept", "_law_answer", "e"] ["_law_what", "_law_thing"] (defScope s_law_do) := ⟨rfl, rfl, rfl, by decide +kernel, rfl, by decide +kernel, by decide +kernel⟩
theorem sc_law : FnScope ["_law_script", "_law_parts", "_law_frame", "_law_other", "_law_thing", "_law_more", "_law_k", "_law_odd", "_law_some", "_law_at", "_law_told", "_law_what"] ["_law_script"] (defScope s_law) := ⟨rfl, rfl, rfl, by decide +kernel, rfl, by decide +kernel, by decide +kernel⟩
/-! the defs -/
def LX : List Str := ["NoFrame", "NoNumber"]
def b_law_word : MS := (mblock [(mset 1 (box (dlst [(un (opIsx "Fixed" LX) (mvar 0)), (un (opIsx "NoAnswer" LX) (mvar 0)), (un (opIsx "NoAsk" LX) (mvar 0)), (un (opIsx "NoFrame" LX) (mvar 0))]))),
  (mdo (meth "list" fExtendA (mvar 1) (args [(tree (dlst [(un (opIsx "NoNumber" LX) (mvar 0)), (un (opIsx "NoPlace" LX) (mvar 0)), (un (opIsx "NoStation" LX) (mvar 0))]))]))),
  (mdo (meth "list" fExtendA (mvar 1) (args [(tree (dlst [(un (opIsx "NoText" LX) (mvar 0))]))]))),
  (mcond (mor (tst (bin opNe (meth "list" fCount (mvar 1) (args [(ret (.bl true))])) (ret (.int 1)))) (mor (mnot (tst (un (opIsa LX) (mvar 0)))) (mnot (tst (un (opIsa LX) (mvar 0)))))) (mblock [(mret (ret (.str ("wrong" : Str))))]) (mblock [])),
  (mset 2 (tree (dlst [(ret (.str ("fixed" : Str))), (ret (.str ("no answer" : Str))), (ret (.str ("no ask" : Str))), (ret (.str ("no frame" : Str))), (ret (.str ("no number" : Str))), (ret (.str ("no place" : Str))), (ret (.str ("no station" : Str))), (ret (.str ("no text" : Str)))]))),
  (mret (bin opIx (mvar 2) (meth "list" fIndex (mvar 1) (args [(ret (.bl true))]))))])
def f_law_word : List D → Sto → R D := fn 1 3 b_law_word
def b_Line_send : MS := (mblock [(mdo (callF Pg.f_look_frame (args [(mvar 1)]))),
  (mset 2 (un (attrD "Line" "waiting") (mvar 0))),
  (mfld "Line" "waiting" (mvar 0) (box (dlst []))),
  (mset 3 (callO "Line" "next_mark" Pg.f_Line_next_mark (mvar 0) (args []))),
  (mcond (tst (bin opInA (mvar 3) (dtup [(ret (.str ("well" : Str))), (ret (.str ("late" : Str)))]))) (mblock [(mpre [4, 5] (mfor (walk (un (attrD "Line" "stations") (mvar 0))) (.nm 4) (mdrop [4, 5] (mblock [(mset 5 never),
  (mcond (mand (tst (bin opNotN (mvar 5) (ret .non))) (tst (bin opEq (mvar 3) (ret (.str ("well" : Str)))))) (mblock [(mdo (callO "Line" "back" Pg.f_Line_back (mvar 0) (args [(mvar 5), (mvar 2)])))]) (mblock []))]))))]) (mblock [])),
  (mret (mvar 2))])
def f_Line_send : List D → Sto → R D := fn 2 6 b_Line_send
def b_law_do : MS := (mblock [(mset 2 (ret .non)),
  (mset 3 (ret .non)),
  (mtry LX 4 (mblock [(mcond (tst (bin opLt (mvar 0) (ret (.int 4)))) (mblock [(mset 3 (callE [(("framed" : Str), Pg.f_framed), (("frame_ask" : Str), Pg.f_frame_ask), (("frame_answer" : Str), Pg.f_frame_answer), (("frame_text" : Str), Pg.f_frame_text)] (bin opIx (tree (dlst [(ret (.glo ("framed" : Str))), (ret (.glo ("frame_ask" : Str))), (ret (.glo ("frame_answer" : Str))), (ret (.glo ("frame_text" : Str)))])) (mvar 0)) (args [(mvar 1)])))]) (mblock [(mset 3 (callO "Line" "send" f_Line_send (mkO "Line" Pg.f_Line_init (args [(tree (dlst [])), (tree (dlst []))])) (args [(mvar 1)])))]))]) (mblock [(mset 2 (mvar 4))])),
  (mcond (tst (bin opIsN (mvar 2) (ret .non))) (mblock [(mret (mvar 3))]) (mblock [])),
  (mret (callF f_law_word (args [(mvar 2)])))])
def f_law_do : List D → Sto → R D := fn 2 5 b_law_do
def b_law : MS := (mblock [(mset 1 (callF Pg.f_law_bytes (args [(mvar 0), (ret (.int 10)), (bin opAdd (ret (.int 1)) (callF stdPick (args [(mvar 0), (ret (.int 1)), (ret (.int 19))])))]))),
  (mset 2 (callF Pg.f_law_framed (args [(mvar 1)]))),
  (mcond (mor (tst (bin opNe (callF f_law_do (args [(ret (.int 0)), (mvar 1)])) (mvar 2))) (mor (tst (bin opNe (callF f_law_do (args [(ret (.int 0)), (tree (calls fList (args [(mvar 1)])))])) (mvar 2))) (tst (bin opNotB (callF Pg.f_is_frame (args [(mvar 2)])) (ret (.bl true)))))) (mblock [(mret (ret (.bl false)))]) (mblock [])),
  (mpar 9 5 (args [(callF stdPick (args [(mvar 0), (ret (.int 2)), (calls fLen (args [(mvar 2)]))])), (bin opAdd (ret (.int 1)) (callF stdPick (args [(mvar 0), (ret (.int 3)), (ret (.int 255))])))])),
  (mset 3 (bin opAdd (bin opAdd (slice opSl (mvar 2) (ret none) (part (mvar 9))) (dtup [(bin opMod (bin opAdd (bin opIx (mvar 2) (mvar 9)) (mvar 5)) (ret (.int 256)))])) (slice opSl (mvar 2) (part (bin opAdd (mvar 9) (ret (.int 1)))) (ret none)))),
  (mpre [4, 10] (mfor (walk (tree (dlst [(mvar 3), (bin opAdd (slice opSl (mvar 2) (ret none) (part (mvar 9))) (slice opSl (mvar 2) (part (bin opAdd (mvar 9) (ret (.int 1)))) (ret none))), (bin opAdd (mvar 2) (dtup [(mvar 5)])), (bin opAdd (bin opAdd (slice opSl (mvar 2) (ret none) (part (mvar 9))) (dtup [(mvar 5)])) (slice opSl (mvar 2) (part (mvar 9)) (ret none))), (tree (calls fList (args [(mvar 2)])))]))) (.nm 4) (mdrop [4, 10] (mblock [(mset 10 (callF Pg.f_is_frame (args [(mvar 4)]))),
  (mcond (mor (tst (bin opNe (mvar 10) (callF Pg.f_law_is_frame (args [(mvar 4)])))) (mnot (tst (un (opIsi ["bool"]) (mvar 10))))) (mblock [(mret (ret (.bl false)))]) (mblock []))])))),
  (mpre [5] (mfor (walk (dtup [(ret (.int 1)), (ret (.int 64)), (ret (.int 128)), (ret (.int 255))])) (.nm 5) (mdrop [5] (mblock [(mcond (tst (bin opNotB (callF Pg.f_is_frame (args [(bin opAdd (bin opAdd (slice opSl (mvar 2) (ret none) (part (mvar 9))) (dtup [(bin opMod (bin opAdd (bin opIx (mvar 2) (mvar 9)) (mvar 5)) (ret (.int 256)))])) (slice opSl (mvar 2) (part (bin opAdd (mvar 9) (ret (.int 1)))) (ret none)))])) (ret (.bl false)))) (mblock [(mret (ret (.bl false)))]) (mblock []))])))),
  (mcond (mor (tst (bin opNotB (callF Pg.f_is_frame (args [(mvar 3)])) (ret (.bl false)))) (tst (bin opNe (tree (comp (walk (dtup [(dtup [(ret (.int 0))]), (tree (dlst [(ret (.int 128)), (ret (.int 128))]))])) (.nm 4) [4] (ret true) (callF f_law_do (args [(ret (.int 0)), (mvar 4)])))) (tree (dlst [(dtup [(ret (.int 0)), (ret (.int 0))]), (dtup [(ret (.int 128)), (ret (.int 128)), (ret (.int 0))])]))))) (mblock [(mret (ret (.bl false)))]) (mblock [])),
  (mpre [4, 6, 10] (mfor (range1 (args [(ret (.int 8))])) (.nm 6) (mdrop [4, 6, 10] (mblock [(mset 4 (callF Pg.f_law_spoilt_thing (args [(mvar 0), (bin opAdd (ret (.int 100)) (bin opMul (ret (.int 10)) (mvar 6))), (mvar 2)]))),
  (mset 10 (callF Pg.f_is_frame (args [(mvar 4)]))),
  (mcond (mor (tst (bin opNe (mvar 10) (callF Pg.f_law_is_frame (args [(mvar 4)])))) (mnot (tst (un (opIsi ["bool"]) (mvar 10))))) (mblock [(mret (ret (.bl false)))]) (mblock [])),
  (mcond (mand (mnot (tst (mvar 10))) (tst (bin opNe (tree (comp (range2 (args [(ret (.int 1)), (ret (.int 5))])) (.nm 11) [11] (ret true) (callF f_law_do (args [(mvar 11), (mvar 4)])))) (tree (bin repN2 (tree (dlst [(ret (.str ("no frame" : Str)))])) (ret (.int 4))))))) (mblock [(mret (ret (.bl false)))]) (mblock []))])))),
  (mset 7 (tree (dlst [(dtup []), (tree (dlst [])), (dtup [(ret (.int 256))]), (dtup [(un opNeg (ret (.int 1)))]), (dtup [(ret (.bl true))]), (dtup [(ret .non)]), (bin opMul (dtup [(ret (.int 0))]) (ret (.int 20))), (ret .non), (ret (.int 5)), (ret (.str ("0" : Str))), (dtup [(ret (.str ("0" : Str)))])]))),
  (mcond (tst (bin opNe (tree (comp (walk (mvar 7)) (.nm 4) [4] (ret true) (callF f_law_do (args [(ret (.int 0)), (mvar 4)])))) (tree (bin repN2 (tree (dlst [(ret (.str ("no frame" : Str)))])) (ret (.int 11)))))) (mblock [(mret (ret (.bl false)))]) (mblock [])),
  (mset 8 (tree (dlst [(dtup [(ret (.int 0)), (ret (.int 0))]), (bin opMul (dtup [(ret (.int 0))]) (ret (.int 20))), (dtup [(ret (.int 255)), (ret (.int 1))]), (dtup [(ret (.int 0))]), (bin opMul (dtup [(ret (.int 0))]) (ret (.int 21))), (dtup [(ret (.int 128)), (ret (.int 127))]), (dtup [(ret (.int 256)), (ret (.int 0))]), (dtup [(ret (.int 0)), (ret (.bl false))]), (ret .non)]))),
  (mret (bin opEq (tree (comp (walk (mvar 8)) (.nm 4) [4] (ret true) (callF Pg.f_is_frame (args [(mvar 4)])))) (tree (bin catN (tree (bin repN2 (tree (dlst [(ret (.bl true))])) (ret (.int 3)))) (tree (bin repN2 (tree (dlst [(ret (.bl false))])) (ret (.int 6))))))))])
def f_law : List D → Sto → R D := fn 1 12 b_law
/-! what the top has written -/
structure Txt (K : PySem.W.Frag) (mg : Str → Option Value) : Prop where
  b_ValueError : mg "ValueError" = none
  b_all : mg "all" = none
  b_bool : mg "bool" = none
  b_int : mg "int" = none
  b_isinstance : mg "isinstance" = none
  b_len : mg "len" = none
  b_list : mg "list" = none
  b_range : mg "range" = none
  b_str : mg "str" = none
  b_sum : mg "sum" = none
  b_tuple : mg "tuple" = none
  c_FIGURES : ∃ t, mg "FIGURES" = some (.str ("0123456789abcdef" : Str) t)
  c_LONGEST : ∃ t, mg "LONGEST" = some (.int 20 t)
  c_MOST_STATIONS : ∃ t, mg "MOST_STATIONS" = some (.int 99 t)
  c_MOST_VALUES : ∃ t, mg "MOST_VALUES" = some (.int 8 t)
  c_NUMBERS : ∃ t, mg "NUMBERS" = some (.int 16 t)
  c_WORDS : GlT K mg "WORDS" [("well" : Str), ("lost" : Str), ("spoilt" : Str), ("late" : Str)]
  x_NoFrame : ExcF K mg "NoFrame"
  x_NoNumber : ExcF K mg "NoNumber"
  a_Line_gone : AttrF K mg "Line" "gone"
  a_Line_marks : AttrF K mg "Line" "marks"
  a_Line_stations : AttrF K mg "Line" "stations"
  a_Line_waiting : AttrF K mg "Line" "waiting"
  i_Fixed : IsxF K mg "Fixed" LX
  i_NoAnswer : IsxF K mg "NoAnswer" LX
  i_NoAsk : IsxF K mg "NoAsk" LX
  i_NoFrame : IsxF K mg "NoFrame" LX
  i_NoNumber : IsxF K mg "NoNumber" LX
  i_NoPlace : IsxF K mg "NoPlace" LX
  i_NoStation : IsxF K mg "NoStation" LX
  i_NoText : IsxF K mg "NoText" LX
  u_LineError : IsuF K mg "LineError" LX
  k_LineError : CatF K mg "LineError" LX
  v_ValueError : IsaF K mg "ValueError" LX
  F_is_whole : StF K mg "is_whole" "is_whole" s_is_whole ["thing", "low", "high"]
  F_Line_init : InitF K mg "Line" "Line.__init__" s_Line_init ["self", "stations", "marks"]
  F_Line_next_mark : MethF K mg "Line" "next_mark" "Line.next_mark" s_Line_next_mark ["self"]
  F_Line_used : MethF K mg "Line" "used" "Line.used" s_Line_used ["self"]
  F_text_of : StF K mg "text_of" "text_of" s_text_of ["frame"]
  F_law_cell : StF K mg "_law_cell" "_law_cell" s_law_cell ["_law_script", "_law_k"]
  F_law_word : StF K mg "_law_word" "_law_word" s_law_word ["_law_kept"]
  F_law_framed : StF K mg "_law_framed" "_law_framed" s_law_framed ["_law_parts"]
  F_law_is_frame : StF K mg "_law_is_frame" "_law_is_frame" s_law_is_frame ["_law_thing"]
  F_are_bytes : StF K mg "are_bytes" "are_bytes" s_are_bytes ["thing", "low", "high"]
  F_Line_back : MethF K mg "Line" "back" "Line.back" s_Line_back ["self", "frame", "heard"]
  F_law_pick : StF K mg "_law_pick" "_law_pick" s_law_pick ["_law_script", "_law_k", "_law_many"]
  F_is_frame : StF K mg "is_frame" "is_frame" s_is_frame ["thing"]
  F_framed : StF K mg "framed" "framed" s_framed ["parts"]
  F_are_values : StF K mg "are_values" "are_values" s_are_values ["thing"]
  F_law_bytes : StF K mg "_law_bytes" "_law_bytes" s_law_bytes ["_law_script", "_law_at", "_law_many"]
  F_look_frame : StF K mg "look_frame" "look_frame" s_look_frame ["frame"]
  F_is_ask : StF K mg "is_ask" "is_ask" s_is_ask ["thing"]
  F_is_answer : StF K mg "is_answer" "is_answer" s_is_answer ["thing"]
  F_law_places : StF K mg "_law_places" "_law_places" s_law_places ["_law_thing"]
  F_law_put : StF K mg "_law_put" "_law_put" s_law_put ["_law_thing", "_law_place", "_law_new"]
  F_ask_in : StF K mg "ask_in" "ask_in" s_ask_in ["frame"]
  F_answer_in : StF K mg "answer_in" "answer_in" s_answer_in ["frame"]
  F_Line_send : MethF K mg "Line" "send" "Line.send" s_Line_send ["self", "thing"]
  F_frame_text : StF K mg "frame_text" "frame_text" s_frame_text ["frame"]
  F_law_spoilt_thing : StF K mg "_law_spoilt_thing" "_law_spoilt_thing" s_law_spoilt_thing ["_law_script", "_law_at", "_law_thing"]
  F_frame_ask : StF K mg "frame_ask" "frame_ask" s_frame_ask ["frame"]
  F_frame_answer : StF K mg "frame_answer" "frame_answer" s_frame_answer ["frame"]
  F_law_do : StF K mg "_law_do" "_law_do" s_law_do ["_law_what", "_law_thing"]
  F_law : StF K mg "law" "law" s_law ["_law_script"]
section
variable {P : Program} {w : World} {K : PySem.W.Frag} {mg : Str → Option Value} {base : Heap} {S : Addr} {ns : List Int} {TT : List (Addr × Str)} {up : Option (Bd × Addr)}
theorem ok_is_whole (T : Txt K mg) : Df P w K mg base ⟨K, mg, S, ns, TT, up⟩ 1 "is_whole" 3 Pg.f_is_whole := df_ok T.F_is_whole sc_is_whole fun f cdv A outer s H E hr =>
  (ss_one (s_ret (e_and (e_isi (hg := rfl) (hm := T.b_isinstance) (hgT := rfl) (hmT := T.b_int) (hv := bt_int) (ht := by decide) (hn := by decide) (hd := by decide) (ha := (e_var 0))) (e_and (e_not (e_isi (hg := rfl) (hm := T.b_isinstance) (hgT := rfl) (hmT := T.b_bool) (hv := bt_bool) (ht := by decide) (hn := by decide) (hd := by decide) (ha := (e_var 0)))) (e_one (e_le_le (ha := (e_var 1)) (hb := (e_var 0)) (hc := (e_var 2))))))))
theorem ok_Line_init (T : Txt K mg) : Dn P w K mg base ⟨K, mg, S, ns, TT, up⟩ 1 "Line" 3 Pg.f_Line_init := dn_ok T.F_Line_init sc_Line_init fun f cdv A outer s H E hr =>
  (ss_cons (s_if (t_w (w_or (t_not (t_val (e_isi2 (hg := rfl) (hm := T.b_isinstance) (hgT := rfl) (hmT := T.b_list) (hv := bt_list) (ht := by decide) (hn := by decide) (hd := by decide) (hgT' := rfl) (hmT' := T.b_tuple) (hv' := bt_tuple) (ht' := by decide) (hn' := by decide) (hd' := by decide) (ha := (e_var 2))))) (w_or1 (t_not (t_val (e_all (hg := rfl) (hm := T.b_all) (ha := (a_cons (e_tree (n_comp (own := [(("one" : Str), 3)]) (p := (.nm 3)) (hN := sc_Line_init.nd) (hi := (i_walk (h := (e_var 2)))) (ok := blkOk_by (N := ["self", "stations", "marks", "one"]) (sc := defScope s_Line_init) (by decide +kernel)) (hg := (fun _ _ _ _ _ => (g_name (i := 3) sc_Line_init.nd))) (ht := (fun _ _ _ _ _ => ts_nil)) (he := (fun _ _ _ _ _ => (e_and (e_isi (hg := rfl) (hm := T.b_isinstance) (hgT := rfl) (hmT := T.b_str) (hv := bt_str) (ht := by decide) (hn := by decide) (hd := by decide) (ha := (e_var 3))) (e_one (e_inA (hu := u65 hr) (ha := (e_var 3)) (hb := (e_globT T.c_WORDS))))))))) a_nil)))))))) (ss_one (s_raise (tk := takes_of rfl rfl rfl rfl) (F := T.x_NoNumber))) ss_nil)
  (ss_cons (s_fld (F := T.a_Line_stations) (ho := (e_var 0)) (he := (e_box (n_list (hg := rfl) (hm := T.b_list) (ha := (a_cons (e_var 1) a_nil))))))
  (ss_cons (s_fld (F := T.a_Line_marks) (ho := (e_var 0)) (he := (e_box (n_list (hg := rfl) (hm := T.b_list) (ha := (a_cons (e_var 2) a_nil))))))
  (ss_cons (s_fld (F := T.a_Line_gone) (ho := (e_var 0)) (he := e_int))
  (ss_one (s_fld (F := T.a_Line_waiting) (ho := (e_var 0)) (he := (e_box (n_lst a_nil)))))))))
theorem ok_Line_next_mark (T : Txt K mg) : Dm P w K mg base ⟨K, mg, S, ns, TT, up⟩ 1 "Line" "next_mark" 1 Pg.f_Line_next_mark := dm_ok T.F_Line_next_mark sc_Line_next_mark fun f cdv A outer s H E hr =>
  (ss_cons (s_if (t_eq (hu := hr.units) (ha := (e_attr (F := T.a_Line_gone) (he := (e_var 0)))) (hb := (e_len (hg := rfl) (hm := T.b_len) (ha := (a_cons (e_attr (F := T.a_Line_marks) (he := (e_var 0))) a_nil))))) (ss_one (s_ret e_str)) ss_nil)
  (ss_cons (s_fld (F := T.a_Line_gone) (ho := (e_var 0)) (he := (e_add (ha := (e_attr (F := T.a_Line_gone) (he := (e_var 0)))) (hb := e_int))))
  (ss_one (s_ret (e_ix (ha := (e_attr (F := T.a_Line_marks) (he := (e_var 0)))) (hb := (e_sub (ha := (e_attr (F := T.a_Line_gone) (he := (e_var 0)))) (hb := e_int))))))))
theorem ok_Line_used (T : Txt K mg) : Dm P w K mg base ⟨K, mg, S, ns, TT, up⟩ 1 "Line" "used" 1 Pg.f_Line_used := dm_ok T.F_Line_used sc_Line_used fun f cdv A outer s H E hr =>
  (ss_one (s_ret (e_attr (F := T.a_Line_gone) (he := (e_var 0)))))
theorem ok_text_of (T : Txt K mg) : Df P w K mg base ⟨K, mg, S, ns, TT, up⟩ 1 "text_of" 1 Pg.f_text_of := df_ok T.F_text_of sc_text_of fun f cdv A outer s H E hr =>
  (ss_one (s_ret (e_join (ho := e_str) (ha := (a_cons (e_tree (n_comp (own := [(("one" : Str), 1)]) (p := (.nm 1)) (hN := sc_text_of.nd) (hi := (i_walk (h := (e_var 0)))) (ok := blkOk_by (N := ["frame", "one"]) (sc := defScope s_text_of) (by decide +kernel)) (hg := (fun _ _ _ _ _ => (g_name (i := 1) sc_text_of.nd))) (ht := (fun _ _ _ _ _ => ts_nil)) (he := (fun _ _ _ _ _ => (e_add (ha := (e_ix (ha := (e_globS T.c_FIGURES)) (hb := (e_div (ha := (e_var 1)) (hb := e_int))))) (hb := (e_ix (ha := (e_globS T.c_FIGURES)) (hb := (e_mod (ha := (e_var 1)) (hb := e_int)))))))))) a_nil)))))
theorem ok_law_cell (T : Txt K mg) : Df P w K mg base ⟨K, mg, S, ns, TT, up⟩ 1 "_law_cell" 2 stdCell := df_ok T.F_law_cell sc_law_cell fun f cdv A outer s H E hr =>
  (ss_cons (s_if (t_lt (ha := (e_var 1)) (hb := (e_len (hg := rfl) (hm := T.b_len) (ha := (a_cons (e_var 0) a_nil))))) (ss_one (s_ret (e_ix (ha := (e_var 0)) (hb := (e_var 1))))) ss_nil)
  (ss_cons (s_if (t_eq (hu := hr.units) (ha := (e_var 0)) (hb := (e_tree (n_lst a_nil)))) (ss_one (s_ret e_int)) ss_nil)
  (ss_one (s_ret (e_add (ha := (e_mul (ha := (e_ix (ha := (e_var 0)) (hb := (e_mod (ha := (e_var 1)) (hb := (e_len (hg := rfl) (hm := T.b_len) (ha := (a_cons (e_var 0) a_nil)))))))) (hb := e_int))) (hb := (e_var 1)))))))
theorem ok_law_word (T : Txt K mg) : Df P w K mg base ⟨K, mg, S, ns, TT, up⟩ 1 "_law_word" 1 f_law_word := df_ok T.F_law_word sc_law_word fun f cdv A outer s H E hr =>
  (ss_cons (s_set (i := 1) (hN := sc_law_word.nd) (he := (e_box (n_lst (a_cons (e_isx (hg := rfl) (hm := T.b_isinstance) (F := T.i_Fixed) (ha := (e_var 0))) (a_cons (e_isx (hg := rfl) (hm := T.b_isinstance) (F := T.i_NoAnswer) (ha := (e_var 0))) (a_cons (e_isx (hg := rfl) (hm := T.b_isinstance) (F := T.i_NoAsk) (ha := (e_var 0))) (a_cons (e_isx (hg := rfl) (hm := T.b_isinstance) (F := T.i_NoFrame) (ha := (e_var 0))) a_nil))))))))
  (ss_cons (s_expr (e_extendA (ho := (e_var 1)) (ha := (a_cons (e_tree (n_lst (a_cons (e_isx (hg := rfl) (hm := T.b_isinstance) (F := T.i_NoNumber) (ha := (e_var 0))) (a_cons (e_isx (hg := rfl) (hm := T.b_isinstance) (F := T.i_NoPlace) (ha := (e_var 0))) (a_cons (e_isx (hg := rfl) (hm := T.b_isinstance) (F := T.i_NoStation) (ha := (e_var 0))) a_nil))))) a_nil))))
  (ss_cons (s_expr (e_extendA (ho := (e_var 1)) (ha := (a_cons (e_tree (n_lst (a_cons (e_isx (hg := rfl) (hm := T.b_isinstance) (F := T.i_NoText) (ha := (e_var 0))) a_nil))) a_nil))))
  (ss_cons (s_if (t_w (w_or (t_ne (hu := hr.units) (ha := (e_count (ho := (e_var 1)) (ha := (a_cons e_bl a_nil)))) (hb := e_int)) (w_or (t_not (t_val (e_isa (hg := rfl) (hm := T.b_isinstance) (hgT := rfl) (hmT := T.b_ValueError) (hv := by decide +kernel) (hn := by decide) (hd := by decide) (F := T.v_ValueError) (ha := (e_var 0))))) (w_or1 (t_not (t_val (e_isu (hg := rfl) (hm := T.b_isinstance) (F := T.u_LineError) (ha := (e_var 0))))))))) (ss_one (s_ret e_str)) ss_nil)
  (ss_cons (s_set (i := 2) (hN := sc_law_word.nd) (he := (e_tree (n_lst (a_cons e_str (a_cons e_str (a_cons e_str (a_cons e_str (a_cons e_str (a_cons e_str (a_cons e_str (a_cons e_str a_nil))))))))))))
  (ss_one (s_ret (e_ix (ha := (e_var 2)) (hb := (e_index (ho := (e_var 1)) (ha := (a_cons e_bl a_nil))))))))))))
theorem ok_law_framed (T : Txt K mg) : Df P w K mg base ⟨K, mg, S, ns, TT, up⟩ 1 "_law_framed" 1 Pg.f_law_framed := df_ok T.F_law_framed sc_law_framed fun f cdv A outer s H E hr =>
  (ss_cons (s_set (i := 1) (hN := sc_law_framed.nd) (he := (e_box (n_cat (ha := (e_tree (n_list (hg := rfl) (hm := T.b_list) (ha := (a_cons (e_var 0) a_nil))))) (hb := (e_tree (n_lst (a_cons e_int a_nil))))))))
  (ss_cons (s_pre [] (s_while (hp := passes_of rfl) (ht := (t_ne (hu := hr.units) (ha := (e_mod (ha := (e_sumA (hg := rfl) (hm := T.b_sum) (ha := (a_cons (e_var 1) a_nil)))) (hb := e_int))) (hb := e_int))) (hb := ss_drop [] (ss_one (s_sub (ho := (e_var 1)) (hk := (e_neg e_int)) (he := (e_add (ha := (e_ix (ha := (e_var 1)) (hb := (e_neg e_int)))) (hb := e_int))))))))
  (ss_one (s_ret (e_tuple (hg := rfl) (hm := T.b_tuple) (ha := (a_cons (e_var 1) a_nil)))))))
theorem ok_law_is_frame (T : Txt K mg) : Df P w K mg base ⟨K, mg, S, ns, TT, up⟩ 1 "_law_is_frame" 1 Pg.f_law_is_frame := df_ok T.F_law_is_frame sc_law_is_frame fun f cdv A outer s H E hr =>
  (ss_cons (s_if (t_w (w_or (t_not (t_val (e_isi (hg := rfl) (hm := T.b_isinstance) (hgT := rfl) (hmT := T.b_tuple) (hv := bt_tuple) (ht := by decide) (hn := by decide) (hd := by decide) (ha := (e_var 0))))) (w_or1 (t_not (t_le_le (ha := e_int) (hb := (e_len (hg := rfl) (hm := T.b_len) (ha := (a_cons (e_var 0) a_nil)))) (hc := e_int)))))) (ss_one (s_ret e_bl)) ss_nil)
  (ss_cons (s_if (t_ne (hu := hr.units) (ha := (e_tree (n_comp (own := [(("_law_one" : Str), 1)]) (p := (.nm 1)) (hN := sc_law_is_frame.nd) (hi := (i_walk (h := (e_var 0)))) (ok := blkOk_by (N := ["_law_thing", "_law_one"]) (sc := defScope s_law_is_frame) (by decide +kernel)) (hg := (fun _ _ _ _ _ => (g_name (i := 1) sc_law_is_frame.nd))) (ht := (fun _ _ _ _ _ => (ts_one (t_w (w_or (t_not (t_val (e_isi (hg := rfl) (hm := T.b_isinstance) (hgT := rfl) (hmT := T.b_int) (hv := bt_int) (ht := by decide) (hn := by decide) (hd := by decide) (ha := (e_var 1))))) (w_or (t_val (e_isi (hg := rfl) (hm := T.b_isinstance) (hgT := rfl) (hmT := T.b_bool) (hv := bt_bool) (ht := by decide) (hn := by decide) (hd := by decide) (ha := (e_var 1)))) (w_or1 (t_not (t_le_le (ha := e_int) (hb := (e_var 1)) (hc := e_int)))))))))) (he := (fun _ _ _ _ _ => (e_var 1)))))) (hb := (e_tree (n_lst a_nil)))) (ss_one (s_ret e_bl)) ss_nil)
  (ss_one (s_ret (e_eq (hu := hr.units) (ha := (e_mod (ha := (e_sumA (hg := rfl) (hm := T.b_sum) (ha := (a_cons (e_var 0) a_nil)))) (hb := e_int))) (hb := e_int))))))
theorem ok_are_bytes (T : Txt K mg) : Df P w K mg base ⟨K, mg, S, ns, TT, up⟩ 2 "are_bytes" 3 Pg.f_are_bytes := df_ok T.F_are_bytes sc_are_bytes fun f cdv A outer s H E hr =>
  (ss_cons (s_if (t_w (w_or (t_not (t_val (e_isi2 (hg := rfl) (hm := T.b_isinstance) (hgT := rfl) (hmT := T.b_list) (hv := bt_list) (ht := by decide) (hn := by decide) (hd := by decide) (hgT' := rfl) (hmT' := T.b_tuple) (hv' := bt_tuple) (ht' := by decide) (hn' := by decide) (hd' := by decide) (ha := (e_var 0))))) (w_or1 (t_not (t_le_le (ha := (e_var 1)) (hb := (e_len (hg := rfl) (hm := T.b_len) (ha := (a_cons (e_var 0) a_nil)))) (hc := (e_var 2))))))) (ss_one (s_ret e_bl)) ss_nil)
  (ss_one (s_ret (e_all (hg := rfl) (hm := T.b_all) (ha := (a_cons (e_tree (n_comp (own := [(("one" : Str), 3)]) (p := (.nm 3)) (hN := sc_are_bytes.nd) (hi := (i_walk (h := (e_var 0)))) (ok := blkOk_by (N := ["thing", "low", "high", "one"]) (sc := defScope s_are_bytes) (by decide +kernel)) (hg := (fun _ _ _ _ _ => (g_name (i := 3) sc_are_bytes.nd))) (ht := (fun _ _ _ _ _ => ts_nil)) (he := (fun _ _ _ _ _ => (e_call (ok_is_whole T) (hr.mono (by decide)) pass0W (a_cons (e_var 3) (a_cons e_int (a_cons e_int a_nil)))))))) a_nil))))))
theorem ok_Line_back (T : Txt K mg) : Dm P w K mg base ⟨K, mg, S, ns, TT, up⟩ 2 "Line" "back" 3 Pg.f_Line_back := dm_ok T.F_Line_back sc_Line_back fun f cdv A outer s H E hr =>
  (ss_cons (s_set (i := 3) (hN := sc_Line_back.nd) (he := (e_callO0 (F := ok_Line_next_mark T) (hr := hr.mono (by decide)) (hx := (pass_of (takes_of rfl rfl rfl rfl))) (ho := (e_var 0)))))
  (ss_one (s_if (t_eq (hu := hr.units) (ha := (e_var 3)) (hb := e_str)) (ss_one (s_expr (e_append (ho := (e_var 2)) (ha := (a_cons (e_var 1) a_nil))))) (ss_one (s_if (t_eq (hu := hr.units) (ha := (e_var 3)) (hb := e_str)) (ss_one (s_expr (e_append (ho := (e_var 2)) (ha := (a_cons (e_add (ha := (e_tup (a_cons (e_mod (ha := (e_add (ha := (e_ix (ha := (e_var 1)) (hb := e_int))) (hb := e_int))) (hb := e_int)) a_nil))) (hb := (e_slice (ha := (e_var 1)) (hl := (o_some e_int)) (hh := o_none)))) a_nil))))) (ss_one (s_if (t_eq (hu := hr.units) (ha := (e_var 3)) (hb := e_str)) (ss_one (s_expr (e_append (ho := (e_attr (F := T.a_Line_waiting) (he := (e_var 0)))) (ha := (a_cons (e_var 1) a_nil))))) ss_nil)))))))
theorem ok_law_pick (T : Txt K mg) : Df P w K mg base ⟨K, mg, S, ns, TT, up⟩ 2 "_law_pick" 3 stdPick := df_ok T.F_law_pick sc_law_pick fun f cdv A outer s H E hr =>
  (ss_cons (s_set (i := 3) (hN := sc_law_pick.nd) (he := (e_mod (ha := (e_mul (ha := (e_add (ha := (e_call (ok_law_cell T) (hr.mono (by decide)) (pass_of (takes_of rfl rfl rfl rfl)) (a_cons (e_var 0) (a_cons (e_var 1) a_nil)))) (hb := (e_mul (ha := e_int) (hb := (e_add (ha := (e_var 1)) (hb := e_int))))))) (hb := e_int))) (hb := e_int))))
  (ss_one (s_ret (e_mod (ha := (e_mod (ha := (e_add (ha := (e_mul (ha := (e_var 3)) (hb := (e_var 3)))) (hb := (e_div (ha := (e_var 3)) (hb := e_int))))) (hb := e_int))) (hb := (e_var 2))))))
theorem ok_is_frame (T : Txt K mg) : Df P w K mg base ⟨K, mg, S, ns, TT, up⟩ 3 "is_frame" 1 Pg.f_is_frame := df_ok T.F_is_frame sc_is_frame fun f cdv A outer s H E hr =>
  (ss_one (s_ret (e_and (e_isi (hg := rfl) (hm := T.b_isinstance) (hgT := rfl) (hmT := T.b_tuple) (hv := bt_tuple) (ht := by decide) (hn := by decide) (hd := by decide) (ha := (e_var 0))) (e_and (e_call (ok_are_bytes T) (hr.mono (by decide)) (pass_of (takes_of rfl rfl rfl rfl)) (a_cons (e_var 0) (a_cons e_int (a_cons (e_globI T.c_LONGEST) a_nil)))) (e_one (e_eq (hu := hr.units) (ha := (e_mod (ha := (e_sumA (hg := rfl) (hm := T.b_sum) (ha := (a_cons (e_var 0) a_nil)))) (hb := e_int))) (hb := e_int)))))))
theorem ok_framed (T : Txt K mg) : Df P w K mg base ⟨K, mg, S, ns, TT, up⟩ 3 "framed" 1 Pg.f_framed := df_ok T.F_framed sc_framed fun f cdv A outer s H E hr =>
  (ss_cons (s_if (t_not (t_val (e_call (ok_are_bytes T) (hr.mono (by decide)) (pass_of (takes_of rfl rfl rfl rfl)) (a_cons (e_var 0) (a_cons e_int (a_cons (e_sub (ha := (e_globI T.c_LONGEST)) (hb := e_int)) a_nil)))))) (ss_one (s_raise (tk := takes_of rfl rfl rfl rfl) (F := T.x_NoFrame))) ss_nil)
  (ss_one (s_ret (e_add (ha := (e_tuple (hg := rfl) (hm := T.b_tuple) (ha := (a_cons (e_var 0) a_nil)))) (hb := (e_tup (a_cons (e_mod (ha := (e_sub (ha := e_int) (hb := (e_sumA (hg := rfl) (hm := T.b_sum) (ha := (a_cons (e_var 0) a_nil)))))) (hb := e_int)) a_nil)))))))
theorem ok_are_values (T : Txt K mg) : Df P w K mg base ⟨K, mg, S, ns, TT, up⟩ 3 "are_values" 1 Pg.f_are_values := df_ok T.F_are_values sc_are_values fun f cdv A outer s H E hr =>
  (ss_one (s_ret (e_and (e_isi (hg := rfl) (hm := T.b_isinstance) (hgT := rfl) (hmT := T.b_tuple) (hv := bt_tuple) (ht := by decide) (hn := by decide) (hd := by decide) (ha := (e_var 0))) (e_one (e_call (ok_are_bytes T) (hr.mono (by decide)) (pass_of (takes_of rfl rfl rfl rfl)) (a_cons (e_var 0) (a_cons e_int (a_cons (e_globI T.c_MOST_VALUES) a_nil))))))))
theorem ok_law_bytes (T : Txt K mg) : Df P w K mg base ⟨K, mg, S, ns, TT, up⟩ 3 "_law_bytes" 3 Pg.f_law_bytes := df_ok T.F_law_bytes sc_law_bytes fun f cdv A outer s H E hr =>
  (ss_one (s_ret (e_tuple (hg := rfl) (hm := T.b_tuple) (ha := (a_cons (e_tree (n_comp (own := [(("_law_k" : Str), 3)]) (p := (.nm 3)) (hN := sc_law_bytes.nd) (hi := (i_range1 rfl T.b_range (a_cons (e_var 2) a_nil))) (ok := blkOk_by (N := ["_law_script", "_law_at", "_law_many", "_law_k"]) (sc := defScope s_law_bytes) (by decide +kernel)) (hg := (fun _ _ _ _ _ => (g_name (i := 3) sc_law_bytes.nd))) (ht := (fun _ _ _ _ _ => ts_nil)) (he := (fun _ _ _ _ _ => (e_call (ok_law_pick T) (hr.mono (by decide)) pass0W (a_cons (e_var 0) (a_cons (e_add (ha := (e_var 1)) (hb := (e_var 3))) (a_cons (e_ix (ha := (e_tree (n_lst (a_cons e_int (a_cons e_int a_nil))))) (hb := (e_call (ok_law_pick T) (hr.mono (by decide)) pass0W (a_cons (e_var 0) (a_cons (e_add (ha := (e_add (ha := (e_var 1)) (hb := e_int))) (hb := (e_var 3))) (a_cons e_int a_nil)))))) a_nil)))))))) a_nil)))))
theorem ok_look_frame (T : Txt K mg) : Df P w K mg base ⟨K, mg, S, ns, TT, up⟩ 4 "look_frame" 1 Pg.f_look_frame := df_ok T.F_look_frame sc_look_frame fun f cdv A outer s H E hr =>
  (ss_one (s_if (t_not (t_val (e_call (ok_is_frame T) (hr.mono (by decide)) (pass_of (takes_of rfl rfl rfl rfl)) (a_cons (e_var 0) a_nil)))) (ss_one (s_raise (tk := takes_of rfl rfl rfl rfl) (F := T.x_NoFrame))) ss_nil))
theorem ok_is_ask (T : Txt K mg) : Df P w K mg base ⟨K, mg, S, ns, TT, up⟩ 4 "is_ask" 1 Pg.f_is_ask := df_ok T.F_is_ask sc_is_ask fun f cdv A outer s H E hr =>
  (ss_cons (s_if (t_w (w_or (t_not (t_val (e_isi (hg := rfl) (hm := T.b_isinstance) (hgT := rfl) (hmT := T.b_tuple) (hv := bt_tuple) (ht := by decide) (hn := by decide) (hd := by decide) (ha := (e_var 0))))) (w_or (t_ne (hu := hr.units) (ha := (e_len (hg := rfl) (hm := T.b_len) (ha := (a_cons (e_var 0) a_nil)))) (hb := e_int)) (w_or1 (t_not (t_val (e_call (ok_is_whole T) (hr.mono (by decide)) (pass_of (takes_of rfl rfl rfl rfl)) (a_cons (e_ix (ha := (e_var 0)) (hb := e_int)) (a_cons e_int (a_cons (e_globI T.c_MOST_STATIONS) a_nil)))))))))) (ss_one (s_ret e_bl)) ss_nil)
  (ss_cons (s_if (t_w (w_or (t_not (t_val (e_call (ok_is_whole T) (hr.mono (by decide)) (pass_of (takes_of rfl rfl rfl rfl)) (a_cons (e_ix (ha := (e_var 0)) (hb := e_int)) (a_cons e_int (a_cons (e_sub (ha := (e_globI T.c_NUMBERS)) (hb := e_int)) a_nil)))))) (w_or1 (t_not (t_val (e_call (ok_is_whole T) (hr.mono (by decide)) (pass_of (takes_of rfl rfl rfl rfl)) (a_cons (e_ix (ha := (e_var 0)) (hb := e_int)) (a_cons e_int (a_cons (e_sub (ha := (e_globI T.c_NUMBERS)) (hb := e_int)) a_nil))))))))) (ss_one (s_ret e_bl)) ss_nil)
  (ss_cons (s_if (t_eq (hu := hr.units) (ha := (e_ix (ha := (e_var 0)) (hb := e_int))) (hb := e_str)) (ss_one (s_ret (e_and (e_gt (ha := (e_ix (ha := (e_var 0)) (hb := e_int))) (hb := e_int)) (e_one (e_call (ok_is_whole T) (hr.mono (by decide)) (pass_of (takes_of rfl rfl rfl rfl)) (a_cons (e_ix (ha := (e_var 0)) (hb := e_int)) (a_cons e_int (a_cons (e_globI T.c_MOST_VALUES) a_nil)))))))) ss_nil)
  (ss_one (s_ret (e_and (e_eq (hu := hr.units) (ha := (e_ix (ha := (e_var 0)) (hb := e_int))) (hb := e_str)) (e_one (e_call (ok_are_values T) (hr.mono (by decide)) (pass_of (takes_of rfl rfl rfl rfl)) (a_cons (e_ix (ha := (e_var 0)) (hb := e_int)) a_nil)))))))))
theorem ok_is_answer (T : Txt K mg) : Df P w K mg base ⟨K, mg, S, ns, TT, up⟩ 4 "is_answer" 1 Pg.f_is_answer := df_ok T.F_is_answer sc_is_answer fun f cdv A outer s H E hr =>
  (ss_cons (s_if (t_w (w_or (t_not (t_val (e_isi (hg := rfl) (hm := T.b_isinstance) (hgT := rfl) (hmT := T.b_tuple) (hv := bt_tuple) (ht := by decide) (hn := by decide) (hd := by decide) (ha := (e_var 0))))) (w_or (t_lt (ha := (e_len (hg := rfl) (hm := T.b_len) (ha := (a_cons (e_var 0) a_nil)))) (hb := e_int)) (w_or1 (t_not (t_val (e_call (ok_is_whole T) (hr.mono (by decide)) (pass_of (takes_of rfl rfl rfl rfl)) (a_cons (e_ix (ha := (e_var 0)) (hb := e_int)) (a_cons e_int (a_cons (e_globI T.c_MOST_STATIONS) a_nil)))))))))) (ss_one (s_ret e_bl)) ss_nil)
  (ss_cons (s_if (t_not (t_val (e_call (ok_is_whole T) (hr.mono (by decide)) (pass_of (takes_of rfl rfl rfl rfl)) (a_cons (e_ix (ha := (e_var 0)) (hb := e_int)) (a_cons e_int (a_cons (e_sub (ha := (e_globI T.c_NUMBERS)) (hb := e_int)) a_nil)))))) (ss_one (s_ret e_bl)) ss_nil)
  (ss_cons (s_if (t_eq (hu := hr.units) (ha := (e_ix (ha := (e_var 0)) (hb := e_int))) (hb := e_str)) (ss_one (s_ret (e_eq (hu := hr.units) (ha := (e_len (hg := rfl) (hm := T.b_len) (ha := (a_cons (e_var 0) a_nil)))) (hb := e_int)))) ss_nil)
  (ss_cons (s_if (t_ne (hu := hr.units) (ha := (e_len (hg := rfl) (hm := T.b_len) (ha := (a_cons (e_var 0) a_nil)))) (hb := e_int)) (ss_one (s_ret e_bl)) ss_nil)
  (ss_cons (s_if (t_eq (hu := hr.units) (ha := (e_ix (ha := (e_var 0)) (hb := e_int))) (hb := e_str)) (ss_one (s_ret (e_call (ok_are_values T) (hr.mono (by decide)) (pass_of (takes_of rfl rfl rfl rfl)) (a_cons (e_ix (ha := (e_var 0)) (hb := e_int)) a_nil)))) ss_nil)
  (ss_one (s_ret (e_and (e_inA (hu := u65 hr) (ha := (e_ix (ha := (e_var 0)) (hb := e_int))) (hb := (e_tup (a_cons e_str (a_cons e_str a_nil))))) (e_one (e_call (ok_is_whole T) (hr.mono (by decide)) (pass_of (takes_of rfl rfl rfl rfl)) (a_cons (e_ix (ha := (e_var 0)) (hb := e_int)) (a_cons e_int (a_cons e_int a_nil)))))))))))))
theorem ok_law_places (T : Txt K mg) : ∀ n, Df P w K mg base ⟨K, mg, S, ns, TT, up⟩ (1 + n) "_law_places" 1 (Pg.f_law_places n)
  | 0 => df_bad T.F_law_places
  | n + 1 => by
    have ih : Df P w K mg base ⟨K, mg, S, ns, TT, up⟩ (1 + n) "_law_places" 1 (Pg.f_law_places n) := ok_law_places T n
    exact df_ok T.F_law_places sc_law_places fun f cdv A outer s H E hr =>
  (ss_cons (s_set (i := 1) (hN := sc_law_places.nd) (he := (e_box (n_lst (a_cons (e_tup a_nil) a_nil)))))
  (ss_cons (s_if (t_val (e_isi (hg := rfl) (hm := T.b_isinstance) (hgT := rfl) (hmT := T.b_tuple) (hv := bt_tuple) (ht := by decide) (hn := by decide) (hd := by decide) (ha := (e_var 0)))) (ss_one (s_pre [2] (s_for (hp := passes_of rfl) (hi := (i_range1 rfl T.b_range (a_cons (e_len (hg := rfl) (hm := T.b_len) (ha := (a_cons (e_var 0) a_nil))) a_nil))) (hg := (g_name (i := 2) sc_law_places.nd)) (hb := ss_drop [2] (ss_one (s_expr (e_extendA (ho := (e_var 1)) (ha := (a_cons (e_tree (n_comp (own := [(("_law_place" : Str), 3)]) (p := (.nm 3)) (hN := sc_law_places.nd) (hi := (i_walk (h := (e_call ih hr (pass_of (takes_of rfl rfl rfl rfl)) (a_cons (e_ix (ha := (e_var 0)) (hb := (e_var 2))) a_nil))))) (ok := blkOk_by (N := ["_law_thing", "_law_made", "_law_k", "_law_place"]) (sc := defScope s_law_places) (by decide +kernel)) (hg := (fun _ _ _ _ _ => (g_name (i := 3) sc_law_places.nd))) (ht := (fun _ _ _ _ _ => ts_nil)) (he := (fun _ _ _ _ _ => (e_add (ha := (e_tup (a_cons (e_var 2) a_nil))) (hb := (e_var 3))))))) a_nil))))))))) ss_nil)
  (ss_one (s_ret (e_var 1)))))
theorem ok_law_put (T : Txt K mg) : ∀ n, Df P w K mg base ⟨K, mg, S, ns, TT, up⟩ (1 + n) "_law_put" 3 (Pg.f_law_put n)
  | 0 => df_bad T.F_law_put
  | n + 1 => by
    have ih : Df P w K mg base ⟨K, mg, S, ns, TT, up⟩ (1 + n) "_law_put" 3 (Pg.f_law_put n) := ok_law_put T n
    exact df_ok T.F_law_put sc_law_put fun f cdv A outer s H E hr =>
  (ss_cons (s_if (t_eq (hu := hr.units) (ha := (e_var 1)) (hb := (e_tup a_nil))) (ss_one (s_ret (e_var 2))) ss_nil)
  (ss_cons (s_set (i := 3) (hN := sc_law_put.nd) (he := (e_ix (ha := (e_var 1)) (hb := e_int))))
  (ss_one (s_ret (e_add (ha := (e_add (ha := (e_slice (ha := (e_var 0)) (hl := o_none) (hh := (o_some (e_var 3))))) (hb := (e_tup (a_cons (e_call ih hr (pass_of (takes_of rfl rfl rfl rfl)) (a_cons (e_ix (ha := (e_var 0)) (hb := (e_var 3))) (a_cons (e_slice (ha := (e_var 1)) (hl := (o_some e_int)) (hh := o_none)) (a_cons (e_var 2) a_nil)))) a_nil))))) (hb := (e_slice (ha := (e_var 0)) (hl := (o_some (e_add (ha := (e_var 3)) (hb := e_int)))) (hh := o_none))))))))
theorem ok_ask_in (T : Txt K mg) : Df P w K mg base ⟨K, mg, S, ns, TT, up⟩ 5 "ask_in" 1 Pg.f_ask_in := df_ok T.F_ask_in sc_ask_in fun f cdv A outer s H E hr =>
  (ss_cons (s_set (i := 1) (hN := sc_ask_in.nd) (he := (e_slice (ha := (e_var 0)) (hl := o_none) (hh := (o_some (e_neg e_int))))))
  (ss_cons (s_if (t_w (w_or (t_lt (ha := (e_len (hg := rfl) (hm := T.b_len) (ha := (a_cons (e_var 1) a_nil)))) (hb := e_int)) (w_or1 (t_notInA (hu := u65 hr) (ha := (e_ix (ha := (e_var 1)) (hb := e_int))) (hb := (e_tup (a_cons e_int (a_cons e_int a_nil)))))))) (ss_one (s_ret e_non)) ss_nil)
  (ss_cons (s_set (i := 2) (hN := sc_ask_in.nd) (he := (e_add (ha := (e_add (ha := (e_add (ha := (e_tup (a_cons e_str a_nil))) (hb := (e_tup (a_cons (e_ix (ha := (e_var 1)) (hb := e_int)) a_nil))))) (hb := (e_slice (ha := (e_var 1)) (hl := (o_some e_int)) (hh := (o_some e_int)))))) (hb := (e_tup (a_cons (e_slice (ha := (e_var 1)) (hl := (o_some e_int)) (hh := o_none)) a_nil))))))
  (ss_cons (s_if (t_eq (hu := hr.units) (ha := (e_ix (ha := (e_var 1)) (hb := e_int))) (hb := e_int)) (ss_cons (s_set (i := 2) (hN := sc_ask_in.nd) (he := (e_add (ha := (e_add (ha := (e_tup (a_cons e_str a_nil))) (hb := (e_tup (a_cons (e_ix (ha := (e_var 1)) (hb := e_int)) a_nil))))) (hb := (e_slice (ha := (e_var 1)) (hl := (o_some e_int)) (hh := (o_some e_int)))))))
  (ss_one (s_if (t_gt (ha := (e_len (hg := rfl) (hm := T.b_len) (ha := (a_cons (e_var 1) a_nil)))) (hb := e_int)) (ss_one (s_ret e_non)) ss_nil))) ss_nil)
  (ss_one (s_ret (e_if (t_val (e_call (ok_is_ask T) (hr.mono (by decide)) (pass_of (takes_of rfl rfl rfl rfl)) (a_cons (e_var 2) a_nil))) (e_var 2) e_non)))))))
theorem ok_answer_in (T : Txt K mg) : Df P w K mg base ⟨K, mg, S, ns, TT, up⟩ 5 "answer_in" 1 Pg.f_answer_in := df_ok T.F_answer_in sc_answer_in fun f cdv A outer s H E hr =>
  (ss_cons (s_set (i := 1) (hN := sc_answer_in.nd) (he := (e_slice (ha := (e_var 0)) (hl := o_none) (hh := (o_some (e_neg e_int))))))
  (ss_cons (s_if (t_w (w_or (t_lt (ha := (e_len (hg := rfl) (hm := T.b_len) (ha := (a_cons (e_var 1) a_nil)))) (hb := e_int)) (w_or1 (t_not (t_le_le (ha := e_int) (hb := (e_ix (ha := (e_var 1)) (hb := e_int))) (hc := e_int)))))) (ss_one (s_ret e_non)) ss_nil)
  (ss_cons (s_set (i := 2) (hN := sc_answer_in.nd) (he := (e_add (ha := (e_tup (a_cons e_str (a_cons (e_ix (ha := (e_var 1)) (hb := e_int)) (a_cons (e_ix (ha := (e_var 1)) (hb := e_int)) a_nil))))) (hb := (e_slice (ha := (e_var 1)) (hl := (o_some e_int)) (hh := o_none))))))
  (ss_cons (s_if (t_eq (hu := hr.units) (ha := (e_ix (ha := (e_var 1)) (hb := e_int))) (hb := e_int)) (ss_one (s_set (i := 2) (hN := sc_answer_in.nd) (he := (e_tup (a_cons e_str (a_cons (e_ix (ha := (e_var 1)) (hb := e_int)) (a_cons (e_ix (ha := (e_var 1)) (hb := e_int)) (a_cons (e_slice (ha := (e_var 1)) (hl := (o_some e_int)) (hh := o_none)) a_nil)))))))) (ss_one (s_if (t_gt (ha := (e_ix (ha := (e_var 1)) (hb := e_int))) (hb := e_int)) (ss_one (s_set (i := 2) (hN := sc_answer_in.nd) (he := (e_add (ha := (e_tup (a_cons (e_ix (ha := (e_tree (n_lst (a_cons e_str (a_cons e_str a_nil))))) (hb := (e_sub (ha := (e_ix (ha := (e_var 1)) (hb := e_int))) (hb := e_int)))) (a_cons (e_ix (ha := (e_var 1)) (hb := e_int)) (a_cons (e_ix (ha := (e_var 1)) (hb := e_int)) a_nil))))) (hb := (e_slice (ha := (e_var 1)) (hl := (o_some e_int)) (hh := o_none))))))) ss_nil)))
  (ss_one (s_ret (e_if (t_val (e_call (ok_is_answer T) (hr.mono (by decide)) (pass_of (takes_of rfl rfl rfl rfl)) (a_cons (e_var 2) a_nil))) (e_var 2) e_non)))))))
theorem ok_Line_send (T : Txt K mg) : Dm P w K mg base ⟨K, mg, S, ns, TT, up⟩ 5 "Line" "send" 2 f_Line_send := dm_ok T.F_Line_send sc_Line_send fun f cdv A outer s H E hr =>
  (ss_cons (s_expr (e_call (ok_look_frame T) (hr.mono (by decide)) (pass_of (takes_of rfl rfl rfl rfl)) (a_cons (e_var 1) a_nil)))
  (ss_cons (s_set (i := 2) (hN := sc_Line_send.nd) (he := (e_attr (F := T.a_Line_waiting) (he := (e_var 0)))))
  (ss_cons (s_fld (F := T.a_Line_waiting) (ho := (e_var 0)) (he := (e_box (n_lst a_nil))))
  (ss_cons (s_set (i := 3) (hN := sc_Line_send.nd) (he := (e_callO0 (F := ok_Line_next_mark T) (hr := hr.mono (by decide)) (hx := (pass_of (takes_of rfl rfl rfl rfl))) (ho := (e_var 0)))))
  (ss_cons (s_if (t_inA (hu := u65 hr) (ha := (e_var 3)) (hb := (e_tup (a_cons e_str (a_cons e_str a_nil))))) (ss_one (s_pre [4, 5] (s_for (hp := passes_of rfl) (hi := (i_walk (h := (e_attr (F := T.a_Line_stations) (he := (e_var 0)))))) (hg := (g_name (i := 4) sc_Line_send.nd)) (hb := ss_drop [4, 5] (ss_cons (s_set (i := 5) (hN := sc_Line_send.nd) (he := e_never))
  (ss_one (s_if (t_w (w_and (t_notN (e_var 5) e_non) (w_and1 (t_eq (hu := hr.units) (ha := (e_var 3)) (hb := e_str))))) (ss_one (s_expr (e_callO (F := ok_Line_back T) (hr := hr.mono (by decide)) (hx := (pass_of (takes_of rfl rfl rfl rfl))) (ho := (e_var 0)) (ha := (a_cons (e_var 5) (a_cons (e_var 2) a_nil)))))) ss_nil))))))) ss_nil)
  (ss_one (s_ret (e_var 2))))))))
theorem ok_frame_text (T : Txt K mg) : Df P w K mg base ⟨K, mg, S, ns, TT, up⟩ 5 "frame_text" 1 Pg.f_frame_text := df_ok T.F_frame_text sc_frame_text fun f cdv A outer s H E hr =>
  (ss_cons (s_expr (e_call (ok_look_frame T) (hr.mono (by decide)) (pass_of (takes_of rfl rfl rfl rfl)) (a_cons (e_var 0) a_nil)))
  (ss_one (s_ret (e_call (ok_text_of T) (hr.mono (by decide)) (pass_of (takes_of rfl rfl rfl rfl)) (a_cons (e_var 0) a_nil)))))
theorem ok_law_spoilt_thing (T : Txt K mg) : Df P w K mg base ⟨K, mg, S, ns, TT, up⟩ 5 "_law_spoilt_thing" 3 Pg.f_law_spoilt_thing := df_ok T.F_law_spoilt_thing sc_law_spoilt_thing fun f cdv A outer s H E hr =>
  (ss_cons (s_set (i := 3) (hN := sc_law_spoilt_thing.nd) (he := (e_call (ok_law_places T 3) (hr.mono (by decide)) (pass_of (takes_of rfl rfl rfl rfl)) (a_cons (e_var 2) a_nil))))
  (ss_cons (s_set (i := 4) (hN := sc_law_spoilt_thing.nd) (he := (e_ix (ha := (e_var 3)) (hb := (e_call (ok_law_pick T) (hr.mono (by decide)) (pass_of (takes_of rfl rfl rfl rfl)) (a_cons (e_var 0) (a_cons (e_var 1) (a_cons (e_len (hg := rfl) (hm := T.b_len) (ha := (a_cons (e_var 3) a_nil))) a_nil))))))))
  (ss_cons (s_set (i := 5) (hN := sc_law_spoilt_thing.nd) (he := (e_var 2)))
  (ss_cons (s_pre [6] (s_for (hp := passes_of rfl) (hi := (i_walk (h := (e_var 4)))) (hg := (g_name (i := 6) sc_law_spoilt_thing.nd)) (hb := ss_drop [6] (ss_one (s_set (i := 5) (hN := sc_law_spoilt_thing.nd) (he := (e_ix (ha := (e_var 5)) (hb := (e_var 6)))))))))
  (ss_cons (s_set (i := 7) (hN := sc_law_spoilt_thing.nd) (he := (e_tree (n_lst (a_cons e_int (a_cons e_int (a_cons e_int (a_cons e_int (a_cons e_int (a_cons e_int (a_cons e_int (a_cons e_int (a_cons (e_neg e_int) (a_cons e_str (a_cons e_str (a_cons e_str (a_cons e_bl (a_cons e_non (a_cons (e_tup a_nil) (a_cons (e_tree (n_lst (a_cons e_int a_nil))) a_nil))))))))))))))))))))
  (ss_cons (s_set (i := 7) (hN := sc_law_spoilt_thing.nd) (he := (e_tree (n_cat (ha := (e_var 7)) (hb := (e_tree (n_lst (a_cons (e_tup (a_cons e_int (a_cons e_int a_nil))) (a_cons (e_tup (a_cons (e_var 5) a_nil)) (a_cons (e_tup (a_cons (e_var 5) (a_cons (e_var 5) a_nil))) a_nil))))))))))
  (ss_cons (s_set (i := 8) (hN := sc_law_spoilt_thing.nd) (he := (e_call (ok_law_pick T) (hr.mono (by decide)) (pass_of (takes_of rfl rfl rfl rfl)) (a_cons (e_var 0) (a_cons (e_add (ha := (e_var 1)) (hb := e_int)) (a_cons e_int a_nil))))))
  (ss_cons (s_if (t_lt (ha := (e_var 8)) (hb := e_int)) (ss_one (s_ret (e_call (ok_law_put T 3) (hr.mono (by decide)) (pass_of (takes_of rfl rfl rfl rfl)) (a_cons (e_var 2) (a_cons (e_var 4) (a_cons (e_ix (ha := (e_var 7)) (hb := (e_var 8))) a_nil)))))) ss_nil)
  (ss_cons (s_if (t_w (w_and (t_val (e_isi (hg := rfl) (hm := T.b_isinstance) (hgT := rfl) (hmT := T.b_tuple) (hv := bt_tuple) (ht := by decide) (hn := by decide) (hd := by decide) (ha := (e_var 5)))) (w_and1 (t_ne (hu := hr.units) (ha := (e_var 5)) (hb := (e_tup a_nil)))))) (ss_cons (s_set (i := 6) (hN := sc_law_spoilt_thing.nd) (he := (e_call (ok_law_pick T) (hr.mono (by decide)) (pass_of (takes_of rfl rfl rfl rfl)) (a_cons (e_var 0) (a_cons (e_add (ha := (e_var 1)) (hb := e_int)) (a_cons (e_len (hg := rfl) (hm := T.b_len) (ha := (a_cons (e_var 5) a_nil))) a_nil))))))
  (ss_one (s_ret (e_call (ok_law_put T 3) (hr.mono (by decide)) (pass_of (takes_of rfl rfl rfl rfl)) (a_cons (e_var 2) (a_cons (e_var 4) (a_cons (e_if (t_lt (ha := (e_var 8)) (hb := e_int)) (e_add (ha := (e_slice (ha := (e_var 5)) (hl := o_none) (hh := (o_some (e_var 6))))) (hb := (e_slice (ha := (e_var 5)) (hl := (o_some (e_add (ha := (e_var 6)) (hb := e_int)))) (hh := o_none)))) (e_add (ha := (e_slice (ha := (e_var 5)) (hl := o_none) (hh := (o_some (e_add (ha := (e_var 6)) (hb := e_int)))))) (hb := (e_slice (ha := (e_var 5)) (hl := (o_some (e_var 6))) (hh := o_none))))) a_nil))))))) ss_nil)
  (ss_one (s_ret (e_call (ok_law_put T 3) (hr.mono (by decide)) (pass_of (takes_of rfl rfl rfl rfl)) (a_cons (e_var 2) (a_cons (e_var 4) (a_cons (e_if (t_val (e_isi (hg := rfl) (hm := T.b_isinstance) (hgT := rfl) (hmT := T.b_int) (hv := bt_int) (ht := by decide) (hn := by decide) (hd := by decide) (ha := (e_var 5)))) (e_sub (ha := (e_add (ha := (e_var 5)) (hb := (e_var 8)))) (hb := e_int)) e_int) a_nil)))))))))))))))
theorem ok_frame_ask (T : Txt K mg) : Df P w K mg base ⟨K, mg, S, ns, TT, up⟩ 6 "frame_ask" 1 Pg.f_frame_ask := df_ok T.F_frame_ask sc_frame_ask fun f cdv A outer s H E hr =>
  (ss_cons (s_expr (e_call (ok_look_frame T) (hr.mono (by decide)) (pass_of (takes_of rfl rfl rfl rfl)) (a_cons (e_var 0) a_nil)))
  (ss_one (s_ret (e_call (ok_ask_in T) (hr.mono (by decide)) (pass_of (takes_of rfl rfl rfl rfl)) (a_cons (e_var 0) a_nil)))))
theorem ok_frame_answer (T : Txt K mg) : Df P w K mg base ⟨K, mg, S, ns, TT, up⟩ 6 "frame_answer" 1 Pg.f_frame_answer := df_ok T.F_frame_answer sc_frame_answer fun f cdv A outer s H E hr =>
  (ss_cons (s_expr (e_call (ok_look_frame T) (hr.mono (by decide)) (pass_of (takes_of rfl rfl rfl rfl)) (a_cons (e_var 0) a_nil)))
  (ss_one (s_ret (e_call (ok_answer_in T) (hr.mono (by decide)) (pass_of (takes_of rfl rfl rfl rfl)) (a_cons (e_var 0) a_nil)))))
theorem ok_law_do (T : Txt K mg) : Df P w K mg base ⟨K, mg, S, ns, TT, up⟩ 7 "_law_do" 2 f_law_do := df_ok T.F_law_do sc_law_do fun f cdv A outer s H E hr =>
  (ss_cons (s_set (i := 2) (hN := sc_law_do.nd) (he := e_non))
  (ss_cons (s_set (i := 3) (hN := sc_law_do.nd) (he := e_non))
  (ss_cons (s_try (nd := sc_law_do.nd) (tk := takes_of rfl rfl rfl rfl) (F := T.k_LineError) (hb := fun W pn xe tkB => (ss_one (s_if (t_lt (ha := (e_var 0)) (hb := e_int)) (ss_one (s_set (i := 3) (hN := sc_law_do.nd) (he := (e_callE (k := 6) (n := 1) (hf := (e_ix (ha := (e_tree (n_lst (a_cons (e_glo (ok_framed T)) (a_cons (e_glo (ok_frame_ask T)) (a_cons (e_glo (ok_frame_answer T)) (a_cons (e_glo (ok_frame_text T)) a_nil))))))) (hb := (e_var 0)))) (F := (dfs_cons (x := "framed") ((ok_framed T).mono (by decide)) (dfs_cons (x := "frame_ask") ((ok_frame_ask T).mono (by decide)) (dfs_cons (x := "frame_answer") ((ok_frame_answer T).mono (by decide)) (dfs_cons (x := "frame_text") ((ok_frame_text T).mono (by decide)) dfs_nil))))) (hr := hr.mono (by decide)) (hx := (pass_of tkB)) (ha := (a_cons (e_var 1) a_nil)))))) (ss_one (s_set (i := 3) (hN := sc_law_do.nd) (he := (e_callO (F := ok_Line_send T) (hr := hr.mono (by decide)) (hx := (pass_of tkB)) (ho := (e_mkO (F := ok_Line_init T) (hr := hr.mono (by decide)) (hx := (pass_of tkB)) (ha := (a_cons (e_tree (n_lst a_nil)) (a_cons (e_tree (n_lst a_nil)) a_nil))))) (ha := (a_cons (e_var 1) a_nil))))))))) (hu := fun a pn => (ss_one (s_set (i := 2) (hN := sc_law_do.nd) (he := (e_var 4))))))
  (ss_cons (s_if (t_isN (e_var 2) e_non) (ss_one (s_ret (e_var 3))) ss_nil)
  (ss_one (s_ret (e_call (ok_law_word T) (hr.mono (by decide)) (pass_of (takes_of rfl rfl rfl rfl)) (a_cons (e_var 2) a_nil))))))))
theorem ok_lawF {f : Addr} {fd : FuncData} (T : Txt K mg) (F : Fun K "law" "law" s_law f fd) : FnOk P w K mg base (L2.CX P w) 8 f fd ["_law_script"] (spOf ⟨K, mg, S, ns, TT, up⟩ 1 f_law) := fn_ok (N := ["_law_script", "_law_parts", "_law_frame", "_law_other", "_law_thing", "_law_more", "_law_k", "_law_odd", "_law_some", "_law_at", "_law_told", "_law_what"]) (ps := ["_law_script"]) F sc_law fun cdv A outer s H E hr =>
  (ss_cons (s_set (i := 1) (hN := sc_law.nd) (he := (e_call (ok_law_bytes T) (hr.mono (by decide)) (pass_of (takes_of rfl rfl rfl rfl)) (a_cons (e_var 0) (a_cons e_int (a_cons (e_add (ha := e_int) (hb := (e_call (ok_law_pick T) (hr.mono (by decide)) (pass_of (takes_of rfl rfl rfl rfl)) (a_cons (e_var 0) (a_cons e_int (a_cons e_int a_nil)))))) a_nil))))))
  (ss_cons (s_set (i := 2) (hN := sc_law.nd) (he := (e_call (ok_law_framed T) (hr.mono (by decide)) (pass_of (takes_of rfl rfl rfl rfl)) (a_cons (e_var 1) a_nil))))
  (ss_cons (s_if (t_w (w_or (t_ne (hu := hr.units) (ha := (e_call (ok_law_do T) (hr.mono (by decide)) (pass_of (takes_of rfl rfl rfl rfl)) (a_cons e_int (a_cons (e_var 1) a_nil)))) (hb := (e_var 2))) (w_or (t_ne (hu := hr.units) (ha := (e_call (ok_law_do T) (hr.mono (by decide)) (pass_of (takes_of rfl rfl rfl rfl)) (a_cons e_int (a_cons (e_tree (n_list (hg := rfl) (hm := T.b_list) (ha := (a_cons (e_var 1) a_nil)))) a_nil)))) (hb := (e_var 2))) (w_or1 (t_notB (e_call (ok_is_frame T) (hr.mono (by decide)) (pass_of (takes_of rfl rfl rfl rfl)) (a_cons (e_var 2) a_nil)) e_bl))))) (ss_one (s_ret e_bl)) ss_nil)
  (ss_cons (s_par (i := 9) (j := 5) (hN := sc_law.nd) (ha := (a_cons (e_call (ok_law_pick T) (hr.mono (by decide)) (pass_of (takes_of rfl rfl rfl rfl)) (a_cons (e_var 0) (a_cons e_int (a_cons (e_len (hg := rfl) (hm := T.b_len) (ha := (a_cons (e_var 2) a_nil))) a_nil)))) (a_cons (e_add (ha := e_int) (hb := (e_call (ok_law_pick T) (hr.mono (by decide)) (pass_of (takes_of rfl rfl rfl rfl)) (a_cons (e_var 0) (a_cons e_int (a_cons e_int a_nil)))))) a_nil))))
  (ss_cons (s_set (i := 3) (hN := sc_law.nd) (he := (e_add (ha := (e_add (ha := (e_slice (ha := (e_var 2)) (hl := o_none) (hh := (o_some (e_var 9))))) (hb := (e_tup (a_cons (e_mod (ha := (e_add (ha := (e_ix (ha := (e_var 2)) (hb := (e_var 9)))) (hb := (e_var 5)))) (hb := e_int)) a_nil))))) (hb := (e_slice (ha := (e_var 2)) (hl := (o_some (e_add (ha := (e_var 9)) (hb := e_int)))) (hh := o_none))))))
  (ss_cons (s_pre [4, 10] (s_for (hp := passes_of rfl) (hi := (i_walk (h := (e_tree (n_lst (a_cons (e_var 3) (a_cons (e_add (ha := (e_slice (ha := (e_var 2)) (hl := o_none) (hh := (o_some (e_var 9))))) (hb := (e_slice (ha := (e_var 2)) (hl := (o_some (e_add (ha := (e_var 9)) (hb := e_int)))) (hh := o_none)))) (a_cons (e_add (ha := (e_var 2)) (hb := (e_tup (a_cons (e_var 5) a_nil)))) (a_cons (e_add (ha := (e_add (ha := (e_slice (ha := (e_var 2)) (hl := o_none) (hh := (o_some (e_var 9))))) (hb := (e_tup (a_cons (e_var 5) a_nil))))) (hb := (e_slice (ha := (e_var 2)) (hl := (o_some (e_var 9))) (hh := o_none)))) (a_cons (e_tree (n_list (hg := rfl) (hm := T.b_list) (ha := (a_cons (e_var 2) a_nil)))) a_nil)))))))))) (hg := (g_name (i := 4) sc_law.nd)) (hb := ss_drop [4, 10] (ss_cons (s_set (i := 10) (hN := sc_law.nd) (he := (e_call (ok_is_frame T) (hr.mono (by decide)) (pass_of (takes_of rfl rfl rfl rfl)) (a_cons (e_var 4) a_nil))))
  (ss_one (s_if (t_w (w_or (t_ne (hu := hr.units) (ha := (e_var 10)) (hb := (e_call (ok_law_is_frame T) (hr.mono (by decide)) (pass_of (takes_of rfl rfl rfl rfl)) (a_cons (e_var 4) a_nil)))) (w_or1 (t_not (t_val (e_isi (hg := rfl) (hm := T.b_isinstance) (hgT := rfl) (hmT := T.b_bool) (hv := bt_bool) (ht := by decide) (hn := by decide) (hd := by decide) (ha := (e_var 10)))))))) (ss_one (s_ret e_bl)) ss_nil))))))
  (ss_cons (s_pre [5] (s_for (hp := passes_of rfl) (hi := (i_walk (h := (e_tup (a_cons e_int (a_cons e_int (a_cons e_int (a_cons e_int a_nil)))))))) (hg := (g_name (i := 5) sc_law.nd)) (hb := ss_drop [5] (ss_one (s_if (t_notB (e_call (ok_is_frame T) (hr.mono (by decide)) (pass_of (takes_of rfl rfl rfl rfl)) (a_cons (e_add (ha := (e_add (ha := (e_slice (ha := (e_var 2)) (hl := o_none) (hh := (o_some (e_var 9))))) (hb := (e_tup (a_cons (e_mod (ha := (e_add (ha := (e_ix (ha := (e_var 2)) (hb := (e_var 9)))) (hb := (e_var 5)))) (hb := e_int)) a_nil))))) (hb := (e_slice (ha := (e_var 2)) (hl := (o_some (e_add (ha := (e_var 9)) (hb := e_int)))) (hh := o_none)))) a_nil)) e_bl) (ss_one (s_ret e_bl)) ss_nil)))))
  (ss_cons (s_if (t_w (w_or (t_notB (e_call (ok_is_frame T) (hr.mono (by decide)) (pass_of (takes_of rfl rfl rfl rfl)) (a_cons (e_var 3) a_nil)) e_bl) (w_or1 (t_ne (hu := hr.units) (ha := (e_tree (n_comp (own := [(("_law_thing" : Str), 4)]) (p := (.nm 4)) (hN := sc_law.nd) (hi := (i_walk (h := (e_tup (a_cons (e_tup (a_cons e_int a_nil)) (a_cons (e_tree (n_lst (a_cons e_int (a_cons e_int a_nil)))) a_nil)))))) (ok := blkOk_by (N := ["_law_script", "_law_parts", "_law_frame", "_law_other", "_law_thing", "_law_more", "_law_k", "_law_odd", "_law_some", "_law_at", "_law_told", "_law_what"]) (sc := defScope s_law) (by decide +kernel)) (hg := (fun _ _ _ _ _ => (g_name (i := 4) sc_law.nd))) (ht := (fun _ _ _ _ _ => ts_nil)) (he := (fun _ _ _ _ _ => (e_call (ok_law_do T) (hr.mono (by decide)) pass0W (a_cons e_int (a_cons (e_var 4) a_nil)))))))) (hb := (e_tree (n_lst (a_cons (e_tup (a_cons e_int (a_cons e_int a_nil))) (a_cons (e_tup (a_cons e_int (a_cons e_int (a_cons e_int a_nil)))) a_nil))))))))) (ss_one (s_ret e_bl)) ss_nil)
  (ss_cons (s_pre [4, 6, 10] (s_for (hp := passes_of rfl) (hi := (i_range1 rfl T.b_range (a_cons e_int a_nil))) (hg := (g_name (i := 6) sc_law.nd)) (hb := ss_drop [4, 6, 10] (ss_cons (s_set (i := 4) (hN := sc_law.nd) (he := (e_call (ok_law_spoilt_thing T) (hr.mono (by decide)) (pass_of (takes_of rfl rfl rfl rfl)) (a_cons (e_var 0) (a_cons (e_add (ha := e_int) (hb := (e_mul (ha := e_int) (hb := (e_var 6))))) (a_cons (e_var 2) a_nil))))))
  (ss_cons (s_set (i := 10) (hN := sc_law.nd) (he := (e_call (ok_is_frame T) (hr.mono (by decide)) (pass_of (takes_of rfl rfl rfl rfl)) (a_cons (e_var 4) a_nil))))
  (ss_cons (s_if (t_w (w_or (t_ne (hu := hr.units) (ha := (e_var 10)) (hb := (e_call (ok_law_is_frame T) (hr.mono (by decide)) (pass_of (takes_of rfl rfl rfl rfl)) (a_cons (e_var 4) a_nil)))) (w_or1 (t_not (t_val (e_isi (hg := rfl) (hm := T.b_isinstance) (hgT := rfl) (hmT := T.b_bool) (hv := bt_bool) (ht := by decide) (hn := by decide) (hd := by decide) (ha := (e_var 10)))))))) (ss_one (s_ret e_bl)) ss_nil)
  (ss_one (s_if (t_w (w_and (t_not (t_val (e_var 10))) (w_and1 (t_ne (hu := hr.units) (ha := (e_tree (n_comp (own := [(("_law_what" : Str), 11)]) (p := (.nm 11)) (hN := sc_law.nd) (hi := (i_range2 rfl T.b_range (a_cons e_int (a_cons e_int a_nil)))) (ok := blkOk_by (N := ["_law_script", "_law_parts", "_law_frame", "_law_other", "_law_thing", "_law_more", "_law_k", "_law_odd", "_law_some", "_law_at", "_law_told", "_law_what"]) (sc := defScope s_law) (by decide +kernel)) (hg := (fun _ _ _ _ _ => (g_name (i := 11) sc_law.nd))) (ht := (fun _ _ _ _ _ => ts_nil)) (he := (fun _ _ _ _ _ => (e_call (ok_law_do T) (hr.mono (by decide)) pass0W (a_cons (e_var 11) (a_cons (e_var 4) a_nil)))))))) (hb := (e_tree (n_rep (ha := (e_tree (n_lst (a_cons e_str a_nil)))) (hb := e_int)))))))) (ss_one (s_ret e_bl)) ss_nil))))))))
  (ss_cons (s_set (i := 7) (hN := sc_law.nd) (he := (e_tree (n_lst (a_cons (e_tup a_nil) (a_cons (e_tree (n_lst a_nil)) (a_cons (e_tup (a_cons e_int a_nil)) (a_cons (e_tup (a_cons (e_neg e_int) a_nil)) (a_cons (e_tup (a_cons e_bl a_nil)) (a_cons (e_tup (a_cons e_non a_nil)) (a_cons (e_mul (ha := (e_tup (a_cons e_int a_nil))) (hb := e_int)) (a_cons e_non (a_cons e_int (a_cons e_str (a_cons (e_tup (a_cons e_str a_nil)) a_nil)))))))))))))))
  (ss_cons (s_if (t_ne (hu := hr.units) (ha := (e_tree (n_comp (own := [(("_law_thing" : Str), 4)]) (p := (.nm 4)) (hN := sc_law.nd) (hi := (i_walk (h := (e_var 7)))) (ok := blkOk_by (N := ["_law_script", "_law_parts", "_law_frame", "_law_other", "_law_thing", "_law_more", "_law_k", "_law_odd", "_law_some", "_law_at", "_law_told", "_law_what"]) (sc := defScope s_law) (by decide +kernel)) (hg := (fun _ _ _ _ _ => (g_name (i := 4) sc_law.nd))) (ht := (fun _ _ _ _ _ => ts_nil)) (he := (fun _ _ _ _ _ => (e_call (ok_law_do T) (hr.mono (by decide)) pass0W (a_cons e_int (a_cons (e_var 4) a_nil)))))))) (hb := (e_tree (n_rep (ha := (e_tree (n_lst (a_cons e_str a_nil)))) (hb := e_int))))) (ss_one (s_ret e_bl)) ss_nil)
  (ss_cons (s_set (i := 8) (hN := sc_law.nd) (he := (e_tree (n_lst (a_cons (e_tup (a_cons e_int (a_cons e_int a_nil))) (a_cons (e_mul (ha := (e_tup (a_cons e_int a_nil))) (hb := e_int)) (a_cons (e_tup (a_cons e_int (a_cons e_int a_nil))) (a_cons (e_tup (a_cons e_int a_nil)) (a_cons (e_mul (ha := (e_tup (a_cons e_int a_nil))) (hb := e_int)) (a_cons (e_tup (a_cons e_int (a_cons e_int a_nil))) (a_cons (e_tup (a_cons e_int (a_cons e_int a_nil))) (a_cons (e_tup (a_cons e_int (a_cons e_bl a_nil))) (a_cons e_non a_nil)))))))))))))
  (ss_one (s_ret (e_eq (hu := hr.units) (ha := (e_tree (n_comp (own := [(("_law_thing" : Str), 4)]) (p := (.nm 4)) (hN := sc_law.nd) (hi := (i_walk (h := (e_var 8)))) (ok := blkOk_by (N := ["_law_script", "_law_parts", "_law_frame", "_law_other", "_law_thing", "_law_more", "_law_k", "_law_odd", "_law_some", "_law_at", "_law_told", "_law_what"]) (sc := defScope s_law) (by decide +kernel)) (hg := (fun _ _ _ _ _ => (g_name (i := 4) sc_law.nd))) (ht := (fun _ _ _ _ _ => ts_nil)) (he := (fun _ _ _ _ _ => (e_call (ok_is_frame T) (hr.mono (by decide)) pass0W (a_cons (e_var 4) a_nil))))))) (hb := (e_tree (n_cat (ha := (e_tree (n_rep (ha := (e_tree (n_lst (a_cons e_bl a_nil)))) (hb := e_int)))) (hb := (e_tree (n_rep (ha := (e_tree (n_lst (a_cons e_bl a_nil)))) (hb := e_int))))))))))))))))))))))
end
/-! the end: the facts of the top, one by one -/
end K01
namespace K01
open PySem PySem.Spec PyProof.Rows L2 Ly Pg
theorem word_run (st : Sto) : f_law_word [.exc ("NoFrame" : Str)] st = .ok (.str ("no frame" : Str)) st := by
  unfold f_law_word b_law_word
  rw [fn_run (by rfl)]
  have x1 : ∀ s, opIsx "Fixed" LX (.exc ("NoFrame" : Str)) s = some (.bl false, s) := fun _ => by rfl
  have x2 : ∀ s, opIsx "NoAnswer" LX (.exc ("NoFrame" : Str)) s = some (.bl false, s) := fun _ => by rfl
  have x3 : ∀ s, opIsx "NoAsk" LX (.exc ("NoFrame" : Str)) s = some (.bl false, s) := fun _ => by rfl
  have x4 : ∀ s, opIsx "NoFrame" LX (.exc ("NoFrame" : Str)) s = some (.bl true, s) := fun _ => by rfl
  have x5 : ∀ s, opIsx "NoNumber" LX (.exc ("NoFrame" : Str)) s = some (.bl false, s) := fun _ => by rfl
  have x6 : ∀ s, opIsx "NoPlace" LX (.exc ("NoFrame" : Str)) s = some (.bl false, s) := fun _ => by rfl
  have x7 : ∀ s, opIsx "NoStation" LX (.exc ("NoFrame" : Str)) s = some (.bl false, s) := fun _ => by rfl
  have x8 : ∀ s, opIsx "NoText" LX (.exc ("NoFrame" : Str)) s = some (.bl false, s) := fun _ => by rfl
  have xa : ∀ s, opIsa LX (.exc ("NoFrame" : Str)) s = some (.bl true, s) := fun _ => by rfl
  obtain ⟨e, he⟩ : ∃ e, e = D.exc ("NoFrame" : Str) := ⟨_, rfl⟩
  rw [← he] at x1 x2 x3 x4 x5 x6 x7 x8 xa ⊢
  have c1 : (st ++ [Cell.lst [.bl false, .bl false, .bl false, .bl true]])[st.length]? = some (.lst [.bl false, .bl false, .bl false, .bl true]) := by simp
  have i1 := isOf_ref c1
  have e1 := extA_lst c1 (zs := [.bl false, .bl false, .bl false]) (sz _ (by decide))
  have c2 : (st ++ [Cell.lst [.bl false, .bl false, .bl false, .bl true, .bl false, .bl false, .bl false]])[st.length]? = some (.lst [.bl false, .bl false, .bl false, .bl true, .bl false, .bl false, .bl false]) := by simp
  have i2 := isOf_ref c2
  have e2 := extA_lst c2 (zs := [.bl false]) (sz _ (by decide))
  have c3 : (st ++ [Cell.lst [.bl false, .bl false, .bl false, .bl true, .bl false, .bl false, .bl false, .bl false]])[st.length]? = some (.lst [.bl false, .bl false, .bl false, .bl true, .bl false, .bl false, .bl false, .bl false]) := by simp
  have i3 := isOf_ref c3
  have ct : fCount (.ref st.length) [.bl true] (st ++ [Cell.lst [.bl false, .bl false, .bl false, .bl true, .bl false, .bl false, .bl false, .bl false]]) = some (.int 1, st ++ [Cell.lst [.bl false, .bl false, .bl false, .bl true, .bl false, .bl false, .bl false, .bl false]]) := by
    show (rdOf _ (.ref st.length)).bind _ = _
    rw [rdOf_ref c3]; rfl
  have ix : fIndex (.ref st.length) [.bl true] (st ++ [Cell.lst [.bl false, .bl false, .bl false, .bl true, .bl false, .bl false, .bl false, .bl false]]) = some (.int 3, st ++ [Cell.lst [.bl false, .bl false, .bl false, .bl true, .bl false, .bl false, .bl false, .bl false]]) := by
    show (rdOf _ (.ref st.length)).bind _ = _
    rw [rdOf_ref c3]; rfl
  have at3 : ∀ s, opIx (.lst [.str ("fixed" : Str), .str ("no answer" : Str), .str ("no ask" : Str), .str ("no frame" : Str), .str ("no number" : Str), .str ("no place" : Str), .str ("no station" : Str), .str ("no text" : Str)]) (.int 3) s = some (.str ("no frame" : Str), s) := fun _ => rfl
  rw [set_last] at e1 e2
  simp only [List.cons_append, List.nil_append] at e1 e2
  simp -implicitDefEqProofs [x1, x2, x3, x4, x5, x6, x7, x8, xa, i1, e1, i2, e2, i3, ct, ix, at3]
  exact gcR_new (by simp)
/-- refused: told so -/
theorem caught {k : Int} {d : D} {st s1 : Sto} {g : Sto} (hs : s1 = st ++ g) (h : ∀ e : Ev, mblock [(mcond (tst (bin opLt (mvar 0) (ret (.int 4)))) (mblock [(mset 3 (callE [(("framed" : Str), Pg.f_framed), (("frame_ask" : Str), Pg.f_frame_ask), (("frame_answer" : Str), Pg.f_frame_answer), (("frame_text" : Str), Pg.f_frame_text)] (bin opIx (tree (dlst [(ret (.glo ("framed" : Str))), (ret (.glo ("frame_ask" : Str))), (ret (.glo ("frame_answer" : Str))), (ret (.glo ("frame_text" : Str)))])) (mvar 0)) (args [(mvar 1)])))]) (mblock [(mset 3 (callO "Line" "send" f_Line_send (mkO "Line" Pg.f_Line_init (args [(tree (dlst [])), (tree (dlst []))])) (args [(mvar 1)])))]))] [some (.int k), some d, some .non, some .non, none] st = .exc ("NoFrame" : Str) [some (.int k), some d, some .non, some .non, none] s1) :
    f_law_do [.int k, d] st = .ok (.str ("no frame" : Str)) st := by
  have h := h []
  unfold f_law_do b_law_do
  rw [fn_run (by rfl)]
  generalize hb : mblock [(mcond (tst (bin opLt (mvar 0) (ret (.int 4)))) _ _)] = bd at h ⊢
  have W := fun s => word_run s
  have T : mtry LX 4 bd (mblock [(mset 2 (mvar 4))]) [some (.int k), some d, some .non, some .non, none] st = .nx [some (.int k), some d, some (.exc ("NoFrame" : Str)), some .non, none] s1 := by
    unfold mtry
    rw [h]
    dsimp only
    rw [if_pos (by decide +kernel)]
    rfl
  obtain ⟨e, he⟩ : ∃ e, e = D.exc ("NoFrame" : Str) := ⟨_, rfl⟩
  have ne : ¬ (e = D.non) := by rw [he]; intro z; cases z
  rw [← he] at T W
  simp -implicitDefEqProofs [T, W, ne]
  rw [hs]
  exact gcR_new (by simp)
end K01
namespace K01
open PySem PySem.Spec PyProof.Rows L2 Ly Pg
/-! the deeds -/
theorem framed_bad {d : D} (h : ∀ s, f_are_bytes [d, .int 1, .int 19] s = .ok (.bl false) s) (st : Sto) : f_framed [d] st = .exc ("NoFrame" : Str) st := by
  unfold f_framed b_framed
  rw [fn_run (by rfl)]
  have sb : ∀ s, opSub (.int 20) (.int 1) s = some (.int 19, s) := fun _ => rfl
  simp -implicitDefEqProofs [h, sb]
  exact gcR_exc0
theorem look_bad {d : D} (h : ∀ s, f_is_frame [d] s = .ok (.bl false) s) (st : Sto) : f_look_frame [d] st = .exc ("NoFrame" : Str) st := by
  unfold f_look_frame b_look_frame
  rw [fn_run (by rfl)]
  simp -implicitDefEqProofs [h]
  exact gcR_exc0
theorem ask_bad {d : D} (h : ∀ s, f_is_frame [d] s = .ok (.bl false) s) (st : Sto) : f_frame_ask [d] st = .exc ("NoFrame" : Str) st := by
  unfold f_frame_ask b_frame_ask
  rw [fn_run (by rfl)]
  simp -implicitDefEqProofs [look_bad h]
  exact gcR_exc0
theorem answer_bad {d : D} (h : ∀ s, f_is_frame [d] s = .ok (.bl false) s) (st : Sto) : f_frame_answer [d] st = .exc ("NoFrame" : Str) st := by
  unfold f_frame_answer b_frame_answer
  rw [fn_run (by rfl)]
  simp -implicitDefEqProofs [look_bad h]
  exact gcR_exc0
theorem text_bad {d : D} (h : ∀ s, f_is_frame [d] s = .ok (.bl false) s) (st : Sto) : f_frame_text [d] st = .exc ("NoFrame" : Str) st := by
  unfold f_frame_text b_frame_text
  rw [fn_run (by rfl)]
  simp -implicitDefEqProofs [look_bad h]
  exact gcR_exc0
theorem send_bad {d e : D} (h : ∀ s, f_is_frame [d] s = .ok (.bl false) s) (st : Sto) : f_Line_send [e, d] st = .exc ("NoFrame" : Str) st := by
  unfold f_Line_send b_Line_send
  rw [fn_run (by rfl)]
  simp -implicitDefEqProofs [look_bad h]
  exact gcR_exc0
theorem callE_run {tbl : List (Str × (List D → Sto → R D))} {fe : M D} {as : M (List D)} {e : Ev} {st st1 st2 : Sto} {d : D} {ds : List D} {x : Str} {f : List D → Sto → R D} (h1 : fe e st = .ok d st1) (h2 : pickF tbl d = some (x, f)) (h3 : as e st1 = .ok ds st2) : callE tbl fe as e st = f ds st2 := by
  unfold callE
  simp only [bnd, h1, h2, h3]
/-- a line of nothing -/
theorem line_new (st : Sto) : ∃ g, newO "Line" f_Line_init [.lst [], .lst []] st = .ok (.ref st.length) (st ++ g) ∧ Ly.isObj ("Line" : Str) ("send" : Str) (st ++ g) (.ref st.length) = true := by
  refine ⟨[linC ⟨[], 0, []⟩ (st.length + 1) (st.length + 2) (st.length + 3), .lst [], .lst [], .lst []], ?_, by simp [Ly.isObj, linC]; decide⟩
  have F : f_Line_init [.ref st.length, .lst [], .lst []] (st ++ [.ins "Line" [] []]) = .ok .non (st ++ [linC ⟨[], 0, []⟩ (st.length + 1) (st.length + 2) (st.length + 3), .lst [], .lst [], .lst []]) := by
    unfold f_Line_init b_Line_init
    rw [fn_run (by rfl)]
    have B : ∀ s, fAll [.lst []] s = some (.bl true, s) := fun _ => rfl
    have t : ∀ s, opIsi ["list", "tuple"] (.lst []) s = some (.bl true, s) := fun _ => rfl
    have k1 : putK "stations" ([] : List Str) = (["stations"] : List Str) := rfl
    have k2 : putK "marks" (["stations"] : List Str) = (["stations", "marks"] : List Str) := rfl
    have k3 : putK "gone" (["stations", "marks"] : List Str) = (["stations", "marks", "gone"] : List Str) := rfl
    have k4 : putK "waiting" (["stations", "marks", "gone"] : List Str) = (["stations", "marks", "gone", "waiting"] : List Str) := rfl
    have x1 : ∀ d, putX "stations" d [] [] = [d] := fun _ => rfl
    have x2 : ∀ d a, putX "marks" d ["stations"] [a] = [a, d] := fun _ _ => rfl
    have x3 : ∀ d a b, putX "gone" d ["stations", "marks"] [a, b] = [a, b, d] := fun _ _ _ => rfl
    have x4 : ∀ d a b c, putX "waiting" d ["stations", "marks", "gone"] [a, b, c] = [a, b, c, d] := fun _ _ _ _ => rfl
    have f1 : ∀ s, fList [.lst []] s = some (([] : List D), s) := fun _ => rfl
    simp -implicitDefEqProofs [t, wipeE, B, f1, loopC, k1, k2, k3, k4, x1, x2, x3, x4]
    exact gcR_kept (i := st.length) (c := linC ⟨[], 0, []⟩ (st.length + 1) (st.length + 2) (st.length + 3)) (by simp) (by simp; rfl) (by simp [linC]) (by simp [Cell.cl, linC, D.cl, D.clL])
  unfold newO
  rw [F]
theorem pick0 : pickF [(("framed" : Str), Pg.f_framed), (("frame_ask" : Str), Pg.f_frame_ask), (("frame_answer" : Str), Pg.f_frame_answer), (("frame_text" : Str), Pg.f_frame_text)] (.glo ("framed" : Str)) = some (("framed" : Str), Pg.f_framed) := by rfl
theorem pick1 : pickF [(("framed" : Str), Pg.f_framed), (("frame_ask" : Str), Pg.f_frame_ask), (("frame_answer" : Str), Pg.f_frame_answer), (("frame_text" : Str), Pg.f_frame_text)] (.glo ("frame_ask" : Str)) = some (("frame_ask" : Str), Pg.f_frame_ask) := by rfl
theorem pick2 : pickF [(("framed" : Str), Pg.f_framed), (("frame_ask" : Str), Pg.f_frame_ask), (("frame_answer" : Str), Pg.f_frame_answer), (("frame_text" : Str), Pg.f_frame_text)] (.glo ("frame_answer" : Str)) = some (("frame_answer" : Str), Pg.f_frame_answer) := by rfl
theorem pick3 : pickF [(("framed" : Str), Pg.f_framed), (("frame_ask" : Str), Pg.f_frame_ask), (("frame_answer" : Str), Pg.f_frame_answer), (("frame_text" : Str), Pg.f_frame_text)] (.glo ("frame_text" : Str)) = some (("frame_text" : Str), Pg.f_frame_text) := by rfl
theorem do0_bad {d : D} (h : ∀ s, f_are_bytes [d, .int 1, .int 19] s = .ok (.bl false) s) (st : Sto) : f_law_do [.int 0, d] st = .ok (.str ("no frame" : Str)) st := by
  refine caught (g := []) (by rw [List.append_nil]) fun e => ?_
  have at0 : ∀ s, opIx (.lst [.glo ("framed" : Str), .glo ("frame_ask" : Str), .glo ("frame_answer" : Str), .glo ("frame_text" : Str)]) (.int 0) s = some (.glo ("framed" : Str), s) := fun _ => rfl
  have lt : ∀ s, opLt (.int 0) (.int 4) s = some (.bl true, s) := fun _ => rfl
  have P : ∀ s, callE [(("framed" : Str), Pg.f_framed), (("frame_ask" : Str), Pg.f_frame_ask), (("frame_answer" : Str), Pg.f_frame_answer), (("frame_text" : Str), Pg.f_frame_text)] (bin opIx (tree (dlst [(ret (.glo ("framed" : Str))), (ret (.glo ("frame_ask" : Str))), (ret (.glo ("frame_answer" : Str))), (ret (.glo ("frame_text" : Str)))])) (mvar 0)) (args [(mvar 1)]) [some (.int 0), some d, some .non, some .non, none] s = Pg.f_framed [d] s := fun s => callE_run (st1 := s) (st2 := s) (by simp -implicitDefEqProofs [at0]) pick0 (by simp -implicitDefEqProofs)
  simp -implicitDefEqProofs [lt, at0, P, framed_bad h]
theorem do_bad {d : D} (h : ∀ s, f_is_frame [d] s = .ok (.bl false) s) {k : Int} (h1 : 1 ≤ k) (h4 : k ≤ 4) (st : Sto) : f_law_do [.int k, d] st = .ok (.str ("no frame" : Str)) st := by
  have hk : k = 1 ∨ k = 2 ∨ k = 3 ∨ k = 4 := by omega
  rcases hk with rfl | rfl | rfl | rfl
  · refine caught (g := []) (by rw [List.append_nil]) fun e => ?_
    have at0 : ∀ s, opIx (.lst [.glo ("framed" : Str), .glo ("frame_ask" : Str), .glo ("frame_answer" : Str), .glo ("frame_text" : Str)]) (.int 1) s = some (.glo ("frame_ask" : Str), s) := fun _ => rfl
    have lt : ∀ s, opLt (.int 1) (.int 4) s = some (.bl true, s) := fun _ => rfl
    have P : ∀ s, callE [(("framed" : Str), Pg.f_framed), (("frame_ask" : Str), Pg.f_frame_ask), (("frame_answer" : Str), Pg.f_frame_answer), (("frame_text" : Str), Pg.f_frame_text)] (bin opIx (tree (dlst [(ret (.glo ("framed" : Str))), (ret (.glo ("frame_ask" : Str))), (ret (.glo ("frame_answer" : Str))), (ret (.glo ("frame_text" : Str)))])) (mvar 0)) (args [(mvar 1)]) [some (.int 1), some d, some .non, some .non, none] s = Pg.f_frame_ask [d] s := fun s => callE_run (st1 := s) (st2 := s) (by simp -implicitDefEqProofs [at0]) pick1 (by simp -implicitDefEqProofs)
    simp -implicitDefEqProofs [lt, at0, P, ask_bad h]
  · refine caught (g := []) (by rw [List.append_nil]) fun e => ?_
    have at0 : ∀ s, opIx (.lst [.glo ("framed" : Str), .glo ("frame_ask" : Str), .glo ("frame_answer" : Str), .glo ("frame_text" : Str)]) (.int 2) s = some (.glo ("frame_answer" : Str), s) := fun _ => rfl
    have lt : ∀ s, opLt (.int 2) (.int 4) s = some (.bl true, s) := fun _ => rfl
    have P : ∀ s, callE [(("framed" : Str), Pg.f_framed), (("frame_ask" : Str), Pg.f_frame_ask), (("frame_answer" : Str), Pg.f_frame_answer), (("frame_text" : Str), Pg.f_frame_text)] (bin opIx (tree (dlst [(ret (.glo ("framed" : Str))), (ret (.glo ("frame_ask" : Str))), (ret (.glo ("frame_answer" : Str))), (ret (.glo ("frame_text" : Str)))])) (mvar 0)) (args [(mvar 1)]) [some (.int 2), some d, some .non, some .non, none] s = Pg.f_frame_answer [d] s := fun s => callE_run (st1 := s) (st2 := s) (by simp -implicitDefEqProofs [at0]) pick2 (by simp -implicitDefEqProofs)
    simp -implicitDefEqProofs [lt, at0, P, answer_bad h]
  · refine caught (g := []) (by rw [List.append_nil]) fun e => ?_
    have at0 : ∀ s, opIx (.lst [.glo ("framed" : Str), .glo ("frame_ask" : Str), .glo ("frame_answer" : Str), .glo ("frame_text" : Str)]) (.int 3) s = some (.glo ("frame_text" : Str), s) := fun _ => rfl
    have lt : ∀ s, opLt (.int 3) (.int 4) s = some (.bl true, s) := fun _ => rfl
    have P : ∀ s, callE [(("framed" : Str), Pg.f_framed), (("frame_ask" : Str), Pg.f_frame_ask), (("frame_answer" : Str), Pg.f_frame_answer), (("frame_text" : Str), Pg.f_frame_text)] (bin opIx (tree (dlst [(ret (.glo ("framed" : Str))), (ret (.glo ("frame_ask" : Str))), (ret (.glo ("frame_answer" : Str))), (ret (.glo ("frame_text" : Str)))])) (mvar 0)) (args [(mvar 1)]) [some (.int 3), some d, some .non, some .non, none] s = Pg.f_frame_text [d] s := fun s => callE_run (st1 := s) (st2 := s) (by simp -implicitDefEqProofs [at0]) pick3 (by simp -implicitDefEqProofs)
    simp -implicitDefEqProofs [lt, at0, P, text_bad h]
  · obtain ⟨g, hg, hi⟩ := line_new st
    refine caught (g := g) rfl fun e => ?_
    have lt : ∀ s, opLt (.int 4) (.int 4) s = some (.bl false, s) := fun _ => rfl
    simp -implicitDefEqProofs [lt, hg, hi, callO, mkO, send_bad h]
theorem do0_ok {d : D} {xs : List Int} (hd : ∀ s, Ints s d xs) (hx : Byt xs) (h1 : 1 ≤ xs.length) (h2 : xs.length ≤ 19) (st : Sto) : f_law_do [.int 0, d] st = .ok (tupD (fr xs)) st := by
  have F := fun s => framed_run (hd s) hx h1 h2
  have at0 : ∀ s, opIx (.lst [.glo ("framed" : Str), .glo ("frame_ask" : Str), .glo ("frame_answer" : Str), .glo ("frame_text" : Str)]) (.int 0) s = some (.glo ("framed" : Str), s) := fun _ => rfl
  have lt : ∀ s, opLt (.int 0) (.int 4) s = some (.bl true, s) := fun _ => rfl
  have P : ∀ s, callE [(("framed" : Str), Pg.f_framed), (("frame_ask" : Str), Pg.f_frame_ask), (("frame_answer" : Str), Pg.f_frame_answer), (("frame_text" : Str), Pg.f_frame_text)] (bin opIx (tree (dlst [(ret (.glo ("framed" : Str))), (ret (.glo ("frame_ask" : Str))), (ret (.glo ("frame_answer" : Str))), (ret (.glo ("frame_text" : Str)))])) (mvar 0)) (args [(mvar 1)]) [some (.int 0), some d, some .non, some .non, none] s = Pg.f_framed [d] s := fun s => callE_run (st1 := s) (st2 := s) (by simp -implicitDefEqProofs [at0]) pick0 (by simp -implicitDefEqProofs)
  unfold f_law_do b_law_do
  rw [fn_run (by rfl)]
  generalize hb : mblock [(mcond (tst (bin opLt (mvar 0) (ret (.int 4)))) _ _)] = bd
  have B : bd [some (.int 0), some d, some .non, some .non, none] st = .nx [some (.int 0), some d, some .non, some (tupD (fr xs)), none] st := by
    subst hb
    simp -implicitDefEqProofs [lt, at0, P, F]
  have T : ∀ u, mtry LX 4 bd u [some (.int 0), some d, some .non, some .non, none] st = .nx [some (.int 0), some d, some .non, some (tupD (fr xs)), none] st := fun u => by
    unfold mtry
    rw [B]
  simp -implicitDefEqProofs [T]
  exact gc0 (by unfold tupD; simp [clL_ints])
end K01
namespace K01
open PySem PySem.Spec PyProof.Rows L2 Ly Pg
/-- told alike by both -/
def Same (d : D) (b : Bool) : Prop := ∀ st, f_is_frame [d] st = .ok (.bl b) st ∧ f_law_is_frame [d] st = .ok (.bl b) st
theorem same_ints (xs : List Int) : Same (tupD xs) (isFr xs) := fun st => ⟨frame_run xs st, law_frame_run xs st⟩
theorem same_good {d : D} (h : Good d) : ∃ b, Same d b := by
  rcases good_cases h with ⟨xs, rfl⟩ | h
  · exact ⟨_, same_ints xs⟩
  · exact ⟨false, h⟩
theorem same_lst (xs : List D) : Same (.lst xs) false := fun st => by
  have t : opIsi ["tuple"] (.lst xs) st = some (.bl false, st) := rfl
  refine ⟨?_, ?_⟩
  · unfold f_is_frame b_is_frame
    rw [fn_run (by rfl)]
    simp -implicitDefEqProofs [t]
    exact gc0
  · unfold f_law_is_frame b_law_is_frame
    rw [fn_run (by rfl)]
    simp -implicitDefEqProofs [t]
    exact gc0
theorem spoil_bad {F : List Int} (f : Frame F) {k : Nat} (h : k < F.length) {m : Int} (h1 : 1 ≤ m) (h2 : m ≤ 255) : isFr (F.take k ++ [(F.getD k 0 + m) % 256] ++ F.drop (k + 1)) = false := by
  cases q : isFr (F.take k ++ [(F.getD k 0 + m) % 256] ++ F.drop (k + 1)) with
  | false => rfl
  | true =>
    exfalso
    have s := (isFr_of q).sum
    have s0 := f.sum
    have e : F.take k ++ [F.getD k 0] ++ F.drop (k + 1) = F := by
      rw [List.getD_eq_getElem?_getD, List.getElem?_eq_getElem h, Option.getD_some, List.append_assoc, List.singleton_append, ← List.drop_eq_getElem_cons h, List.take_append_drop]
    rw [← e] at s0
    simp only [List.sum_append, List.sum_cons, List.sum_nil] at s s0
    omega
def oddD : List D := [.tup [], .lst [], .tup [.int 256], .tup [.int (-1)], .tup [.bl true], .tup [.non], .tup (List.replicate 20 (.int 0)), .non, .int 5, .str ("0" : Str), .tup [.str ("0" : Str)]]
theorem odd_bytes : ∀ d ∈ oddD, ∀ s, f_are_bytes [d, .int 1, .int 19] s = .ok (.bl false) s := fun d hd s => by
  unfold oddD at hd
  simp only [List.mem_cons, List.not_mem_nil, or_false] at hd
  rcases hd with rfl | rfl | rfl | rfl | rfl | rfl | rfl | rfl | rfl | rfl | rfl
  · exact bytes_tup (fun x hx => by cases hx) 1 19 s
  · exact bytes_lst (fun x hx => by cases hx) 1 19 s
  · exact bytes_tup (fun x hx => by rw [List.mem_singleton.mp hx]; rfl) 1 19 s
  · exact bytes_tup (fun x hx => by rw [List.mem_singleton.mp hx]; rfl) 1 19 s
  · exact bytes_tup (fun x hx => by rw [List.mem_singleton.mp hx]; rfl) 1 19 s
  · exact bytes_tup (fun x hx => by rw [List.mem_singleton.mp hx]; rfl) 1 19 s
  · exact bytes_tup (fun x hx => by rw [List.eq_of_mem_replicate hx]; rfl) 1 19 s
  · exact bytes_no rfl _ _ s
  · exact bytes_no rfl _ _ s
  · exact bytes_no rfl _ _ s
  · exact bytes_tup (fun x hx => by rw [List.mem_singleton.mp hx]; rfl) 1 19 s
theorem forX_still {p : Pat} {bd : MS} {L : List D} {e : Ev} {st : Sto} (h : ∀ d ∈ L, ∃ e1, asg p d e = some e1 ∧ bd e1 st = .nx e st) : forX (fun _ => true) p bd L e st = .nx e st := by
  obtain ⟨e2, st2, hf, rfl, rfl⟩ := forX_map (p := p) (body := bd) (id : D → D) L (fun _ e' s' => e' = e ∧ s' = st) (e := e) (st := st) ⟨rfl, rfl⟩ (by
    intro j hj e' s' ⟨he, hs⟩
    subst he hs
    obtain ⟨e1, h1, h2⟩ := h L[j] (List.getElem_mem hj)
    exact ⟨e1, h1, _, _, .inl h2, rfl, rfl⟩)
  rwa [List.map_id] at hf
theorem no_frames : okN 60 (D.lst (List.replicate 4 (.str ("no frame" : Str)))) := okN_lst fun x hx => by rw [List.eq_of_mem_replicate hx]; exact okN_str _ (by decide +kernel)
theorem no_frames11 : okN 60 (D.lst (List.replicate 11 (.str ("no frame" : Str)))) := okN_lst fun x hx => by rw [List.eq_of_mem_replicate hx]; exact okN_str _ (by decide +kernel)
def lastD : List D := [.tup [.int 0, .int 0], .tup (List.replicate 20 (.int 0)), .tup [.int 255, .int 1], .tup [.int 0], .tup (List.replicate 21 (.int 0)), .tup [.int 128, .int 127], .tup [.int 256, .int 0], .tup [.int 0, .bl false], .non]
def lastB : List Bool := [true, true, true, false, false, false, false, false, false]
theorem last_bool (_ : Sto) : (∀ s, f_is_frame [.tup [.int 0, .int 0]] s = .ok (.bl true) s) ∧ (∀ s, f_is_frame [.tup (List.replicate 20 (.int 0))] s = .ok (.bl true) s) ∧ (∀ s, f_is_frame [.tup [.int 255, .int 1]] s = .ok (.bl true) s) ∧ (∀ s, f_is_frame [.tup [.int 0]] s = .ok (.bl false) s) ∧ (∀ s, f_is_frame [.tup (List.replicate 21 (.int 0))] s = .ok (.bl false) s) ∧ (∀ s, f_is_frame [.tup [.int 128, .int 127]] s = .ok (.bl false) s) ∧ (∀ s, f_is_frame [.tup [.int 256, .int 0]] s = .ok (.bl false) s) ∧ (∀ s, f_is_frame [.tup [.int 0, .bl false]] s = .ok (.bl false) s) ∧ (∀ s, f_is_frame [.non] s = .ok (.bl false) s) := by
  refine ⟨fun s => frame_run [0, 0] s, fun s => frame_run (List.replicate 20 0) s, fun s => frame_run [255, 1] s, fun s => frame_run [0] s, fun s => frame_run (List.replicate 21 0) s, fun s => frame_run [128, 127] s, fun s => frame_run [256, 0] s, fun s => ?_, fun s => ?_⟩
  · unfold f_is_frame b_is_frame
    rw [fn_run (by rfl)]
    have t : opIsi ["tuple"] (.tup [.int 0, .bl false]) s = some (.bl true, s) := rfl
    have B := bytes_tup (ds := [.int 0, .bl false]) (fun x hx => by
      simp only [List.mem_cons, List.not_mem_nil, or_false] at hx
      rcases hx with rfl | rfl <;> rfl) 2 20 s
    have B : f_are_bytes [.tup [.int 0, .bl false], .int 2, .int 20] s = .ok (.bl false) s := B
    simp -implicitDefEqProofs [t, B]
    exact gc0
  · unfold f_is_frame b_is_frame
    rw [fn_run (by rfl)]
    have t : opIsi ["tuple"] .non s = some (.bl false, s) := rfl
    simp -implicitDefEqProofs [t]
    exact gc0
set_option maxHeartbeats 16000000 in
theorem law_true (ns : List Int) (h : ns.length ≤ 63) : ∃ st, f_law [.scr ns] [] = .ok (.bl true) st := by
  unfold f_law b_law
  refine law_end (N := 11) ⟨[], ?_⟩
  show (mblock _) [some (D.scr ns), none, none, none, none, none, none, none, none, none, none, none] [] = _
  have p1 := fun s => pick_any h 1 19 s (by decide) (by decide)
  have r1 := pk_range ns 1 (m := 19) (by decide)
  obtain ⟨n, hn⟩ : ∃ n : Nat, 1 + pk ns 1 19 = n := ⟨(1 + pk ns 1 19).toNat, by omega⟩
  obtain ⟨xs, hx, hl, LB⟩ := law_bytes_run h (a := 10) (by decide) n (by omega)
  have LF := fun s => law_framed_run (Ints.tup (st := s) xs) (by omega)
  have LF : ∀ s, f_law_framed [tupD xs] s = .ok (tupD (fr xs)) s := LF
  have fF := fr_frame hx (by omega) (by omega)
  have fl : (fr xs).length = n + 1 := by unfold fr; simp [hl]
  have D1 := fun s => do0_ok (d := tupD xs) (fun s => Ints.tup xs) hx (by omega) (by omega) s
  have D2 := fun s => do0_ok (d := .lst (xs.map .int)) (fun s => Ints.lst xs) hx (by omega) (by omega) s
  have L1 : ∀ s, fList [tupD xs] s = some (xs.map .int, s) := fun _ => rfl
  generalize fr xs = fs at *
  have F0 : ∀ s, f_is_frame [tupD fs] s = .ok (.bl true) s := fun s => by
    have := frame_run fs s
    rw [fF.is] at this
    exact this
  have NE : ∀ s, opNe (tupD fs) (tupD fs) s = some (.bl false, s) := fun s => ne_refl (okN_tupD 59 fs)
  have lf : ∀ s, fLen [tupD fs] s = some (.int (fs.length : Int), s) := fun s => (Ints.tup (st := s) fs).len
  have lfl : ∀ s, fList [tupD fs] s = some (fs.map .int, s) := fun _ => rfl
  have p2 := fun s => pick_any h 2 (fs.length : Int) s (by decide) (by omega)
  have r2 := pk_range ns 2 (m := (fs.length : Int)) (by omega)
  obtain ⟨k, hk⟩ : ∃ k : Nat, pk ns 2 (fs.length : Int) = k := ⟨(pk ns 2 (fs.length : Int)).toNat, by omega⟩
  rw [hk] at p2 r2
  have p3 := fun s => pick_any h 3 255 s (by decide) (by decide)
  have r3 := pk_range ns 3 (m := 255) (by decide)
  obtain ⟨m, hm⟩ : ∃ m : Int, 1 + pk ns 3 255 = m := ⟨_, rfl⟩
  obtain ⟨v, hv⟩ : ∃ v : Int, v = fs.getD k 0 := ⟨_, rfl⟩
  have ix : ∀ s, opIx (tupD fs) (.int (k : Int)) s = some (.int v, s) := fun s => by
    rw [hv]
    show (atI (fs.map D.int) (k : Int)).map _ = _
    rw [atI_map fs (k : Int) (by omega) (by omega)]; rfl
  obtain ⟨T, hT⟩ : ∃ T, T = tupD (fs.take k) := ⟨_, rfl⟩
  obtain ⟨B1, hB1⟩ : ∃ T, T = tupD (fs.drop (k + 1)) := ⟨_, rfl⟩
  obtain ⟨B0, hB0⟩ : ∃ T, T = tupD (fs.drop k) := ⟨_, rfl⟩
  obtain ⟨U, hU⟩ : ∃ U : Int → D, ∀ x, U x = tupD (fs.take k ++ [x]) := ⟨_, fun _ => rfl⟩
  obtain ⟨V, hV⟩ : ∃ U : Int → D, ∀ x, U x = tupD (fs.take k ++ [x] ++ fs.drop (k + 1)) := ⟨_, fun _ => rfl⟩
  obtain ⟨W, hW⟩ : ∃ U : Int → D, ∀ x, U x = tupD (fs.take k ++ [x] ++ fs.drop k) := ⟨_, fun _ => rfl⟩
  obtain ⟨Q, hQ⟩ : ∃ T, T = tupD (fs.take k ++ fs.drop (k + 1)) := ⟨_, rfl⟩
  obtain ⟨Z, hZ⟩ : ∃ U : Int → D, ∀ x, U x = tupD (fs ++ [x]) := ⟨_, fun _ => rfl⟩
  have s1 : ∀ s, opSl none (some (k : Int)) (tupD fs) s = some (T, s) := fun s => by
    rw [hT]
    show some (D.tup (cut (fs.map D.int) none (some (k : Int))), s) = _
    rw [cut_map, cut_to]; rfl
  have s2 : ∀ s, opSl (some ((k : Int) + 1)) none (tupD fs) s = some (B1, s) := fun s => by
    rw [hB1]
    show some (D.tup (cut (fs.map D.int) (some ((k : Int) + 1)) none), s) = _
    rw [cut_map, show (k : Int) + 1 = ((k + 1 : Nat) : Int) from rfl, cut_from]; rfl
  have s3 : ∀ s, opSl (some (k : Int)) none (tupD fs) s = some (B0, s) := fun s => by
    rw [hB0]
    show some (D.tup (cut (fs.map D.int) (some (k : Int)) none), s) = _
    rw [cut_map, cut_from]; rfl
  have add : ∀ (a b : List Int) s, a.length + b.length ≤ 1000 → opAdd (tupD a) (tupD b) s = some (tupD (a ++ b), s) := fun a b s hs => by
    show (if (a.map D.int).length + (b.map D.int).length ≤ sizeLine then some (D.tup (a.map .int ++ b.map .int), s) else none) = _
    rw [if_pos (sz _ (by rw [List.length_map, List.length_map]; omega)), ← List.map_append]; rfl
  have a1 : ∀ x s, opAdd T (.tup [.int x]) s = some (U x, s) := fun x s => by
    rw [hT, hU]
    exact add (fs.take k) [x] s (by rw [List.length_take]; simp; omega)
  have a2 : ∀ x s, opAdd (U x) B1 s = some (V x, s) := fun x s => by
    rw [hB1, hU, hV]
    exact add _ _ s (by rw [List.length_append, List.length_take, List.length_drop]; simp; omega)
  have a3 : ∀ x s, opAdd (U x) B0 s = some (W x, s) := fun x s => by
    rw [hB0, hU, hW]
    exact add _ _ s (by rw [List.length_append, List.length_take, List.length_drop]; simp; omega)
  have a4 : ∀ s, opAdd T B1 s = some (Q, s) := fun s => by
    rw [hB1, hT, hQ]
    exact add _ _ s (by rw [List.length_take, List.length_drop]; omega)
  have a5 : ∀ x s, opAdd (tupD fs) (.tup [.int x]) s = some (Z x, s) := fun x s => by
    rw [hZ]
    exact add fs [x] s (by simp; omega)
  have bad : ∀ x : Int, 1 ≤ x → x ≤ 255 → Same (V ((v + x) % 256)) false := fun x x1 x2 => by
    have := same_ints (fs.take k ++ [(fs.getD k 0 + x) % 256] ++ fs.drop (k + 1))
    rw [spoil_bad fF (by omega) x1 x2, ← hv] at this
    rw [hV]
    exact this
  have sQ : Same Q (isFr (fs.take k ++ fs.drop (k + 1))) := by rw [hQ]; exact same_ints _
  have sZ : Same (Z m) (isFr (fs ++ [m])) := by rw [hZ]; exact same_ints _
  have sW : Same (W m) (isFr (fs.take k ++ [m] ++ fs.drop k)) := by rw [hW]; exact same_ints _
  clear hT hU hV hW hQ hZ hB1 hB0
  have E1 : ((mset 1 (callF Pg.f_law_bytes (args [(mvar 0), (ret (.int 10)), (bin opAdd (ret (.int 1)) (callF stdPick (args [(mvar 0), (ret (.int 1)), (ret (.int 19))])))])))) [some (D.scr ns), none, none, none, none, none, none, none, none, none, none, none] [] = .nx [some (D.scr ns), some (tupD xs), none, none, none, none, none, none, none, none, none, none] [] := by
    simp -implicitDefEqProofs [p1, hn, LB]
  have E2 : ((mset 2 (callF Pg.f_law_framed (args [(mvar 1)])))) [some (D.scr ns), some (tupD xs), none, none, none, none, none, none, none, none, none, none] [] = .nx [some (D.scr ns), some (tupD xs), some (tupD fs), none, none, none, none, none, none, none, none, none] [] := by
    simp -implicitDefEqProofs [LF]
  have E3 : ((mcond (mor (tst (bin opNe (callF f_law_do (args [(ret (.int 0)), (mvar 1)])) (mvar 2))) (mor (tst (bin opNe (callF f_law_do (args [(ret (.int 0)), (tree (calls fList (args [(mvar 1)])))])) (mvar 2))) (tst (bin opNotB (callF Pg.f_is_frame (args [(mvar 2)])) (ret (.bl true)))))) (mblock [(mret (ret (.bl false)))]) (mblock []))) [some (D.scr ns), some (tupD xs), some (tupD fs), none, none, none, none, none, none, none, none, none] [] = .nx [some (D.scr ns), some (tupD xs), some (tupD fs), none, none, none, none, none, none, none, none, none] [] := by
    simp -implicitDefEqProofs [D1, D2, L1, NE, F0, -List.map_map]
  have E4 : ((mpar 9 5 (args [(callF stdPick (args [(mvar 0), (ret (.int 2)), (calls fLen (args [(mvar 2)]))])), (bin opAdd (ret (.int 1)) (callF stdPick (args [(mvar 0), (ret (.int 3)), (ret (.int 255))])))]))) [some (D.scr ns), some (tupD xs), some (tupD fs), none, none, none, none, none, none, none, none, none] [] = .nx [some (D.scr ns), some (tupD xs), some (tupD fs), none, none, some (.int m), none, none, none, some (.int (k : Int)), none, none] [] := by
    simp -implicitDefEqProofs [lf, p2, p3, hm]
  have E5 : ((mset 3 (bin opAdd (bin opAdd (slice opSl (mvar 2) (ret none) (part (mvar 9))) (dtup [(bin opMod (bin opAdd (bin opIx (mvar 2) (mvar 9)) (mvar 5)) (ret (.int 256)))])) (slice opSl (mvar 2) (part (bin opAdd (mvar 9) (ret (.int 1)))) (ret none))))) [some (D.scr ns), some (tupD xs), some (tupD fs), none, none, some (.int m), none, none, none, some (.int (k : Int)), none, none] [] = .nx [some (D.scr ns), some (tupD xs), some (tupD fs), some (V ((v + m) % 256)), none, some (.int m), none, none, none, some (.int (k : Int)), none, none] [] := by
    simp -implicitDefEqProofs [s1, s2, ix, a1, a2]
  have E6 : ((mpre [4, 10] (mfor (walk (tree (dlst [(mvar 3), (bin opAdd (slice opSl (mvar 2) (ret none) (part (mvar 9))) (slice opSl (mvar 2) (part (bin opAdd (mvar 9) (ret (.int 1)))) (ret none))), (bin opAdd (mvar 2) (dtup [(mvar 5)])), (bin opAdd (bin opAdd (slice opSl (mvar 2) (ret none) (part (mvar 9))) (dtup [(mvar 5)])) (slice opSl (mvar 2) (part (mvar 9)) (ret none))), (tree (calls fList (args [(mvar 2)])))]))) (.nm 4) (mdrop [4, 10] (mblock [(mset 10 (callF Pg.f_is_frame (args [(mvar 4)]))),   (mcond (mor (tst (bin opNe (mvar 10) (callF Pg.f_law_is_frame (args [(mvar 4)])))) (mnot (tst (un (opIsi ["bool"]) (mvar 10))))) (mblock [(mret (ret (.bl false)))]) (mblock []))]))))) [some (D.scr ns), some (tupD xs), some (tupD fs), some (V ((v + m) % 256)), none, some (.int m), none, none, none, some (.int (k : Int)), none, none] [] = .nx [some (D.scr ns), some (tupD xs), some (tupD fs), some (V ((v + m) % 256)), none, some (.int m), none, none, none, some (.int (k : Int)), none, none] [] := by
    have X := forX_still (p := .nm 4) (bd := (mdrop [4, 10] (mblock [(mset 10 (callF Pg.f_is_frame (args [(mvar 4)]))),   (mcond (mor (tst (bin opNe (mvar 10) (callF Pg.f_law_is_frame (args [(mvar 4)])))) (mnot (tst (un (opIsi ["bool"]) (mvar 10))))) (mblock [(mret (ret (.bl false)))]) (mblock []))]))) (L := [V ((v + m) % 256), Q, Z m, W m, .lst (fs.map .int)]) (e := [some (D.scr ns), some (tupD xs), some (tupD fs), some (V ((v + m) % 256)), none, some (.int m), none, none, none, some (.int (k : Int)), none, none]) (st := []) fun d hd => by
      obtain ⟨b, hb⟩ : ∃ b, Same d b := by
        simp only [List.mem_cons, List.not_mem_nil, or_false] at hd
        rcases hd with rfl | rfl | rfl | rfl | rfl
        · exact ⟨_, bad m (by omega) (by omega)⟩
        · exact ⟨_, sQ⟩
        · exact ⟨_, sZ⟩
        · exact ⟨_, sW⟩
        · exact ⟨_, same_lst _⟩
      have b1 := fun s => (hb s).1
      have b2 := fun s => (hb s).2
      have t : ∀ s, opIsi ["bool"] (.bl b) s = some (.bl true, s) := fun _ => rfl
      have ne : ∀ s, opNe (.bl b) (.bl b) s = some (.bl false, s) := fun s => ne_refl (okN_bl _ _)
      refine ⟨_, rfl, ?_⟩
      simp -implicitDefEqProofs [b1, b2, t, ne]
    generalize (mdrop [4, 10] (mblock [(mset 10 (callF Pg.f_is_frame (args [(mvar 4)]))),   (mcond (mor (tst (bin opNe (mvar 10) (callF Pg.f_law_is_frame (args [(mvar 4)])))) (mnot (tst (un (opIsi ["bool"]) (mvar 10))))) (mblock [(mret (ret (.bl false)))]) (mblock []))])) = bd at X ⊢
    simp -implicitDefEqProofs [s1, s2, s3, ix, a1, a2, a3, a4, a5, lfl, X]
  have E7 : ((mpre [5] (mfor (walk (dtup [(ret (.int 1)), (ret (.int 64)), (ret (.int 128)), (ret (.int 255))])) (.nm 5) (mdrop [5] (mblock [(mcond (tst (bin opNotB (callF Pg.f_is_frame (args [(bin opAdd (bin opAdd (slice opSl (mvar 2) (ret none) (part (mvar 9))) (dtup [(bin opMod (bin opAdd (bin opIx (mvar 2) (mvar 9)) (mvar 5)) (ret (.int 256)))])) (slice opSl (mvar 2) (part (bin opAdd (mvar 9) (ret (.int 1)))) (ret none)))])) (ret (.bl false)))) (mblock [(mret (ret (.bl false)))]) (mblock []))]))))) [some (D.scr ns), some (tupD xs), some (tupD fs), some (V ((v + m) % 256)), none, some (.int m), none, none, none, some (.int (k : Int)), none, none] [] = .nx [some (D.scr ns), some (tupD xs), some (tupD fs), some (V ((v + m) % 256)), none, none, none, none, none, some (.int (k : Int)), none, none] [] := by
    have X := forX_still (p := .nm 5) (bd := (mdrop [5] (mblock [(mcond (tst (bin opNotB (callF Pg.f_is_frame (args [(bin opAdd (bin opAdd (slice opSl (mvar 2) (ret none) (part (mvar 9))) (dtup [(bin opMod (bin opAdd (bin opIx (mvar 2) (mvar 9)) (mvar 5)) (ret (.int 256)))])) (slice opSl (mvar 2) (part (bin opAdd (mvar 9) (ret (.int 1)))) (ret none)))])) (ret (.bl false)))) (mblock [(mret (ret (.bl false)))]) (mblock []))]))) (L := [.int 1, .int 64, .int 128, .int 255]) (e := [some (D.scr ns), some (tupD xs), some (tupD fs), some (V ((v + m) % 256)), none, none, none, none, none, some (.int (k : Int)), none, none]) (st := []) fun d hd => by
      obtain ⟨x, hx, h1, h2⟩ : ∃ x : Int, d = .int x ∧ 1 ≤ x ∧ x ≤ 255 := by
        simp only [List.mem_cons, List.not_mem_nil, or_false] at hd
        rcases hd with rfl | rfl | rfl | rfl
        · exact ⟨_, rfl, by decide, by decide⟩
        · exact ⟨_, rfl, by decide, by decide⟩
        · exact ⟨_, rfl, by decide, by decide⟩
        · exact ⟨_, rfl, by decide, by decide⟩
      subst hx
      have b1 := fun s => (bad x h1 h2 s).1
      refine ⟨_, rfl, ?_⟩
      simp -implicitDefEqProofs [s1, s2, ix, a1, a2, b1]
    generalize (mdrop [5] (mblock [(mcond (tst (bin opNotB (callF Pg.f_is_frame (args [(bin opAdd (bin opAdd (slice opSl (mvar 2) (ret none) (part (mvar 9))) (dtup [(bin opMod (bin opAdd (bin opIx (mvar 2) (mvar 9)) (mvar 5)) (ret (.int 256)))])) (slice opSl (mvar 2) (part (bin opAdd (mvar 9) (ret (.int 1)))) (ret none)))])) (ret (.bl false)))) (mblock [(mret (ret (.bl false)))]) (mblock []))])) = bd at X ⊢
    simp -implicitDefEqProofs [X]
  have E8 : ((mcond (mor (tst (bin opNotB (callF Pg.f_is_frame (args [(mvar 3)])) (ret (.bl false)))) (tst (bin opNe (tree (comp (walk (dtup [(dtup [(ret (.int 0))]), (tree (dlst [(ret (.int 128)), (ret (.int 128))]))])) (.nm 4) [4] (ret true) (callF f_law_do (args [(ret (.int 0)), (mvar 4)])))) (tree (dlst [(dtup [(ret (.int 0)), (ret (.int 0))]), (dtup [(ret (.int 128)), (ret (.int 128)), (ret (.int 0))])]))))) (mblock [(mret (ret (.bl false)))]) (mblock []))) [some (D.scr ns), some (tupD xs), some (tupD fs), some (V ((v + m) % 256)), none, none, none, none, none, some (.int (k : Int)), none, none] [] = .nx [some (D.scr ns), some (tupD xs), some (tupD fs), some (V ((v + m) % 256)), none, none, none, none, none, some (.int (k : Int)), none, none] [] := by
    have b1 := fun s => (bad m (by omega) (by omega) s).1
    have d3 : ∀ s, f_law_do [.int 0, .tup [.int 0]] s = .ok (.tup [.int 0, .int 0]) s := fun s => do0_ok (xs := [0]) (fun s => Ints.tup [0]) (fun x hx => by rw [List.mem_singleton.mp hx]; decide) (by decide) (by decide) s
    have d4 : ∀ s, f_law_do [.int 0, .lst [.int 128, .int 128]] s = .ok (.tup [.int 128, .int 128, .int 0]) s := fun s => do0_ok (xs := [128, 128]) (fun s => Ints.lst [128, 128]) (fun x hx => by
      simp only [List.mem_cons, List.not_mem_nil, or_false] at hx
      rcases hx with rfl | rfl <;> decide) (by decide) (by decide) s
    have ne : ∀ s, opNe (.lst [.tup [.int 0, .int 0], .tup [.int 128, .int 128, .int 0]]) (.lst [.tup [.int 0, .int 0], .tup [.int 128, .int 128, .int 0]]) s = some (.bl false, s) := fun s => ne_refl (okN_lst (n := 59) fun x hx => by
      simp only [List.mem_cons, List.not_mem_nil, or_false] at hx
      rcases hx with rfl | rfl
      · exact okN_tupD 58 [0, 0]
      · exact okN_tupD 58 [128, 128, 0])
    simp -implicitDefEqProofs [b1, loopC, wipeE, asg, d3, d4, ne]
  have E9 : ((mpre [4, 6, 10] (mfor (range1 (args [(ret (.int 8))])) (.nm 6) (mdrop [4, 6, 10] (mblock [(mset 4 (callF Pg.f_law_spoilt_thing (args [(mvar 0), (bin opAdd (ret (.int 100)) (bin opMul (ret (.int 10)) (mvar 6))), (mvar 2)]))),   (mset 10 (callF Pg.f_is_frame (args [(mvar 4)]))),   (mcond (mor (tst (bin opNe (mvar 10) (callF Pg.f_law_is_frame (args [(mvar 4)])))) (mnot (tst (un (opIsi ["bool"]) (mvar 10))))) (mblock [(mret (ret (.bl false)))]) (mblock [])),   (mcond (mand (mnot (tst (mvar 10))) (tst (bin opNe (tree (comp (range2 (args [(ret (.int 1)), (ret (.int 5))])) (.nm 11) [11] (ret true) (callF f_law_do (args [(mvar 11), (mvar 4)])))) (tree (bin repN2 (tree (dlst [(ret (.str ("no frame" : Str)))])) (ret (.int 4))))))) (mblock [(mret (ret (.bl false)))]) (mblock []))]))))) [some (D.scr ns), some (tupD xs), some (tupD fs), some (V ((v + m) % 256)), none, none, none, none, none, some (.int (k : Int)), none, none] [] = .nx [some (D.scr ns), some (tupD xs), some (tupD fs), some (V ((v + m) % 256)), none, none, none, none, none, some (.int (k : Int)), none, none] [] := by
    have e8 := range1_int (i := 8) (by decide) (by decide)
    have X := forX_still (p := .nm 6) (bd := (mdrop [4, 6, 10] (mblock [(mset 4 (callF Pg.f_law_spoilt_thing (args [(mvar 0), (bin opAdd (ret (.int 100)) (bin opMul (ret (.int 10)) (mvar 6))), (mvar 2)]))),   (mset 10 (callF Pg.f_is_frame (args [(mvar 4)]))),   (mcond (mor (tst (bin opNe (mvar 10) (callF Pg.f_law_is_frame (args [(mvar 4)])))) (mnot (tst (un (opIsi ["bool"]) (mvar 10))))) (mblock [(mret (ret (.bl false)))]) (mblock [])),   (mcond (mand (mnot (tst (mvar 10))) (tst (bin opNe (tree (comp (range2 (args [(ret (.int 1)), (ret (.int 5))])) (.nm 11) [11] (ret true) (callF f_law_do (args [(mvar 11), (mvar 4)])))) (tree (bin repN2 (tree (dlst [(ret (.str ("no frame" : Str)))])) (ret (.int 4))))))) (mblock [(mret (ret (.bl false)))]) (mblock []))]))) (L := rng 0 8) (e := [some (D.scr ns), some (tupD xs), some (tupD fs), some (V ((v + m) % 256)), none, none, none, none, none, some (.int (k : Int)), none, none]) (st := []) fun d hd => by
      rw [rng_map] at hd
      obtain ⟨j, _, rfl⟩ := List.mem_map.mp hd
      obtain ⟨d, gd, SP⟩ := spoilt_run h (a := 100 + 10 * (0 + (j : Int))) (by omega) (fs := fs) (by omega)
      obtain ⟨b, hb⟩ := same_good gd
      have b1 := fun s => (hb s).1
      have b2 := fun s => (hb s).2
      have t : ∀ s, opIsi ["bool"] (.bl b) s = some (.bl true, s) := fun _ => rfl
      have ne : ∀ s, opNe (.bl b) (.bl b) s = some (.bl false, s) := fun s => ne_refl (okN_bl _ _)
      have e4 := range2_int (i := 1) (j := 5) (by decide) (by decide) (by decide) (by decide) (by decide)
      have r4 : rng 1 (5 - 1 : Int).toNat = [.int 1, .int 2, .int 3, .int 4] := by rfl
      rw [r4] at e4
      have rp : ∀ s, repN2 (.lst [.str ("no frame" : Str)]) (.int 4) s = some ([.str ("no frame" : Str), .str ("no frame" : Str), .str ("no frame" : Str), .str ("no frame" : Str)], s) := fun s => by rfl
      have nf : ∀ s, opNe (.lst [.str ("no frame" : Str), .str ("no frame" : Str), .str ("no frame" : Str), .str ("no frame" : Str)]) (.lst [.str ("no frame" : Str), .str ("no frame" : Str), .str ("no frame" : Str), .str ("no frame" : Str)]) s = some (.bl false, s) := fun s => ne_refl no_frames
      have sm : smallI 10 = true := by decide
      refine ⟨_, rfl, ?_⟩
      cases b with
      | true =>
        simp -implicitDefEqProofs only [Int.zero_add] at SP ⊢
        simp -implicitDefEqProofs [sm, SP, b1, b2, t, ne]
      | false =>
        have k1 := fun s => do_bad b1 (k := 1) (by decide) (by decide) s
        have k2 := fun s => do_bad b1 (k := 2) (by decide) (by decide) s
        have k3 := fun s => do_bad b1 (k := 3) (by decide) (by decide) s
        have k4 := fun s => do_bad b1 (k := 4) (by decide) (by decide) s
        simp -implicitDefEqProofs only [Int.zero_add] at SP ⊢
        simp -implicitDefEqProofs [sm, SP, b1, b2, t, ne, e4, wipeE, loopC, asg, k1, k2, k3, k4, rp, nf]
    generalize (mdrop [4, 6, 10] (mblock [(mset 4 (callF Pg.f_law_spoilt_thing (args [(mvar 0), (bin opAdd (ret (.int 100)) (bin opMul (ret (.int 10)) (mvar 6))), (mvar 2)]))),   (mset 10 (callF Pg.f_is_frame (args [(mvar 4)]))),   (mcond (mor (tst (bin opNe (mvar 10) (callF Pg.f_law_is_frame (args [(mvar 4)])))) (mnot (tst (un (opIsi ["bool"]) (mvar 10))))) (mblock [(mret (ret (.bl false)))]) (mblock [])),   (mcond (mand (mnot (tst (mvar 10))) (tst (bin opNe (tree (comp (range2 (args [(ret (.int 1)), (ret (.int 5))])) (.nm 11) [11] (ret true) (callF f_law_do (args [(mvar 11), (mvar 4)])))) (tree (bin repN2 (tree (dlst [(ret (.str ("no frame" : Str)))])) (ret (.int 4))))))) (mblock [(mret (ret (.bl false)))]) (mblock []))])) = bd at X ⊢
    simp -implicitDefEqProofs [e8, X]
  have E10 : ((mset 7 (tree (dlst [(dtup []), (tree (dlst [])), (dtup [(ret (.int 256))]), (dtup [(un opNeg (ret (.int 1)))]), (dtup [(ret (.bl true))]), (dtup [(ret .non)]), (bin opMul (dtup [(ret (.int 0))]) (ret (.int 20))), (ret .non), (ret (.int 5)), (ret (.str ("0" : Str))), (dtup [(ret (.str ("0" : Str)))])])))) [some (D.scr ns), some (tupD xs), some (tupD fs), some (V ((v + m) % 256)), none, none, none, none, none, some (.int (k : Int)), none, none] [] = .nx [some (D.scr ns), some (tupD xs), some (tupD fs), some (V ((v + m) % 256)), none, none, none, some (.lst oddD), none, some (.int (k : Int)), none, none] [] := by
    have mu : ∀ s, opMul (.tup [.int 0]) (.int 20) s = some (.tup (List.replicate 20 (.int 0)), s) := fun s => by rfl
    have ng : ∀ s, opNeg (.int 1) s = some (.int (-1), s) := fun _ => rfl
    simp -implicitDefEqProofs [mu, ng]
    rfl
  have E11 : ((mcond (tst (bin opNe (tree (comp (walk (mvar 7)) (.nm 4) [4] (ret true) (callF f_law_do (args [(ret (.int 0)), (mvar 4)])))) (tree (bin repN2 (tree (dlst [(ret (.str ("no frame" : Str)))])) (ret (.int 11)))))) (mblock [(mret (ret (.bl false)))]) (mblock []))) [some (D.scr ns), some (tupD xs), some (tupD fs), some (V ((v + m) % 256)), none, none, none, some (.lst oddD), none, some (.int (k : Int)), none, none] [] = .nx [some (D.scr ns), some (tupD xs), some (tupD fs), some (V ((v + m) % 256)), none, none, none, some (.lst oddD), none, some (.int (k : Int)), none, none] [] := by
    have rp : ∀ s, repN2 (.lst [.str ("no frame" : Str)]) (.int 11) s = some (List.replicate 11 (.str ("no frame" : Str)), s) := fun s => by rfl
    have nf : ∀ s, opNe (.lst (List.replicate 11 (.str ("no frame" : Str)))) (.lst (List.replicate 11 (.str ("no frame" : Str)))) s = some (.bl false, s) := fun s => ne_refl no_frames11
    have C : ∀ s, loopC (fun _ => true) (.nm 4) (ret true) (callF f_law_do (args [(ret (.int 0)), (mvar 4)])) [some (D.scr ns), some (tupD xs), some (tupD fs), some (V ((v + m) % 256)), none, none, none, some (.lst oddD), none, some (.int (k : Int)), none, none] oddD s = .ok (List.replicate 11 (.str ("no frame" : Str))) s := fun s =>
      loopC_each (p := .nm 4) (fun _ => D.str ("no frame" : Str)) (fun d => [some (D.scr ns), some (tupD xs), some (tupD fs), some (V ((v + m) % 256)), some d, none, none, some (.lst oddD), none, some (.int (k : Int)), none, none]) oddD fun d hd => ⟨rfl, by
        have := fun s => do0_bad (odd_bytes d hd) s
        simp -implicitDefEqProofs [this]⟩
    generalize List.replicate 11 (D.str ("no frame" : Str)) = N11 at *
    simp -implicitDefEqProofs [wipeE, C, rp, nf]
  have E12 : ((mset 8 (tree (dlst [(dtup [(ret (.int 0)), (ret (.int 0))]), (bin opMul (dtup [(ret (.int 0))]) (ret (.int 20))), (dtup [(ret (.int 255)), (ret (.int 1))]), (dtup [(ret (.int 0))]), (bin opMul (dtup [(ret (.int 0))]) (ret (.int 21))), (dtup [(ret (.int 128)), (ret (.int 127))]), (dtup [(ret (.int 256)), (ret (.int 0))]), (dtup [(ret (.int 0)), (ret (.bl false))]), (ret .non)])))) [some (D.scr ns), some (tupD xs), some (tupD fs), some (V ((v + m) % 256)), none, none, none, some (.lst oddD), none, some (.int (k : Int)), none, none] [] = .nx [some (D.scr ns), some (tupD xs), some (tupD fs), some (V ((v + m) % 256)), none, none, none, some (.lst oddD), some (.lst lastD), some (.int (k : Int)), none, none] [] := by
    have mu : ∀ s, opMul (.tup [.int 0]) (.int 20) s = some (.tup (List.replicate 20 (.int 0)), s) := fun s => by rfl
    have mu1 : ∀ s, opMul (.tup [.int 0]) (.int 21) s = some (.tup (List.replicate 21 (.int 0)), s) := fun s => by rfl
    simp -implicitDefEqProofs [mu, mu1]
    rfl
  have E13 : ((mret (bin opEq (tree (comp (walk (mvar 8)) (.nm 4) [4] (ret true) (callF Pg.f_is_frame (args [(mvar 4)])))) (tree (bin catN (tree (bin repN2 (tree (dlst [(ret (.bl true))])) (ret (.int 3)))) (tree (bin repN2 (tree (dlst [(ret (.bl false))])) (ret (.int 6))))))))) [some (D.scr ns), some (tupD xs), some (tupD fs), some (V ((v + m) % 256)), none, none, none, some (.lst oddD), some (.lst lastD), some (.int (k : Int)), none, none] [] = .ret (.bl true) [] := by
    have C : ∀ s, loopC (fun _ => true) (.nm 4) (ret true) (callF Pg.f_is_frame (args [(mvar 4)])) [some (D.scr ns), some (tupD xs), some (tupD fs), some (V ((v + m) % 256)), none, none, none, some (.lst oddD), some (.lst lastD), some (.int (k : Int)), none, none] lastD s = .ok (lastB.map .bl) s := fun s => by
      unfold lastD lastB
      have q := last_bool s
      simp only [List.map_cons, List.map_nil]
      obtain ⟨q1, q2, q3, q4, q5, q6, q7, q8, q9⟩ := q
      generalize List.replicate 20 (D.int 0) = Z20 at *
      generalize List.replicate 21 (D.int 0) = Z21 at *
      simp -implicitDefEqProofs [loopC, asg, q1, q2, q3, q4, q5, q6, q7, q8, q9]
    have rp1 : ∀ s, repN2 (.lst [.bl true]) (.int 3) s = some ([.bl true, .bl true, .bl true], s) := fun s => by rfl
    have rp2 : ∀ s, repN2 (.lst [.bl false]) (.int 6) s = some ([.bl false, .bl false, .bl false, .bl false, .bl false, .bl false], s) := fun s => by rfl
    have z : 9 ≤ sizeLine := sz _ (by decide)
    have eq : ∀ s, opEq (.lst (lastB.map .bl)) (.lst [.bl true, .bl true, .bl true, .bl false, .bl false, .bl false, .bl false, .bl false, .bl false]) s = some (.bl true, s) := fun s => eq_refl (d := .lst (lastB.map .bl)) (okN_lst (n := 59) (okN_map (okN_bl _) _))
    generalize lastB.map D.bl = LB9 at *
    simp -implicitDefEqProofs [wipeE, C, rp1, rp2, z, eq]
  generalize (mset 1 (callF Pg.f_law_bytes (args [(mvar 0), (ret (.int 10)), (bin opAdd (ret (.int 1)) (callF stdPick (args [(mvar 0), (ret (.int 1)), (ret (.int 19))])))]))) = m1 at E1 ⊢
  generalize (mset 2 (callF Pg.f_law_framed (args [(mvar 1)]))) = m2 at E2 ⊢
  generalize (mcond (mor (tst (bin opNe (callF f_law_do (args [(ret (.int 0)), (mvar 1)])) (mvar 2))) (mor (tst (bin opNe (callF f_law_do (args [(ret (.int 0)), (tree (calls fList (args [(mvar 1)])))])) (mvar 2))) (tst (bin opNotB (callF Pg.f_is_frame (args [(mvar 2)])) (ret (.bl true)))))) (mblock [(mret (ret (.bl false)))]) (mblock [])) = m3 at E3 ⊢
  generalize (mpar 9 5 (args [(callF stdPick (args [(mvar 0), (ret (.int 2)), (calls fLen (args [(mvar 2)]))])), (bin opAdd (ret (.int 1)) (callF stdPick (args [(mvar 0), (ret (.int 3)), (ret (.int 255))])))])) = m4 at E4 ⊢
  generalize (mset 3 (bin opAdd (bin opAdd (slice opSl (mvar 2) (ret none) (part (mvar 9))) (dtup [(bin opMod (bin opAdd (bin opIx (mvar 2) (mvar 9)) (mvar 5)) (ret (.int 256)))])) (slice opSl (mvar 2) (part (bin opAdd (mvar 9) (ret (.int 1)))) (ret none)))) = m5 at E5 ⊢
  generalize (mpre [4, 10] (mfor (walk (tree (dlst [(mvar 3), (bin opAdd (slice opSl (mvar 2) (ret none) (part (mvar 9))) (slice opSl (mvar 2) (part (bin opAdd (mvar 9) (ret (.int 1)))) (ret none))), (bin opAdd (mvar 2) (dtup [(mvar 5)])), (bin opAdd (bin opAdd (slice opSl (mvar 2) (ret none) (part (mvar 9))) (dtup [(mvar 5)])) (slice opSl (mvar 2) (part (mvar 9)) (ret none))), (tree (calls fList (args [(mvar 2)])))]))) (.nm 4) (mdrop [4, 10] (mblock [(mset 10 (callF Pg.f_is_frame (args [(mvar 4)]))),   (mcond (mor (tst (bin opNe (mvar 10) (callF Pg.f_law_is_frame (args [(mvar 4)])))) (mnot (tst (un (opIsi ["bool"]) (mvar 10))))) (mblock [(mret (ret (.bl false)))]) (mblock []))])))) = m6 at E6 ⊢
  generalize (mpre [5] (mfor (walk (dtup [(ret (.int 1)), (ret (.int 64)), (ret (.int 128)), (ret (.int 255))])) (.nm 5) (mdrop [5] (mblock [(mcond (tst (bin opNotB (callF Pg.f_is_frame (args [(bin opAdd (bin opAdd (slice opSl (mvar 2) (ret none) (part (mvar 9))) (dtup [(bin opMod (bin opAdd (bin opIx (mvar 2) (mvar 9)) (mvar 5)) (ret (.int 256)))])) (slice opSl (mvar 2) (part (bin opAdd (mvar 9) (ret (.int 1)))) (ret none)))])) (ret (.bl false)))) (mblock [(mret (ret (.bl false)))]) (mblock []))])))) = m7 at E7 ⊢
  generalize (mcond (mor (tst (bin opNotB (callF Pg.f_is_frame (args [(mvar 3)])) (ret (.bl false)))) (tst (bin opNe (tree (comp (walk (dtup [(dtup [(ret (.int 0))]), (tree (dlst [(ret (.int 128)), (ret (.int 128))]))])) (.nm 4) [4] (ret true) (callF f_law_do (args [(ret (.int 0)), (mvar 4)])))) (tree (dlst [(dtup [(ret (.int 0)), (ret (.int 0))]), (dtup [(ret (.int 128)), (ret (.int 128)), (ret (.int 0))])]))))) (mblock [(mret (ret (.bl false)))]) (mblock [])) = m8 at E8 ⊢
  generalize (mpre [4, 6, 10] (mfor (range1 (args [(ret (.int 8))])) (.nm 6) (mdrop [4, 6, 10] (mblock [(mset 4 (callF Pg.f_law_spoilt_thing (args [(mvar 0), (bin opAdd (ret (.int 100)) (bin opMul (ret (.int 10)) (mvar 6))), (mvar 2)]))),   (mset 10 (callF Pg.f_is_frame (args [(mvar 4)]))),   (mcond (mor (tst (bin opNe (mvar 10) (callF Pg.f_law_is_frame (args [(mvar 4)])))) (mnot (tst (un (opIsi ["bool"]) (mvar 10))))) (mblock [(mret (ret (.bl false)))]) (mblock [])),   (mcond (mand (mnot (tst (mvar 10))) (tst (bin opNe (tree (comp (range2 (args [(ret (.int 1)), (ret (.int 5))])) (.nm 11) [11] (ret true) (callF f_law_do (args [(mvar 11), (mvar 4)])))) (tree (bin repN2 (tree (dlst [(ret (.str ("no frame" : Str)))])) (ret (.int 4))))))) (mblock [(mret (ret (.bl false)))]) (mblock []))])))) = m9 at E9 ⊢
  generalize (mset 7 (tree (dlst [(dtup []), (tree (dlst [])), (dtup [(ret (.int 256))]), (dtup [(un opNeg (ret (.int 1)))]), (dtup [(ret (.bl true))]), (dtup [(ret .non)]), (bin opMul (dtup [(ret (.int 0))]) (ret (.int 20))), (ret .non), (ret (.int 5)), (ret (.str ("0" : Str))), (dtup [(ret (.str ("0" : Str)))])]))) = m10 at E10 ⊢
  generalize (mcond (tst (bin opNe (tree (comp (walk (mvar 7)) (.nm 4) [4] (ret true) (callF f_law_do (args [(ret (.int 0)), (mvar 4)])))) (tree (bin repN2 (tree (dlst [(ret (.str ("no frame" : Str)))])) (ret (.int 11)))))) (mblock [(mret (ret (.bl false)))]) (mblock [])) = m11 at E11 ⊢
  generalize (mset 8 (tree (dlst [(dtup [(ret (.int 0)), (ret (.int 0))]), (bin opMul (dtup [(ret (.int 0))]) (ret (.int 20))), (dtup [(ret (.int 255)), (ret (.int 1))]), (dtup [(ret (.int 0))]), (bin opMul (dtup [(ret (.int 0))]) (ret (.int 21))), (dtup [(ret (.int 128)), (ret (.int 127))]), (dtup [(ret (.int 256)), (ret (.int 0))]), (dtup [(ret (.int 0)), (ret (.bl false))]), (ret .non)]))) = m12 at E12 ⊢
  generalize (mret (bin opEq (tree (comp (walk (mvar 8)) (.nm 4) [4] (ret true) (callF Pg.f_is_frame (args [(mvar 4)])))) (tree (bin catN (tree (bin repN2 (tree (dlst [(ret (.bl true))])) (ret (.int 3)))) (tree (bin repN2 (tree (dlst [(ret (.bl false))])) (ret (.int 6)))))))) = m13 at E13 ⊢
  simp -implicitDefEqProofs [E1, E2, E3, E4, E5, E6, E7, E8, E9, E10, E11, E12, E13]
end K01
set_option maxHeartbeats 400000
open PySem PySem.W PyProof.Rows
set_option maxRecDepth 100000 in
set_option maxHeartbeats 0 in
theorem PySem.Challenge.cw_lineasks_k01_frames_holds : PySem.Challenge.rw_lineasks_k01_frames.Holds := by
  w_on; o_law; k_head; (case hw => w_witness2)
  k_fill
  refine L2.walk_of (l := PySem.Challenge.rw_lineasks_k01_frames) (n := 63) (k := 8) (x := "_law_script") (CX := fun w => L2.CX PySem.Challenge.rw_lineasks_k01_frames.prog w) (sp := fun w => Ly.spLaw _ [] K01.f_law) rfl (by decide) rfl ⟨rfl, by decide, by decide⟩ (fun w h Y => PySem.W.kIn_of Y) ?F (fun _ _ a ns hl hO hS => Ly.law_sp (K01.law_true ns hl) hl hO hS) (fun _ _ _ _ _ h => Ly.no_cx h)
  case F =>
    intro w mg fa h KX G hmg
    have q_b_ValueError : mg "ValueError" = none := by
      refine' PySem.W.mg_none_of KX G ?z; (case z => k_is)
    have q_b_all : mg "all" = none := by
      refine' PySem.W.mg_none_of KX G ?z; (case z => k_is)
    have q_b_bool : mg "bool" = none := by
      refine' PySem.W.mg_none_of KX G ?z; (case z => k_is)
    have q_b_int : mg "int" = none := by
      refine' PySem.W.mg_none_of KX G ?z; (case z => k_is)
    have q_b_isinstance : mg "isinstance" = none := by
      refine' PySem.W.mg_none_of KX G ?z; (case z => k_is)
    have q_b_len : mg "len" = none := by
      refine' PySem.W.mg_none_of KX G ?z; (case z => k_is)
    have q_b_list : mg "list" = none := by
      refine' PySem.W.mg_none_of KX G ?z; (case z => k_is)
    have q_b_range : mg "range" = none := by
      refine' PySem.W.mg_none_of KX G ?z; (case z => k_is)
    have q_b_str : mg "str" = none := by
      refine' PySem.W.mg_none_of KX G ?z; (case z => k_is)
    have q_b_sum : mg "sum" = none := by
      refine' PySem.W.mg_none_of KX G ?z; (case z => k_is)
    have q_b_tuple : mg "tuple" = none := by
      refine' PySem.W.mg_none_of KX G ?z; (case z => k_is)
    have q_c_FIGURES : ∃ t, mg "FIGURES" = some (.str ("0123456789abcdef" : PySem.Str) t) := by
      refine' Ly.glS_mk KX G ?z; (case z => k_is)
    have q_c_LONGEST : ∃ t, mg "LONGEST" = some (.int 20 t) := by
      refine' Ly.glI_mk KX G ?z; (case z => k_is)
    have q_c_MOST_STATIONS : ∃ t, mg "MOST_STATIONS" = some (.int 99 t) := by
      refine' Ly.glI_mk KX G ?z; (case z => k_is)
    have q_c_MOST_VALUES : ∃ t, mg "MOST_VALUES" = some (.int 8 t) := by
      refine' Ly.glI_mk KX G ?z; (case z => k_is)
    have q_c_NUMBERS : ∃ t, mg "NUMBERS" = some (.int 16 t) := by
      refine' Ly.glI_mk KX G ?z; (case z => k_is)
    refine' Ly.useF (Ly.glT_mk (x := "WORDS") (ss := [("well" : PySem.Str), ("lost" : PySem.Str), ("spoilt" : PySem.Str), ("late" : PySem.Str)]) KX G ?a ?b) ?r_WORDS
    (case a => k_is); (case b => kernel_rfl)
    intro q_c_WORDS
    refine' Ly.useF (Ly.excF_mk (x := "NoFrame") KX G ?a ?e ?k ?s ?t) ?r_NoFrame
    (case a => k_is); (case e => k_exc); (case k => k_is); (case s => k_is); (case t => k_is)
    intro q_x_NoFrame
    refine' Ly.useF (Ly.excF_mk (x := "NoNumber") KX G ?a ?e ?k ?s ?t) ?r_NoNumber
    (case a => k_is); (case e => k_exc); (case k => k_is); (case s => k_is); (case t => k_is)
    intro q_x_NoNumber
    refine' Ly.useF (Ly.isxF_mk (x := "Fixed") (L := K01.LX) KX G ?a ?k ?e ?f) ?r_i_Fixed
    (case a => k_is); (case k => k_is); (case e => kernel_rfl); (case f => kernel_rfl)
    intro q_i_Fixed
    refine' Ly.useF (Ly.isxF_mk (x := "NoAnswer") (L := K01.LX) KX G ?a ?k ?e ?f) ?r_i_NoAnswer
    (case a => k_is); (case k => k_is); (case e => kernel_rfl); (case f => kernel_rfl)
    intro q_i_NoAnswer
    refine' Ly.useF (Ly.isxF_mk (x := "NoAsk") (L := K01.LX) KX G ?a ?k ?e ?f) ?r_i_NoAsk
    (case a => k_is); (case k => k_is); (case e => kernel_rfl); (case f => kernel_rfl)
    intro q_i_NoAsk
    refine' Ly.useF (Ly.isxF_mk (x := "NoFrame") (L := K01.LX) KX G ?a ?k ?e ?f) ?r_i_NoFrame
    (case a => k_is); (case k => k_is); (case e => kernel_rfl); (case f => kernel_rfl)
    intro q_i_NoFrame
    refine' Ly.useF (Ly.isxF_mk (x := "NoNumber") (L := K01.LX) KX G ?a ?k ?e ?f) ?r_i_NoNumber
    (case a => k_is); (case k => k_is); (case e => kernel_rfl); (case f => kernel_rfl)
    intro q_i_NoNumber
    refine' Ly.useF (Ly.isxF_mk (x := "NoPlace") (L := K01.LX) KX G ?a ?k ?e ?f) ?r_i_NoPlace
    (case a => k_is); (case k => k_is); (case e => kernel_rfl); (case f => kernel_rfl)
    intro q_i_NoPlace
    refine' Ly.useF (Ly.isxF_mk (x := "NoStation") (L := K01.LX) KX G ?a ?k ?e ?f) ?r_i_NoStation
    (case a => k_is); (case k => k_is); (case e => kernel_rfl); (case f => kernel_rfl)
    intro q_i_NoStation
    refine' Ly.useF (Ly.isxF_mk (x := "NoText") (L := K01.LX) KX G ?a ?k ?e ?f) ?r_i_NoText
    (case a => k_is); (case k => k_is); (case e => kernel_rfl); (case f => kernel_rfl)
    intro q_i_NoText
    refine' Ly.useF (Ly.isuF_mk (x := "LineError") (L := K01.LX) KX G ?a ?k ?e ?f) ?r_u_LineError
    (case a => k_is); (case k => k_is); (case e => kernel_rfl); (case f => kernel_rfl)
    intro q_u_LineError
    refine' Ly.useF (Ly.catF_mk (x := "LineError") (L := K01.LX) KX G ?a ?f) ?r_k_LineError
    (case a => k_is); (case f => kernel_rfl)
    intro q_k_LineError
    refine' Ly.useF (Ly.isaF_mk (t := "ValueError") (L := K01.LX) KX G ?e ?f) ?r_v_ValueError
    (case e => kernel_rfl); (case f => kernel_rfl)
    intro q_v_ValueError
    refine' Ly.useCls (c := "Line") KX G ?a ?pg ?hd ?po ?sa (fun gC_Line cl_Line => ?r_C_Line)
    (case a => k_is); (case pg => k_is); (case hd => k_is); (case po => k_is); (case sa => k_is)
    refine' Ly.useF (Ly.attrF_mk (c := "Line") (f := "gone") gC_Line cl_Line ?n) (fun q_a_Line_gone => ?r_a_Line_gone)
    (case n => k_is)
    refine' Ly.useF (Ly.attrF_mk (c := "Line") (f := "marks") gC_Line cl_Line ?n) (fun q_a_Line_marks => ?r_a_Line_marks)
    (case n => k_is)
    refine' Ly.useF (Ly.attrF_mk (c := "Line") (f := "stations") gC_Line cl_Line ?n) (fun q_a_Line_stations => ?r_a_Line_stations)
    (case n => k_is)
    refine' Ly.useF (Ly.attrF_mk (c := "Line") (f := "waiting") gC_Line cl_Line ?n) (fun q_a_Line_waiting => ?r_a_Line_waiting)
    (case n => k_is)
    refine' Ly.useF (Ly.initF_mk (c := "Line") (qual := "Line.__init__") (st := K01.s_Line_init) (ps := ["self", "stations", "marks"]) gC_Line cl_Line ?m ?kc ?a ?i ?l ?cc ?k (fun _ _ _ _ _ _ us hl => match us, hl with | [_, _, _], _ => rfl)) (fun q_F_Line_init => ?r_F_Line_init)
    (case m => k_is); (case kc => k_is); (case a => k_is); (case i => k_is); (case l => k_is); (case cc => k_is); (case k => k_is)
    refine' Ly.useF (Ly.methF_mk (c := "Line") (m := "next_mark") (qual := "Line.next_mark") (st := K01.s_Line_next_mark) (ps := ["self"]) gC_Line cl_Line ?a ?i ?l ?cc ?k (fun _ _ _ _ _ _ us hl => match us, hl with | [_], _ => rfl)) (fun q_F_Line_next_mark => ?r_F_Line_next_mark)
    (case a => k_is); (case i => k_is); (case l => k_is); (case cc => k_is); (case k => k_is)
    refine' Ly.useF (Ly.methF_mk (c := "Line") (m := "used") (qual := "Line.used") (st := K01.s_Line_used) (ps := ["self"]) gC_Line cl_Line ?a ?i ?l ?cc ?k (fun _ _ _ _ _ _ us hl => match us, hl with | [_], _ => rfl)) (fun q_F_Line_used => ?r_F_Line_used)
    (case a => k_is); (case i => k_is); (case l => k_is); (case cc => k_is); (case k => k_is)
    refine' Ly.useF (Ly.methF_mk (c := "Line") (m := "back") (qual := "Line.back") (st := K01.s_Line_back) (ps := ["self", "frame", "heard"]) gC_Line cl_Line ?a ?i ?l ?cc ?k (fun _ _ _ _ _ _ us hl => match us, hl with | [_, _, _], _ => rfl)) (fun q_F_Line_back => ?r_F_Line_back)
    (case a => k_is); (case i => k_is); (case l => k_is); (case cc => k_is); (case k => k_is)
    refine' Ly.useF (Ly.methF_mk (c := "Line") (m := "send") (qual := "Line.send") (st := K01.s_Line_send) (ps := ["self", "thing"]) gC_Line cl_Line ?a ?i ?l ?cc ?k (fun _ _ _ _ _ _ us hl => match us, hl with | [_, _], _ => rfl)) (fun q_F_Line_send => ?r_F_Line_send)
    (case a => k_is); (case i => k_is); (case l => k_is); (case cc => k_is); (case k => k_is)
    refine' Ly.useF (Ly.stF_mk (x := "is_whole") (qual := "is_whole") (st := K01.s_is_whole) (ps := ["thing", "low", "high"]) KX G ?a ?l ?c ?k (fun _ _ _ _ _ _ us hl => match us, hl with | [_, _, _], _ => rfl)) ?r_is_whole
    (case a => k_is); (case l => k_is); (case c => k_is); (case k => k_is)
    intro q_F_is_whole
    refine' Ly.useF (Ly.stF_mk (x := "text_of") (qual := "text_of") (st := K01.s_text_of) (ps := ["frame"]) KX G ?a ?l ?c ?k (fun _ _ _ _ _ _ us hl => match us, hl with | [_], _ => rfl)) ?r_text_of
    (case a => k_is); (case l => k_is); (case c => k_is); (case k => k_is)
    intro q_F_text_of
    refine' Ly.useF (Ly.stF_mk (x := "_law_cell") (qual := "_law_cell") (st := K01.s_law_cell) (ps := ["_law_script", "_law_k"]) KX G ?a ?l ?c ?k (fun _ _ _ _ _ _ us hl => match us, hl with | [_, _], _ => rfl)) ?r_law_cell
    (case a => k_is); (case l => k_is); (case c => k_is); (case k => k_is)
    intro q_F_law_cell
    refine' Ly.useF (Ly.stF_mk (x := "_law_word") (qual := "_law_word") (st := K01.s_law_word) (ps := ["_law_kept"]) KX G ?a ?l ?c ?k (fun _ _ _ _ _ _ us hl => match us, hl with | [_], _ => rfl)) ?r_law_word
    (case a => k_is); (case l => k_is); (case c => k_is); (case k => k_is)
    intro q_F_law_word
    refine' Ly.useF (Ly.stF_mk (x := "_law_framed") (qual := "_law_framed") (st := K01.s_law_framed) (ps := ["_law_parts"]) KX G ?a ?l ?c ?k (fun _ _ _ _ _ _ us hl => match us, hl with | [_], _ => rfl)) ?r_law_framed
    (case a => k_is); (case l => k_is); (case c => k_is); (case k => k_is)
    intro q_F_law_framed
    refine' Ly.useF (Ly.stF_mk (x := "_law_is_frame") (qual := "_law_is_frame") (st := K01.s_law_is_frame) (ps := ["_law_thing"]) KX G ?a ?l ?c ?k (fun _ _ _ _ _ _ us hl => match us, hl with | [_], _ => rfl)) ?r_law_is_frame
    (case a => k_is); (case l => k_is); (case c => k_is); (case k => k_is)
    intro q_F_law_is_frame
    refine' Ly.useF (Ly.stF_mk (x := "are_bytes") (qual := "are_bytes") (st := K01.s_are_bytes) (ps := ["thing", "low", "high"]) KX G ?a ?l ?c ?k (fun _ _ _ _ _ _ us hl => match us, hl with | [_, _, _], _ => rfl)) ?r_are_bytes
    (case a => k_is); (case l => k_is); (case c => k_is); (case k => k_is)
    intro q_F_are_bytes
    refine' Ly.useF (Ly.stF_mk (x := "_law_pick") (qual := "_law_pick") (st := K01.s_law_pick) (ps := ["_law_script", "_law_k", "_law_many"]) KX G ?a ?l ?c ?k (fun _ _ _ _ _ _ us hl => match us, hl with | [_, _, _], _ => rfl)) ?r_law_pick
    (case a => k_is); (case l => k_is); (case c => k_is); (case k => k_is)
    intro q_F_law_pick
    refine' Ly.useF (Ly.stF_mk (x := "is_frame") (qual := "is_frame") (st := K01.s_is_frame) (ps := ["thing"]) KX G ?a ?l ?c ?k (fun _ _ _ _ _ _ us hl => match us, hl with | [_], _ => rfl)) ?r_is_frame
    (case a => k_is); (case l => k_is); (case c => k_is); (case k => k_is)
    intro q_F_is_frame
    refine' Ly.useF (Ly.stF_mk (x := "framed") (qual := "framed") (st := K01.s_framed) (ps := ["parts"]) KX G ?a ?l ?c ?k (fun _ _ _ _ _ _ us hl => match us, hl with | [_], _ => rfl)) ?r_framed
    (case a => k_is); (case l => k_is); (case c => k_is); (case k => k_is)
    intro q_F_framed
    refine' Ly.useF (Ly.stF_mk (x := "are_values") (qual := "are_values") (st := K01.s_are_values) (ps := ["thing"]) KX G ?a ?l ?c ?k (fun _ _ _ _ _ _ us hl => match us, hl with | [_], _ => rfl)) ?r_are_values
    (case a => k_is); (case l => k_is); (case c => k_is); (case k => k_is)
    intro q_F_are_values
    refine' Ly.useF (Ly.stF_mk (x := "_law_bytes") (qual := "_law_bytes") (st := K01.s_law_bytes) (ps := ["_law_script", "_law_at", "_law_many"]) KX G ?a ?l ?c ?k (fun _ _ _ _ _ _ us hl => match us, hl with | [_, _, _], _ => rfl)) ?r_law_bytes
    (case a => k_is); (case l => k_is); (case c => k_is); (case k => k_is)
    intro q_F_law_bytes
    refine' Ly.useF (Ly.stF_mk (x := "look_frame") (qual := "look_frame") (st := K01.s_look_frame) (ps := ["frame"]) KX G ?a ?l ?c ?k (fun _ _ _ _ _ _ us hl => match us, hl with | [_], _ => rfl)) ?r_look_frame
    (case a => k_is); (case l => k_is); (case c => k_is); (case k => k_is)
    intro q_F_look_frame
    refine' Ly.useF (Ly.stF_mk (x := "is_ask") (qual := "is_ask") (st := K01.s_is_ask) (ps := ["thing"]) KX G ?a ?l ?c ?k (fun _ _ _ _ _ _ us hl => match us, hl with | [_], _ => rfl)) ?r_is_ask
    (case a => k_is); (case l => k_is); (case c => k_is); (case k => k_is)
    intro q_F_is_ask
    refine' Ly.useF (Ly.stF_mk (x := "is_answer") (qual := "is_answer") (st := K01.s_is_answer) (ps := ["thing"]) KX G ?a ?l ?c ?k (fun _ _ _ _ _ _ us hl => match us, hl with | [_], _ => rfl)) ?r_is_answer
    (case a => k_is); (case l => k_is); (case c => k_is); (case k => k_is)
    intro q_F_is_answer
    refine' Ly.useF (Ly.stF_mk (x := "_law_places") (qual := "_law_places") (st := K01.s_law_places) (ps := ["_law_thing"]) KX G ?a ?l ?c ?k (fun _ _ _ _ _ _ us hl => match us, hl with | [_], _ => rfl)) ?r_law_places
    (case a => k_is); (case l => k_is); (case c => k_is); (case k => k_is)
    intro q_F_law_places
    refine' Ly.useF (Ly.stF_mk (x := "_law_put") (qual := "_law_put") (st := K01.s_law_put) (ps := ["_law_thing", "_law_place", "_law_new"]) KX G ?a ?l ?c ?k (fun _ _ _ _ _ _ us hl => match us, hl with | [_, _, _], _ => rfl)) ?r_law_put
    (case a => k_is); (case l => k_is); (case c => k_is); (case k => k_is)
    intro q_F_law_put
    refine' Ly.useF (Ly.stF_mk (x := "ask_in") (qual := "ask_in") (st := K01.s_ask_in) (ps := ["frame"]) KX G ?a ?l ?c ?k (fun _ _ _ _ _ _ us hl => match us, hl with | [_], _ => rfl)) ?r_ask_in
    (case a => k_is); (case l => k_is); (case c => k_is); (case k => k_is)
    intro q_F_ask_in
    refine' Ly.useF (Ly.stF_mk (x := "answer_in") (qual := "answer_in") (st := K01.s_answer_in) (ps := ["frame"]) KX G ?a ?l ?c ?k (fun _ _ _ _ _ _ us hl => match us, hl with | [_], _ => rfl)) ?r_answer_in
    (case a => k_is); (case l => k_is); (case c => k_is); (case k => k_is)
    intro q_F_answer_in
    refine' Ly.useF (Ly.stF_mk (x := "frame_text") (qual := "frame_text") (st := K01.s_frame_text) (ps := ["frame"]) KX G ?a ?l ?c ?k (fun _ _ _ _ _ _ us hl => match us, hl with | [_], _ => rfl)) ?r_frame_text
    (case a => k_is); (case l => k_is); (case c => k_is); (case k => k_is)
    intro q_F_frame_text
    refine' Ly.useF (Ly.stF_mk (x := "_law_spoilt_thing") (qual := "_law_spoilt_thing") (st := K01.s_law_spoilt_thing) (ps := ["_law_script", "_law_at", "_law_thing"]) KX G ?a ?l ?c ?k (fun _ _ _ _ _ _ us hl => match us, hl with | [_, _, _], _ => rfl)) ?r_law_spoilt_thing
    (case a => k_is); (case l => k_is); (case c => k_is); (case k => k_is)
    intro q_F_law_spoilt_thing
    refine' Ly.useF (Ly.stF_mk (x := "frame_ask") (qual := "frame_ask") (st := K01.s_frame_ask) (ps := ["frame"]) KX G ?a ?l ?c ?k (fun _ _ _ _ _ _ us hl => match us, hl with | [_], _ => rfl)) ?r_frame_ask
    (case a => k_is); (case l => k_is); (case c => k_is); (case k => k_is)
    intro q_F_frame_ask
    refine' Ly.useF (Ly.stF_mk (x := "frame_answer") (qual := "frame_answer") (st := K01.s_frame_answer) (ps := ["frame"]) KX G ?a ?l ?c ?k (fun _ _ _ _ _ _ us hl => match us, hl with | [_], _ => rfl)) ?r_frame_answer
    (case a => k_is); (case l => k_is); (case c => k_is); (case k => k_is)
    intro q_F_frame_answer
    refine' Ly.useF (Ly.stF_mk (x := "_law_do") (qual := "_law_do") (st := K01.s_law_do) (ps := ["_law_what", "_law_thing"]) KX G ?a ?l ?c ?k (fun _ _ _ _ _ _ us hl => match us, hl with | [_, _], _ => rfl)) ?r_law_do
    (case a => k_is); (case l => k_is); (case c => k_is); (case k => k_is)
    intro q_F_law_do
    refine' Exists.elim (Ly.lawF_mk (x := "law") (qual := "law") (st := K01.s_law) (p := "_law_script") KX G ?a ?l ?c ?k (fun _ _ _ _ _ _ us hl => match us, hl with | [_], _ => rfl)) ?r
    (case a => k_is); (case l => k_is); (case c => k_is); (case k => k_is)
    intro fl hfl
    obtain ⟨fdl, hF, hg, hb, hbd⟩ := hfl
    have T : K01.Txt (L2.KOf KX) mg := ⟨q_b_ValueError, q_b_all, q_b_bool, q_b_int, q_b_isinstance, q_b_len, q_b_list, q_b_range, q_b_str, q_b_sum, q_b_tuple, q_c_FIGURES, q_c_LONGEST, q_c_MOST_STATIONS, q_c_MOST_VALUES, q_c_NUMBERS, q_c_WORDS, q_x_NoFrame, q_x_NoNumber, q_a_Line_gone, q_a_Line_marks, q_a_Line_stations, q_a_Line_waiting, q_i_Fixed, q_i_NoAnswer, q_i_NoAsk, q_i_NoFrame, q_i_NoNumber, q_i_NoPlace, q_i_NoStation, q_i_NoText, q_u_LineError, q_k_LineError, q_v_ValueError, q_F_is_whole, q_F_Line_init, q_F_Line_next_mark, q_F_Line_used, q_F_text_of, q_F_law_cell, q_F_law_word, q_F_law_framed, q_F_law_is_frame, q_F_are_bytes, q_F_Line_back, q_F_law_pick, q_F_is_frame, q_F_framed, q_F_are_values, q_F_law_bytes, q_F_look_frame, q_F_is_ask, q_F_is_answer, q_F_law_places, q_F_law_put, q_F_ask_in, q_F_answer_in, q_F_Line_send, q_F_frame_text, q_F_law_spoilt_thing, q_F_frame_ask, q_F_frame_answer, q_F_law_do, ⟨⟨fl, fdl, hF, hg, hb⟩⟩⟩
    have e := hmg.symm.trans hg
    cases e
    refine ⟨fdl, hbd, fun base _ _ => Ly.law_fn rfl fun S ns => K01.ok_lawF T hF⟩
